import PyProof.Rows.All
import Wide.All
import OpenK.AllK
import Wide.FinOn
import HandS.ForMost
import HandS.IsInst
import HandS.Style
import HandS.Wide
import HandS.WideBits
import HandS.CallLocal
import HandS.Flow
import HandS.Defaults
import PySem.Challenge.RW_sharedrent_k01_fractions_of_rents
set_option Elab.async false
set_option linter.all false
set_option autoImplicit false
set_option maxRecDepth 100000
set_option maxHeartbeats 4000000
/-! Layer A over HandS: values with their data inside; only what is changed in place stands in a store. -/
namespace Lay
open PySem L2

/-- a value: what never changes is inside; a ref is a def, a class, or an object of the store -/
inductive A where
  | non | bl (b : Bool) | int (i : Int) | str (x : Str) | lst (xs : List A) | tup (xs : List A) | ref (a : Addr) | ty (n : String)
/-- an object that may be changed in place (frz: the script, only read) -/
inductive Cell where
  | lst (xs : List A)
  | frz (xs : List A)
  | ins (C dx : Addr) (fs : List (Str × A))
abbrev Sto := Addr → Option Cell
abbrev Msk := Addr → Prop
def sup (S : Sto) (a : Addr) (c : Cell) : Sto := fun b => if b = a then some c else S b
theorem sup_same {S : Sto} {a : Addr} {c : Cell} : sup S a c a = some c := by unfold sup; rw [if_pos rfl]
theorem sup_ne {S : Sto} {a b : Addr} {c : Cell} (h : b ≠ a) : sup S a c b = S b := by unfold sup; rw [if_neg h]
theorem sup_sup {S : Sto} {a : Addr} {c d : Cell} : sup (sup S a c) a d = sup S a d := by
  funext b; unfold sup; split <;> rfl
theorem sup_id {S : Sto} {a : Addr} {c : Cell} (h : S a = some c) : sup S a c = S := by
  funext b; unfold sup; split
  · rename_i e; rw [e, h]
  · rfl

mutual
def AV (M : Msk) (S : Sto) (H : Hp) : A → V → Prop
  | .non, v => v = .non
  | .bl b, v => v = .bl b
  | .int i, v => v = .int i
  | .str x, v => v = .str x
  | .ref a, v => v = .ref a
  | .ty n, v => v = .ty n
  | .lst xs, v => ∃ p vs, v = .ref p ∧ S p = none ∧ ¬ M p ∧ H p = some (.lst vs) ∧ AVs M S H xs vs
  | .tup xs, v => ∃ p vs, v = .ref p ∧ S p = none ∧ ¬ M p ∧ H p = some (.tup vs) ∧ AVs M S H xs vs
def AVs (M : Msk) (S : Sto) (H : Hp) : List A → List V → Prop
  | [], vs => vs = []
  | x :: xs, vs => ∃ v r, vs = v :: r ∧ AV M S H x v ∧ AVs M S H xs r
end

/-- what was not in the store stays, and out of the store -/
structure Ext (S : Sto) (H : Hp) (S' : Sto) (H' : Hp) : Prop where
  keep : ∀ b o, H b = some o → S b = none → H' b = some o ∧ S' b = none
theorem Ext.refl {S : Sto} {H : Hp} : Ext S H S H := ⟨fun _ _ h s => ⟨h, s⟩⟩
theorem Ext.trans {S S1 S2 : Sto} {H H1 H2 : Hp} (a : Ext S H S1 H1) (b : Ext S1 H1 S2 H2) : Ext S H S2 H2 :=
  ⟨fun c o h s => b.keep c o (a.keep c o h s).1 (a.keep c o h s).2⟩

structure Kx (M : Msk) (S : Sto) (H : Hp) (M' : Msk) (S' : Sto) (H' : Hp) : Prop where
  keep : ∀ b o, H b = some o → S b = none → ¬ M b → H' b = some o ∧ S' b = none ∧ ¬ M' b
theorem Ext.kx {M : Msk} {S S' : Sto} {H H' : Hp} (e : Ext S H S' H') : Kx M S H M S' H' := ⟨fun b o h s m => ⟨(e.keep b o h s).1, (e.keep b o h s).2, m⟩⟩
mutual
theorem AV.mono {M M' : Msk} {S S' : Sto} {H H' : Hp} (e : Kx M S H M' S' H') : ∀ (a : A) (v : V), AV M S H a v → AV M' S' H' a v
  | .non, _, h => h
  | .bl _, _, h => h
  | .int _, _, h => h
  | .str _, _, h => h
  | .ref _, _, h => h
  | .ty _, _, h => h
  | .lst xs, _, ⟨p, vs, h1, h2, h3, h4, h5⟩ => ⟨p, vs, h1, (e.keep p _ h4 h2 h3).2.1, (e.keep p _ h4 h2 h3).2.2, (e.keep p _ h4 h2 h3).1, AVs.mono e xs vs h5⟩
  | .tup xs, _, ⟨p, vs, h1, h2, h3, h4, h5⟩ => ⟨p, vs, h1, (e.keep p _ h4 h2 h3).2.1, (e.keep p _ h4 h2 h3).2.2, (e.keep p _ h4 h2 h3).1, AVs.mono e xs vs h5⟩
theorem AVs.mono {M M' : Msk} {S S' : Sto} {H H' : Hp} (e : Kx M S H M' S' H') : ∀ (as : List A) (vs : List V), AVs M S H as vs → AVs M' S' H' as vs
  | [], _, h => h
  | x :: xs, _, ⟨v, r, h1, h2, h3⟩ => ⟨v, r, h1, AV.mono e x v h2, AVs.mono e xs r h3⟩
end
section
variable {M : Msk} {S S' S1 : Sto} {H H' H1 : Hp} {a : A} {v : V} {as : List A} {vs : List V}
theorem AV.up (h : AV M S H a v) (e : Ext S H S' H') : AV M S' H' a v := AV.mono e.kx a v h
theorem AVs.up (h : AVs M S H as vs) (e : Ext S H S' H') : AVs M S' H' as vs := AVs.mono e.kx as vs h
theorem AVs.len : ∀ {as : List A} {vs : List V}, AVs M S H as vs → vs.length = as.length
  | [], _, h => by rw [show _ = [] from h]; rfl
  | x :: xs, _, ⟨v, r, h1, h2, h3⟩ => by rw [h1, List.length_cons, List.length_cons, AVs.len h3]
theorem AVs.get : ∀ {as : List A} {vs : List V} {i : Nat} {a : A}, AVs M S H as vs → as[i]? = some a → ∃ v, vs[i]? = some v ∧ AV M S H a v
  | [], _, i, _, _, e => by simp at e
  | x :: xs, _, 0, a, ⟨v, r, h1, h2, h3⟩, e => by
    simp at e
    subst e h1
    exact ⟨v, rfl, h2⟩
  | x :: xs, _, i + 1, a, ⟨v, r, h1, h2, h3⟩, e => by
    subst h1
    obtain ⟨w, e1, e2⟩ := AVs.get (i := i) (a := a) h3 (by simpa using e)
    exact ⟨w, by simpa using e1, e2⟩
theorem AVs.getv : ∀ {as : List A} {vs : List V} {i : Nat} {v : V}, AVs M S H as vs → vs[i]? = some v → ∃ a, as[i]? = some a ∧ AV M S H a v
  | [], vs, i, v, h, e => by rw [show vs = [] from h] at e; simp at e
  | x :: xs, _, 0, a, ⟨v, r, h1, h2, h3⟩, e => by
    subst h1
    simp at e
    subst e
    exact ⟨x, rfl, h2⟩
  | x :: xs, _, i + 1, a, ⟨v, r, h1, h2, h3⟩, e => by
    subst h1
    obtain ⟨w, e1, e2⟩ := AVs.getv (i := i) (v := a) h3 (by simpa using e)
    exact ⟨w, by simpa using e1, e2⟩
theorem AVs.app : ∀ {as bs : List A} {vs ws : List V}, AVs M S H as vs → AVs M S H bs ws → AVs M S H (as ++ bs) (vs ++ ws)
  | [], _, _, _, h, g => by rw [show _ = [] from h]; exact g
  | x :: xs, _, _, _, ⟨v, r, h1, h2, h3⟩, g => by
    subst h1
    exact ⟨v, _, rfl, h2, AVs.app h3 g⟩
theorem AVs.set : ∀ {as : List A} {vs : List V} (i : Nat), AVs M S H as vs → AV M S H a v → AVs M S H (as.set i a) (vs.set i v)
  | [], _, _, h, _ => by rw [show _ = [] from h]; rfl
  | x :: xs, _, 0, ⟨w, r, h1, h2, h3⟩, g => by subst h1; exact ⟨v, r, rfl, g, h3⟩
  | x :: xs, _, i + 1, ⟨w, r, h1, h2, h3⟩, g => by subst h1; exact ⟨w, _, rfl, h2, AVs.set i h3 g⟩
theorem AVs.take : ∀ {as : List A} {vs : List V} (n : Nat), AVs M S H as vs → AVs M S H (as.take n) (vs.take n)
  | _, _, 0, _ => rfl
  | [], _, n + 1, h => by rw [show _ = [] from h]; rfl
  | x :: xs, _, n + 1, ⟨w, r, h1, h2, h3⟩ => by subst h1; exact ⟨w, _, rfl, h2, AVs.take n h3⟩
theorem AVs.drop : ∀ {as : List A} {vs : List V} (n : Nat), AVs M S H as vs → AVs M S H (as.drop n) (vs.drop n)
  | _, _, 0, h => h
  | [], _, n + 1, h => by rw [show _ = [] from h]; rfl
  | x :: xs, _, n + 1, ⟨w, r, h1, h2, h3⟩ => by subst h1; exact AVs.drop n h3
theorem AVs.one (h : AV M S H a v) : AVs M S H [a] [v] := ⟨v, [], rfl, h, rfl⟩
theorem AVs.two {b : A} {w : V} (h : AV M S H a v) (g : AV M S H b w) : AVs M S H [a, b] [v, w] := ⟨v, _, rfl, h, .one g⟩
end

/-- fields -/
def FV (M : Msk) (S : Sto) (H : Hp) (fs : List (Str × A)) (fv : List (Str × V)) : Prop := fv.map (·.1) = fs.map (·.1) ∧ AVs M S H (fs.map (·.2)) (fv.map (·.2))
def CellR (M : Msk) (S : Sto) (H : Hp) (a : Addr) : Cell → Prop
  | .lst xs => ∃ vs, H a = some (.lst vs) ∧ AVs M S H xs vs
  | .frz xs => ∃ o vs, H a = some (.frz o (.lst vs)) ∧ AVs M S H xs vs
  | .ins C dx fs => ∃ fv, H a = some (.ins C dx fv) ∧ FV M S H fs fv
structure SH (M : Msk) (S : Sto) (H : Hp) : Prop where
  cell : ∀ a c, S a = some c → ¬ M a ∧ CellR M S H a c
  mask : ∀ a, M a → H a ≠ none
theorem CellR.there {M : Msk} {S : Sto} {H : Hp} {a : Addr} : ∀ {c : Cell}, CellR M S H a c → ∃ o, H a = some o
  | .lst _, ⟨_, h, _⟩ => ⟨_, h⟩
  | .frz _, ⟨_, _, h, _⟩ => ⟨_, h⟩
  | .ins _ _ _, ⟨_, h, _⟩ => ⟨_, h⟩
/-- a cell whose object stays stays one -/
theorem CellR.up {M M' : Msk} {S S' : Sto} {H H' : Hp} {a : Addr} (e : Kx M S H M' S' H') (h : ∀ o, H a = some o → H' a = some o) : ∀ {c : Cell}, CellR M S H a c → CellR M' S' H' a c
  | .lst _, ⟨vs, h1, h2⟩ => ⟨vs, h _ h1, AVs.mono e _ _ h2⟩
  | .frz _, ⟨o, vs, h1, h2⟩ => ⟨o, vs, h _ h1, AVs.mono e _ _ h2⟩
  | .ins _ _ _, ⟨fv, h1, h2⟩ => ⟨fv, h _ h1, h2.1, AVs.mono e _ _ h2.2⟩
section
variable {M : Msk} {S S' S1 : Sto} {H H' H1 : Hp} {a : A} {v : V} {as : List A} {vs : List V} {p : Addr}
theorem SH.there (h : SH M S H) {c : Cell} (e : S p = some c) : ∃ o, H p = some o := (h.cell p c e).2.there
theorem SH.free (h : SH M S H) (n : H p = none) : S p = none ∧ ¬ M p := by
  refine ⟨?_, fun z => h.mask p z n⟩
  cases e : S p with
  | none => rfl
  | some c =>
    obtain ⟨o, q⟩ := h.there e
    rw [n] at q
    cases q
/-- a new object that is not in the store -/
theorem SH.laid (h : SH M S H) (n : H p = none) (o : HO) : Ext S H S (upd H p o) ∧ SH M S (upd H p o) := by
  have e : Ext S H S (upd H p o) := ⟨fun b u q s => ⟨by rw [upd_ne (ne_of_none q n)]; exact q, s⟩⟩
  refine ⟨e, fun b c q => ⟨(h.cell b c q).1, (h.cell b c q).2.up e.kx fun u hu => by rw [upd_ne (ne_of_none hu n)]; exact hu⟩, fun b hb z => ?_⟩
  by_cases hbp : b = p
  · exact h.mask b hb (hbp ▸ n)
  · rw [upd_ne hbp] at z
    exact h.mask b hb z
/-- a new object that goes into the store -/
theorem SH.born (h : SH M S H) (n : H p = none) {o : HO} {c : Cell} (k : ∀ S' H', Ext S H S' H' → H' p = some o → CellR M S' H' p c) : Ext S H (sup S p c) (upd H p o) ∧ SH M (sup S p c) (upd H p o) := by
  have e : Ext S H (sup S p c) (upd H p o) := ⟨fun b u q s => ⟨by rw [upd_ne (ne_of_none q n)]; exact q, by rw [sup_ne (ne_of_none q n)]; exact s⟩⟩
  refine ⟨e, fun b d q => ?_, fun b hb z => ?_⟩
  · by_cases hb : b = p
    · subst hb
      rw [sup_same] at q
      cases q
      exact ⟨(h.free n).2, k _ _ e upd_same⟩
    · rw [sup_ne hb] at q
      exact ⟨(h.cell b d q).1, (h.cell b d q).2.up e.kx fun u hu => by rw [upd_ne hb]; exact hu⟩
  · by_cases hbp : b = p
    · exact h.mask b hb (hbp ▸ n)
    · rw [upd_ne hbp] at z
      exact h.mask b hb z
/-- an object of the store changes -/
theorem SH.put (h : SH M S H) {c0 c : Cell} (n : S p = some c0) {o : HO} (k : ∀ S' H', Ext S H S' H' → H' p = some o → CellR M S' H' p c) : Ext S H (sup S p c) (upd H p o) ∧ SH M (sup S p c) (upd H p o) := by
  have e : Ext S H (sup S p c) (upd H p o) := ⟨fun b u q s => by
    have nb : b ≠ p := fun z => by rw [z, n] at s; cases s
    exact ⟨by rw [upd_ne nb]; exact q, by rw [sup_ne nb]; exact s⟩⟩
  refine ⟨e, fun b d q => ?_, fun b hb z => ?_⟩
  · by_cases hb : b = p
    · subst hb
      rw [sup_same] at q
      cases q
      exact ⟨(h.cell b c0 n).1, k _ _ e upd_same⟩
    · rw [sup_ne hb] at q
      exact ⟨(h.cell b d q).1, (h.cell b d q).2.up e.kx fun u hu => by rw [upd_ne hb]; exact hu⟩
  · by_cases hbp : b = p
    · rw [hbp, upd_same] at z
      cases z
    · rw [upd_ne hbp] at z
      exact h.mask b hb z
end

/-! ### the frame's names -/
abbrev Nv := List (Option A)
structure Rl (M : Msk) (S : Sto) (H : Hp) (σ : St) (nv : Nv) : Prop where
  sh : SH M S H
  len : nv.length = σ.length
  at_ : ∀ (i : Nat) (a : A), nv[i]? = some (some a) → ∃ v, σ[i]? = some (some v) ∧ AV M S H a v
section
variable {M : Msk} {S S' S1 : Sto} {H H' H1 : Hp} {a : A} {v : V} {as : List A} {vs : List V} {p : Addr} {σ : St} {nv : Nv}
theorem Rl.up (r : Rl M S H σ nv) (e : Ext S H S' H') (h : SH M S' H') : Rl M S' H' σ nv := ⟨h, r.len, fun i a q => by
  obtain ⟨v, h1, h2⟩ := r.at_ i a q
  exact ⟨v, h1, h2.up e⟩⟩
theorem Rl.set (r : Rl M S H σ nv) (i : Nat) (h : AV M S H a v) : Rl M S H (σ.set i (some v)) (nv.set i (some a)) := by
  refine ⟨r.sh, by rw [List.length_set, List.length_set]; exact r.len, fun j b q => ?_⟩
  by_cases hj : i = j
  · subst hj
    by_cases hi : i < nv.length
    · rw [List.getElem?_set_self hi] at q
      cases q
      exact ⟨v, by rw [List.getElem?_set_self (by rw [← r.len]; exact hi)], h⟩
    · rw [List.getElem?_eq_none (by rw [List.length_set]; omega)] at q
      cases q
  · rw [List.getElem?_set_ne hj] at q
    rw [List.getElem?_set_ne hj]
    exact r.at_ j b q
end
/-- what is wanted, told of values with their data -/
abbrev PA' := A → Sto → Prop
def Wk (M : Msk) (P : A → Sto → Prop) (S : Sto) (H : Hp) (Q : VK) : Prop := ∀ a S' v H', P a S' → Ext S H S' H' → SH M S' H' → AV M S' H' a v → Q v H'
def Wb (M : Msk) (P : Bool → Sto → Prop) (S : Sto) (H : Hp) (Q : Bool → Hp → Prop) : Prop := ∀ b S' H', P b S' → Ext S H S' H' → SH M S' H' → Q b H'
def Wl (n : Nat) (M : Msk) (P : List A → Sto → Prop) (S : Sto) (H : Hp) (Q : List V → Hp → Prop) : Prop := ∀ as S' vs H', as.length = n → P as S' → Ext S H S' H' → SH M S' H' → AVs M S' H' as vs → Q vs H'
abbrev TEA := Nv → Sto → (A → Sto → Prop) → Prop
abbrev TTA := Nv → Sto → (Bool → Sto → Prop) → Prop
abbrev TAA := Nv → Sto → (List A → Sto → Prop) → Prop
def ER (t : TE) (te : TEA) : Prop := ∀ M σ H nv S P Q, Rl M S H σ nv → te nv S P → Wk M P S H Q → t σ H Q
def TR (t : TT) (te : TTA) : Prop := ∀ M σ H nv S P Q, Rl M S H σ nv → te nv S P → Wb M P S H Q → t σ H Q
def LR (n : Nat) (t : TA) (te : TAA) : Prop := ∀ M σ H nv S P Q, Rl M S H σ nv → te nv S P → Wl n M P S H Q → t σ H Q
/-- an expression, a test, arguments -/
structure EA (X : Cx) (e : Expr) (te : TEA) : Prop where
  ex : ∃ t, PE X e t ∧ ER t te
structure TA' (X : Cx) (e : Expr) (te : TTA) : Prop where
  ex : ∃ t, PT X e t ∧ TR t te
structure TW (X : Cx) (e : Expr) (te : TTA) : Prop where
  ex : ∃ t, PW X e t ∧ TR t te
structure LA (X : Cx) (es : List Expr) (te : TAA) : Prop where
  ex : ∃ t, PA X es t ∧ LR es.length t te

section
variable {X : Cx} {a b c e : Expr} {es : List Expr} {ta tb : TEA} {pos : Pos}

/-! ### names, constants -/
def eVar (i : Nat) : TEA := fun nv S P => match nv[i]? with
  | some (some a) => P a S
  | _ => False
def eC (a : A) : TEA := fun _ S P => P a S
theorem ea_var (i : Nat) {x : Str} (hN : X.N[i]? = some x := by rfl) (hv : Vis X.env.scope x := by first | exact Or.inl rfl | exact Or.inr (Or.inl rfl) | exact Or.inr (Or.inr rfl)) (hd : (x == ("__debug__" : Str)) = false := by decide)
    (hcd : (x == ("__classdict__" : Str)) = false := by decide) : EA X (.Name x pos) (eVar i) := by
  refine ⟨_, pe_var hN hv hd hcd, fun M σ H nv S P Q r h k => ?_⟩
  unfold eVar at h
  split at h
  · rename_i a q
    obtain ⟨v, h1, h2⟩ := r.at_ i a q
    exact ⟨v, h1, k a S v H h .refl r.sh h2⟩
  · exact h.elim
theorem ea_int {i j} : EA X (.Constant (.int i) j pos) (eC (.int i)) := ⟨_, pe_int, fun M σ H nv S P Q r h k => k _ S _ H h .refl r.sh rfl⟩
theorem ea_bl {b j} : EA X (.Constant (.bool b) j pos) (eC (.bl b)) := ⟨_, pe_bl, fun M σ H nv S P Q r h k => k _ S _ H h .refl r.sh rfl⟩
theorem ea_non {j} : EA X (.Constant .none j pos) (eC .non) := ⟨_, pe_non, fun M σ H nv S P Q r h k => k _ S _ H h .refl r.sh rfl⟩
theorem ea_str {x j} : EA X (.Constant (.str x) j pos) (eC (.str x)) := ⟨_, pe_str, fun M σ H nv S P Q r h k => k _ S _ H h .refl r.sh rfl⟩
/-- a name of the module that holds a def, a class, a flat constant -/
def flatA : A → V → Prop
  | .lst _, _ => False
  | .tup _, _ => False
  | .non, v => v = .non
  | .bl b, v => v = .bl b
  | .int i, v => v = .int i
  | .str x, v => v = .str x
  | .ref a, v => v = .ref a
  | .ty n, v => v = .ty n
theorem flatA.av {M : Msk} {S : Sto} {H : Hp} : ∀ {a : A} {v : V}, flatA a v → AV M S H a v
  | .non, _, h => h
  | .bl _, _, h => h
  | .int _, _, h => h
  | .str _, _, h => h
  | .ref _, _, h => h
  | .ty _, _, h => h
  | .lst _, _, h => h.elim
  | .tup _, _, h => h.elim
theorem ea_glob {x : Str} {v : V} {z : A} {u : Value} (hg : Gl X x) (hm : X.mg x = some u) (r : RelV v u) (f : flatA z v) (hd : (x == ("__debug__" : Str)) = false := by decide) : EA X (.Name x pos) (eC z) :=
  ⟨_, pe_glob hg hm r hd, fun M σ H nv S P Q r h k => k _ S _ H h .refl r.sh f.av⟩
theorem ea_gfn {x : Str} {f : Addr} (hm : X.mg x = some (.ref f)) (hg : Gl X x := by rfl) (hd : (x == ("__debug__" : Str)) = false := by decide) : EA X (.Name x pos) (eC (.ref f)) := ea_glob (v := .ref f) hg hm rfl rfl hd
theorem ea_ty {x : Str} (n : String) (hm : X.mg x = none) (hv : bootBuiltins x = some (.type n) := by decide +kernel) (hg : Gl X x := by rfl) (hn : x ≠ "__name__" := by decide) (hd : (x == ("__debug__" : Str)) = false := by decide) : EA X (.Name x pos) (eC (.ty n)) :=
  ⟨_, pe_bltn (v := .ty n) hg hm hv rfl hn hd, fun M σ H nv S P Q r h k => k _ S _ H h .refl r.sh rfl⟩

/-! ### two expressions in a row -/
theorem ER.bin {ua ub : TE} (ha : ER ua ta) (hb : ER ub tb) {M : Msk} {σ : St} {H : Hp} {nv : Nv} {S : Sto} (r : Rl M S H σ nv) {R : V → V → Hp → Prop} {P : A → A → Sto → Prop}
    (h : ta nv S fun x S1 => tb nv S1 fun y S2 => P x y S2) (k : ∀ x y S' u v H', P x y S' → Ext S H S' H' → SH M S' H' → AV M S' H' x u → AV M S' H' y v → R u v H') : ua σ H fun u H1 => ub σ H1 fun v H2 => R u v H2 := by
  refine ha M σ H nv S _ _ r h fun x S1 u H1 p e1 s1 a1 => ?_
  refine hb M σ H1 nv S1 _ _ (r.up e1 s1) p fun y S2 v H2 p2 e2 s2 a2 => ?_
  exact k x y S2 u v H2 p2 (e1.trans e2) s2 (a1.up e2) a2
abbrev RA2 := A → A → Sto → (A → Sto → Prop) → Prop
/-- an operation on values -/
def OpX (X : Cx) (f : Value → Value → Sem Value) (ra : RA2) : Prop := ∃ r : R2, OpR X f r ∧ ∀ M S H x y u v P Q, SH M S H → AV M S H x u → AV M S H y v → ra x y S P → Wk M P S H Q → r u v H Q
def eOp (ra : RA2) (ta tb : TEA) : TEA := fun nv S P => ta nv S fun x S1 => tb nv S1 fun y S2 => ra x y S2 P
theorem ea_op {op : Operator} {ra : RA2} (ho : OpX X (binaryOp op) ra) (ha : EA X a ta) (hb : EA X b tb) : EA X (.BinOp a op b pos) (eOp ra ta tb) := by
  obtain ⟨r, h1, h2⟩ := ho
  obtain ⟨ua, pa, ka⟩ := ha
  obtain ⟨ub, pb, kb⟩ := hb
  refine ⟨_, pe_op h1 pa pb, fun M σ H nv S P Q q h k => ?_⟩
  exact ka.bin kb q h fun x y S' u v H' p e s a1 a2 => h2 M S' H' x y u v P Q s a1 a2 p fun z S2 w H2 p2 e2 s2 a3 => k z S2 w H2 p2 (e.trans e2) s2 a3
theorem ea_cmp {op : CmpOp} {ra : RA2} (ho : OpX X (compareOp op) ra) (ha : EA X a ta) (hb : EA X b tb) (hm : behindInMarks op b = false := by first | exact nobehind _ (by decide) (by decide) | rfl) : EA X (.Compare a [op] [b] pos) (eOp ra ta tb) := by
  obtain ⟨r, h1, h2⟩ := ho
  obtain ⟨ua, pa, ka⟩ := ha
  obtain ⟨ub, pb, kb⟩ := hb
  refine ⟨_, pe_cmpR h1 pa pb hm, fun M σ H nv S P Q q h k => ?_⟩
  exact ka.bin kb q h fun x y S' u v H' p e s a1 a2 => h2 M S' H' x y u v P Q s a1 a2 p fun z S2 w H2 p2 e2 s2 a3 => k z S2 w H2 p2 (e.trans e2) s2 a3
end
end Lay

namespace Lay
open PySem L2 PyProof.Rows
/-! ### lists of the store -/
/-- a list: inside, or an object of the store -/
def lstv (S : Sto) : A → Option (List A)
  | .lst xs => some xs
  | .ref p => match S p with
    | some (.lst xs) => some xs
    | _ => none
  | _ => none
/-- .. or the script -/
def lstr (S : Sto) : A → Option (List A)
  | .lst xs => some xs
  | .ref p => match S p with
    | some (.lst xs) => some xs
    | some (.frz xs) => some xs
    | _ => none
  | _ => none
section
variable {M : Msk} {S S' : Sto} {H H' : Hp} {x : A} {u : V} {xs : List A} {p : Addr}
theorem lstv_ok (s : SH M S H) (a : AV M S H x u) (h : lstv S x = some xs) : ∃ p vs, u = .ref p ∧ H p = some (.lst vs) ∧ AVs M S H xs vs := by
  cases x with
  | lst ys =>
    cases h
    obtain ⟨p, vs, h1, h2, h3, h4, h5⟩ := a
    exact ⟨p, vs, h1, h4, h5⟩
  | ref p =>
    unfold lstv at h
    dsimp only at h
    split at h
    · rename_i ys q
      cases h
      obtain ⟨vs, h1, h2⟩ := (s.cell p _ q).2
      exact ⟨p, vs, a, h1, h2⟩
    · cases h
  | _ => cases h
theorem lstr_ok (s : SH M S H) (a : AV M S H x u) (h : lstr S x = some xs) : ∃ p vs, u = .ref p ∧ Rd H p (.lst vs) ∧ AVs M S H xs vs := by
  cases x with
  | lst ys =>
    cases h
    obtain ⟨p, vs, h1, h2, h3, h4, h5⟩ := a
    exact ⟨p, vs, h1, .inl h4, h5⟩
  | ref p =>
    unfold lstr at h
    dsimp only at h
    split at h
    · rename_i ys q
      cases h
      obtain ⟨vs, h1, h2⟩ := (s.cell p _ q).2
      exact ⟨p, vs, a, .inl h1, h2⟩
    · rename_i ys q
      cases h
      obtain ⟨o, vs, h1, h2⟩ := (s.cell p _ q).2
      exact ⟨p, vs, a, .inr ⟨o, h1⟩, h2⟩
    · cases h
  | _ => cases h
/-- a new list, a new tuple, inside a value -/
theorem Wk.lst {P : A → Sto → Prop} {Q : VK} {vs : List V} (k : Wk M P S H Q) (s : SH M S H) (a : AVs M S H xs vs) (h : P (.lst xs) S) (n : H p = none) : Q (.ref p) (upd H p (.lst vs)) := by
  obtain ⟨e, s'⟩ := s.laid n (.lst vs)
  exact k _ S _ _ h e s' ⟨p, vs, rfl, (s.free n).1, (s.free n).2, upd_same, a.up e⟩
theorem Wk.tup {P : A → Sto → Prop} {Q : VK} {vs : List V} (k : Wk M P S H Q) (s : SH M S H) (a : AVs M S H xs vs) (h : P (.tup xs) S) (n : H p = none) : Q (.ref p) (upd H p (.tup vs)) := by
  obtain ⟨e, s'⟩ := s.laid n (.tup vs)
  exact k _ S _ _ h e s' ⟨p, vs, rfl, (s.free n).1, (s.free n).2, upd_same, a.up e⟩
/-- a new list of the store -/
theorem Wk.cell {P : A → Sto → Prop} {Q : VK} {vs : List V} (k : Wk M P S H Q) (s : SH M S H) (a : AVs M S H xs vs) (h : ∀ p, S p = none → P (.ref p) (sup S p (.lst xs))) (n : H p = none) : Q (.ref p) (upd H p (.lst vs)) := by
  have b := s.born n (o := .lst vs) (c := .lst xs) fun S' H' e q => ⟨vs, q, a.up e⟩
  exact k _ _ _ _ (h p (s.free n).1) b.1 b.2 rfl
theorem Wk.same {P : A → Sto → Prop} {Q : VK} {z : A} {v : V} (k : Wk M P S H Q) (s : SH M S H) (h : P z S) (a : AV M S H z v) : Q v H := k z S v H h .refl s a
end

/-! ### operations -/
section
variable {X : Cx}
theorem OpX.or {f : Value → Value → Sem Value} {ra rb rc : RA2} (a : OpX X f ra) (b : OpX X f rb) (h : ∀ x y S P, rc x y S P → ra x y S P ∨ rb x y S P) : OpX X f rc := by
  obtain ⟨r1, a1, a2⟩ := a
  obtain ⟨r2, b1, b2⟩ := b
  refine ⟨fun u v H Q => r1 u v H Q ∨ r2 u v H Q, fun pins s σ H x y v u Q I rx ry q => q.elim (a1 pins s σ H x y v u Q I rx ry) (b1 pins s σ H x y v u Q I rx ry), fun M S H x y u v P Q s ax ay q k => ?_⟩
  rcases h x y S P q with q | q
  · exact .inl (a2 M S H x y u v P Q s ax ay q k)
  · exact .inr (b2 M S H x y u v P Q s ax ay q k)
/-- two ints in, under C, an int or a bool out -/
def rInt (C : Int → Int → Prop) (g : Int → Int → A) : RA2 := fun x y S P => match x, y with
  | .int i, .int j => C i j ∧ P (g i j) S
  | _, _ => False
def rInt0 (g : Int → Int → A) : RA2 := fun x y S P => match x, y with
  | .int i, .int j => P (g i j) S
  | _, _ => False
theorem ox_int {f : Value → Value → Sem Value} {C : Int → Int → Prop} {g : Int → Int → V} {ga : Int → Int → A} (h : OpR X f (rI C g)) (hg : ∀ i j, flatA (ga i j) (g i j)) : OpX X f (rInt C ga) := by
  refine ⟨_, h, fun M S H x y u v P Q s ax ay q k => ?_⟩
  unfold rInt at q
  split at q
  · rename_i i j
    exact ⟨i, j, ax, ay, q.1, k.same s q.2 (hg i j).av⟩
  · exact q.elim
theorem ox_int0 {f : Value → Value → Sem Value} {g : Int → Int → V} {ga : Int → Int → A} (h : OpR X f (rI0 g)) (hg : ∀ i j, flatA (ga i j) (g i j)) : OpX X f (rInt0 ga) := by
  refine ⟨_, h, fun M S H x y u v P Q s ax ay q k => ?_⟩
  unfold rInt0 at q
  split at q
  · rename_i i j
    exact ⟨i, j, ax, ay, k.same s q (hg i j).av⟩
  · exact q.elim
def rStrA : RA2 := fun x y S P => match x, y with
  | .str s, .str t => s.length + t.length ≤ sizeLine ∧ P (.str (s ++ t)) S
  | _, _ => False
theorem ox_addS : OpX X (binaryOp .Add) rStrA := by
  refine ⟨_, op_add_str, fun M S H x y u v P Q s ax ay q k => ?_⟩
  unfold rStrA at q
  split at q
  · exact ⟨_, _, ax, ay, q.1, k.same s q.2 rfl⟩
  · exact q.elim
def rCatA : RA2 := fun x y S P => ∃ xs ys, lstv S x = some xs ∧ lstv S y = some ys ∧ xs.length + ys.length ≤ sizeLine ∧ P (.lst (xs ++ ys)) S
theorem ox_cat : OpX X (binaryOp .Add) rCatA := by
  refine ⟨_, op_cat, fun M S H x y u v P Q s ax ay q k => ?_⟩
  obtain ⟨xs, ys, h1, h2, h3, h4⟩ := q
  obtain ⟨p, vs, e1, g1, a1⟩ := lstv_ok s ax h1
  obtain ⟨q, ws, e2, g2, a2⟩ := lstv_ok s ay h2
  exact ⟨p, q, vs, ws, e1, e2, g1, g2, by rw [a1.len, a2.len]; exact h3, fun l n => k.lst s (a1.app a2) h4 n⟩
/-- + of ints, texts, lists -/
def rAddA : RA2 := fun x y S P => match x, y with
  | .int i, .int j => P (.int (i + j)) S
  | .str s, .str t => s.length + t.length ≤ sizeLine ∧ P (.str (s ++ t)) S
  | x, y => rCatA x y S P
theorem oa_add : OpX X (binaryOp .Add) rAddA :=
  (ox_int0 (ga := fun i j => .int (i + j)) op_add fun _ _ => rfl).or (rb := fun x y S P => rStrA x y S P ∨ rCatA x y S P) (ox_addS.or ox_cat fun _ _ _ _ q => q) fun x y S P q => by
    unfold rAddA at q
    split at q
    · exact .inl q
    · exact .inr (.inl q)
    · exact .inr (.inr q)
theorem oa_sub : OpX X (binaryOp .Sub) (rInt0 fun i j => .int (i - j)) := ox_int0 op_sub fun _ _ => rfl
theorem oa_mul : OpX X (binaryOp .Mult) (rInt CMulW fun i j => .int (i * j)) := ox_int op_mulW fun _ _ => rfl
/-- // by a positive divisor -/
theorem oa_fdiv : OpX X (binaryOp .FloorDiv) (rInt CDivW fun i j => .int (i / j)) := ox_int op_fdivW fun _ _ => rfl
/-- // by any divisor but 0 -/
def CDivX (_ j : Int) : Prop := j ≠ 0 ∧ j.natAbs.log2 < 9000
theorem op_fdivX : OpR X (binaryOp .FloorDiv) (rI CDivX fun i j => .int (i.fdiv j)) := opI fun i j _ _ _ _ _ hc q => floordiv_int hc.1 q (.inl (PyProof.noPylong_of_log2 hc.2))
theorem oa_fdivX : OpX X (binaryOp .FloorDiv) (rInt CDivX fun i j => .int (i.fdiv j)) := ox_int op_fdivX fun _ _ => rfl
theorem oa_mod : OpX X (binaryOp .Mod) (rInt (fun _ j => 0 < j) fun i j => .int (i % j)) := ox_int op_mod fun _ _ => rfl
theorem oa_modN : OpX X (binaryOp .Mod) (rInt (fun _ j => j ≠ 0) fun i j => .int (i.fmod j)) := ox_int op_modN fun _ _ => rfl
def CPowX (i j : Int) : Prop := 0 ≤ j ∧ (Builtin.Int.intBits i : Int) * j ≤ 2 ^ 27
theorem op_powX : OpR X (binaryOp .Pow) (rI CPowX fun i j => .int (i ^ j.toNat)) := opI fun _ _ _ _ _ _ _ hc q => pow_int hc.1 hc.2 q
theorem oa_pow : OpX X (binaryOp .Pow) (rInt CPowX fun i j => .int (i ^ j.toNat)) := ox_int op_powX fun _ _ => rfl
theorem oa_lt : OpX X (compareOp .Lt) (rInt0 fun i j => .bl (decide (i < j))) := ox_int0 op_lt fun _ _ => rfl
theorem oa_le : OpX X (compareOp .LtE) (rInt0 fun i j => .bl (decide (i ≤ j))) := ox_int0 op_le fun _ _ => rfl
theorem oa_gt : OpX X (compareOp .Gt) (rInt0 fun i j => .bl (decide (j < i))) := ox_int0 op_gt fun _ _ => rfl
theorem oa_ge : OpX X (compareOp .GtE) (rInt0 fun i j => .bl (decide (j ≤ i))) := ox_int0 op_ge fun _ _ => rfl

/-! ### == -/
mutual
def pyd : A → Option PyData
  | .non => some .none
  | .bl b => some (.bool b)
  | .int i => some (.int i)
  | .str s => some (.str s)
  | .lst xs => (pyds xs).map .list
  | .tup xs => (pyds xs).map .tuple
  | .ref _ => none
  | .ty _ => none
def pyds : List A → Option (List PyData)
  | [] => some []
  | x :: xs => match pyd x, pyds xs with
    | some d, some ds => some (d :: ds)
    | _, _ => none
end
/-- the list of the store as a value -/
def rsv (S : Sto) (x : A) : A := match lstr S x with
  | some xs => .lst xs
  | none => x
mutual
theorem pyd_ok {K : PySem.W.Frag} {M : Msk} {S : Sto} {H : Hp} : ∀ (x : A) (u : V) (d : PyData), AV M S H x u → pyd x = some d → Dp K H u d
  | .non, _, _, a, h => by cases h; rw [show _ = _ from a]; exact .non
  | .bl b, _, _, a, h => by cases h; rw [show _ = _ from a]; exact .bl b
  | .int i, _, _, a, h => by cases h; rw [show _ = _ from a]; exact .int i
  | .str i, _, _, a, h => by cases h; rw [show _ = _ from a]; exact .str i
  | .lst xs, _, d, ⟨p, vs, h1, h2, h3, h4, h5⟩, h => by
    unfold pyd at h
    cases e : pyds xs with
    | none => rw [e] at h; cases h
    | some ds =>
      rw [e] at h
      cases h
      rw [h1]
      exact .lst (SqL.of h4) (pyds_ok xs vs ds h5 e)
  | .tup xs, _, d, ⟨p, vs, h1, h2, h3, h4, h5⟩, h => by
    unfold pyd at h
    cases e : pyds xs with
    | none => rw [e] at h; cases h
    | some ds =>
      rw [e] at h
      cases h
      rw [h1]
      exact .tup (SqT.of h4) (pyds_ok xs vs ds h5 e)
  | .ref _, _, _, _, h => by cases h
  | .ty _, _, _, _, h => by cases h
theorem pyds_ok {K : PySem.W.Frag} {M : Msk} {S : Sto} {H : Hp} : ∀ (xs : List A) (vs : List V) (ds : List PyData), AVs M S H xs vs → pyds xs = some ds → DpAll K H vs ds
  | [], _, _, a, h => by cases h; rw [show _ = _ from a]; exact .nil
  | x :: xs, _, ds, ⟨v, r, h1, h2, h3⟩, h => by
    unfold pyds at h
    split at h
    · rename_i d ds' e1 e2
      cases h
      rw [h1]
      exact .cons (pyd_ok x v d h2 e1) (pyds_ok xs r ds' h3 e2)
    · cases h
end
theorem rsv_ok {K : PySem.W.Frag} {M : Msk} {S : Sto} {H : Hp} {x : A} {u : V} {d : PyData} (s : SH M S H) (a : AV M S H x u) (h : pyd (rsv S x) = some d) : Dp K H u d := by
  unfold rsv at h
  split at h
  · rename_i xs q
    obtain ⟨p, vs, h1, h2, h3⟩ := lstr_ok s a q
    unfold pyd at h
    cases e : pyds xs with
    | none => rw [e] at h; cases h
    | some ds =>
      rw [e] at h
      cases h
      rw [h1]
      exact .lst (.inl h2) (pyds_ok xs vs ds h3 e)
  · exact pyd_ok x u d a h
def rEqDA (neg : Bool) : RA2 := fun x y S P => ∃ d e, pyd (rsv S x) = some d ∧ pyd (rsv S y) = some e ∧ SeqAt.shaped d = true ∧ SeqAt.shaped e = true ∧ P (.bl (if neg then !PyData.eqv d e else PyData.eqv d e)) S
theorem ox_eqD (hu : X.A.units + 64 < cLine) : OpX X (compareOp .Eq) (rEqDA false) := by
  refine ⟨_, op_eqD hu, fun M S H x y u v P Q s ax ay q k => ?_⟩
  obtain ⟨d, e, h1, h2, h3, h4, h5⟩ := q
  exact ⟨d, e, rsv_ok s ax h1, rsv_ok s ay h2, h3, h4, k.same s h5 rfl⟩
theorem ox_neD (hu : X.A.units + 64 < cLine) : OpX X (compareOp .NotEq) (rEqDA true) := by
  refine ⟨_, op_neD hu, fun M S H x y u v P Q s ax ay q k => ?_⟩
  obtain ⟨d, e, h1, h2, h3, h4, h5⟩ := q
  exact ⟨d, e, rsv_ok s ax h1, rsv_ok s ay h2, h3, h4, k.same s h5 rfl⟩
/-- == of two ints, two texts, two bools; else of data -/
def rEqA (neg : Bool) : RA2 := fun x y S P => match x, y with
  | .int i, .int j => P (.bl (if neg then !decide (i = j) else decide (i = j))) S
  | .str i, .str j => P (.bl (if neg then !decide (i = j) else decide (i = j))) S
  | x, y => rEqDA neg x y S P
def rEqF (neg : Bool) : RA2 := fun x y S P => match x, y with
  | .int i, .int j => P (.bl (if neg then !decide (i = j) else decide (i = j))) S
  | .str i, .str j => P (.bl (if neg then !decide (i = j) else decide (i = j))) S
  | _, _ => False
theorem dec_vint (i j : Int) : decide (V.int i = V.int j) = decide (i = j) := by
  rw [Bool.eq_iff_iff]; simp
theorem dec_vstr (i j : Str) : decide (V.str i = V.str j) = decide (i = j) := by
  rw [Bool.eq_iff_iff]; simp
theorem ox_eqF : OpX X (compareOp .Eq) (rEqF false) := by
  refine ⟨_, op_eq, fun M S H x y u v P Q s ax ay q k => ?_⟩
  unfold rEqF at q
  split at q
  · rw [show u = _ from ax, show v = _ from ay]
    exact ⟨rfl, k.same s q (by rw [dec_vint]; rfl)⟩
  · rw [show u = _ from ax, show v = _ from ay]
    exact ⟨rfl, k.same s q (by rw [dec_vstr]; rfl)⟩
  · exact q.elim
theorem ox_neF : OpX X (compareOp .NotEq) (rEqF true) := by
  refine ⟨_, op_ne, fun M S H x y u v P Q s ax ay q k => ?_⟩
  unfold rEqF at q
  split at q
  · rw [show u = _ from ax, show v = _ from ay]
    exact ⟨rfl, k.same s q (by rw [dec_vint]; rfl)⟩
  · rw [show u = _ from ax, show v = _ from ay]
    exact ⟨rfl, k.same s q (by rw [dec_vstr]; rfl)⟩
  · exact q.elim
theorem oa_eq (hu : X.A.units + 64 < cLine) : OpX X (compareOp .Eq) (rEqA false) := ox_eqF.or (ox_eqD hu) fun x y S P q => by
  unfold rEqA at q
  split at q
  · exact .inl q
  · exact .inl q
  · exact .inr q
theorem oa_ne (hu : X.A.units + 64 < cLine) : OpX X (compareOp .NotEq) (rEqA true) := ox_neF.or (ox_neD hu) fun x y S P q => by
  unfold rEqA at q
  split at q
  · exact .inl q
  · exact .inl q
  · exact .inr q
/-! ### is -/
def isNon : A → Bool
  | .non => true
  | _ => false
def isBlOf (b : Bool) : A → Bool
  | .bl c => c == b
  | _ => false
def rIsA (neg : Bool) : RA2 := fun x y S P => match y with
  | .non => P (.bl (if neg then !isNon x else isNon x)) S
  | .bl b => P (.bl (if neg then !isBlOf b x else isBlOf b x)) S
  | _ => False
def rIsV (neg : Bool) : R2 := fun x y H Q => (y = .non ∨ ∃ b, y = .bl b) ∧ Q (.bl (if neg then !decide (x = y) else decide (x = y))) H
theorem plain_of {x y : V} {v u : Value} (rx : RelV x v) (ry : RelV y u) (h : y = .non ∨ ∃ b, y = .bl b) : plainIs v u = true ∧ (v == u) = decide (x = y) := by
  rcases h with rfl | ⟨b, rfl⟩
  · cases (show u = Value.none from ry)
    refine ⟨?_, rx.none_iff⟩
    cases x <;> first | (cases rx; rfl) | (obtain ⟨t, rfl⟩ := rx; rfl)
  · cases (show u = Value.bool b from ry)
    cases x with
    | bl c =>
      cases (show v = Value.bool c from rx)
      refine ⟨rfl, ?_⟩
      rw [dec_bl, Bool.eq_iff_iff, beq_iff_eq, beq_iff_eq]
      exact ⟨fun e => Value.bool.inj e, fun e => by rw [e]⟩
    | non => cases rx; exact ⟨rfl, by simp⟩
    | ref _ => cases rx; exact ⟨rfl, by simp⟩
    | ty _ => cases rx; exact ⟨rfl, by simp⟩
    | int _ => obtain ⟨t, rfl⟩ := rx; exact ⟨rfl, by simp⟩
    | str _ => obtain ⟨t, rfl⟩ := rx; exact ⟨rfl, by simp⟩
    | byt _ => obtain ⟨t, rfl⟩ := rx; exact ⟨rfl, by simp⟩
    | flt _ => obtain ⟨t, rfl⟩ := rx; exact ⟨rfl, by simp⟩
theorem op_isV : OpR X (compareOp .Is) (rIsV false) := by
  intro pins s σ H x y v u Q I rx ry h
  obtain ⟨h, q⟩ := h
  obtain ⟨p1, p2⟩ := plain_of rx ry h
  exact wpAny_is_plain p1 ⟨_, H, I, by rw [p2]; rfl, q⟩
theorem op_isNotV : OpR X (compareOp .IsNot) (rIsV true) := by
  intro pins s σ H x y v u Q I rx ry h
  obtain ⟨h, q⟩ := h
  obtain ⟨p1, p2⟩ := plain_of rx ry h
  exact wpAny_isNot_plain p1 ⟨_, H, I, by rw [p2]; rfl, q⟩
theorem isNon_ok {M : Msk} {S : Sto} {H : Hp} : ∀ {x : A} {u : V}, AV M S H x u → decide (u = .non) = isNon x
  | .non, _, h => by rw [show _ = _ from h]; rfl
  | .bl _, _, h => by rw [show _ = _ from h]; rfl
  | .int _, _, h => by rw [show _ = _ from h]; rfl
  | .str _, _, h => by rw [show _ = _ from h]; rfl
  | .ref _, _, h => by rw [show _ = _ from h]; rfl
  | .ty _, _, h => by rw [show _ = _ from h]; rfl
  | .lst _, _, ⟨p, vs, h1, _⟩ => by rw [h1]; rfl
  | .tup _, _, ⟨p, vs, h1, _⟩ => by rw [h1]; rfl
theorem isBlOf_ok {M : Msk} {S : Sto} {H : Hp} (b : Bool) : ∀ {x : A} {u : V}, AV M S H x u → decide (u = .bl b) = isBlOf b x
  | .non, _, h => by rw [show _ = _ from h]; rfl
  | .bl c, _, h => by rw [show _ = _ from h, dec_bl]; rfl
  | .int _, _, h => by rw [show _ = _ from h]; rfl
  | .str _, _, h => by rw [show _ = _ from h]; rfl
  | .ref _, _, h => by rw [show _ = _ from h]; rfl
  | .ty _, _, h => by rw [show _ = _ from h]; rfl
  | .lst _, _, ⟨p, vs, h1, _⟩ => by rw [h1]; rfl
  | .tup _, _, ⟨p, vs, h1, _⟩ => by rw [h1]; rfl
theorem rIs_ok (neg : Bool) (M : Msk) (S : Sto) (H : Hp) (x y : A) (u v : V) (P : A → Sto → Prop) (Q : VK) (s : SH M S H) (ax : AV M S H x u) (ay : AV M S H y v) (q : rIsA neg x y S P) (k : Wk M P S H Q) : rIsV neg u v H Q := by
  unfold rIsA at q
  split at q
  · cases (show v = V.non from ay)
    exact ⟨.inl rfl, k.same s q (by rw [isNon_ok ax]; rfl)⟩
  · rename_i b
    cases (show v = V.bl b from ay)
    exact ⟨.inr ⟨b, rfl⟩, k.same s q (by rw [isBlOf_ok b ax]; rfl)⟩
  · exact q.elim
theorem oa_is : OpX X (compareOp .Is) (rIsA false) := ⟨_, op_isV, rIs_ok false⟩
theorem oa_isNot : OpX X (compareOp .IsNot) (rIsA true) := ⟨_, op_isNotV, rIs_ok true⟩
end
end Lay

namespace Lay
open PySem L2 PyProof.Rows
/-- by a bool -/
def bsel (b : Bool) (p q : Prop) : Prop := match b with
  | true => p
  | false => q
theorem bsel_i {b : Bool} {p q : Prop} (h1 : b = true → p) (h2 : b = false → q) : bsel b p q := by
  cases b
  · exact h2 rfl
  · exact h1 rfl
theorem bsel_t {b : Bool} {p q : Prop} (e : b = true) (h : p) : bsel b p q := by
  subst e
  exact h
theorem bsel_f {b : Bool} {p q : Prop} (e : b = false) (h : q) : bsel b p q := by
  subst e
  exact h
theorem bsel_if {b : Bool} {p q : Prop} (h : bsel b p q) : if b = true then p else q := by
  cases b
  · exact h
  · exact h
section
variable {X : Cx} {a b c e : Expr} {es rest : List Expr} {ta tb : TEA} {tA tB' : TTA} {pos : Pos}
/-! ### tests -/
/-- an expression whose value is a bool -/
def tBool (te : TEA) : TTA := fun nv S P => te nv S fun a S1 => match a with
  | .bl b => P b S1
  | _ => False
theorem TR_bool {t : TE} {te : TEA} (h : ER t te) : TR (tTest t) (tBool te) := fun M σ H nv S P Q r q k => by
  refine h M σ H nv S _ _ r q fun a S' v H' p e s av => ?_
  split at p
  · rename_i b
    exact ⟨b, av, k b S' H' p e s⟩
  · exact p.elim
theorem tt_cmp {op : CmpOp} {ra : RA2} (ho : OpX X (compareOp op) ra) (ha : EA X a ta) (hb : EA X b tb) (hm : behindInMarks op b = false := by first | exact nobehind _ (by decide) (by decide) | rfl) : TA' X (.Compare a [op] [b] pos) (tBool (eOp ra ta tb)) := by
  obtain ⟨r, h1, h2⟩ := ho
  obtain ⟨ua, pa, ka⟩ := ha
  obtain ⟨ub, pb, kb⟩ := hb
  refine ⟨_, pt_cmpR h1 pa pb hm, TR_bool fun M σ H nv S P Q q h k => ?_⟩
  exact ka.bin kb q h fun x y S' u v H' p e s a1 a2 => h2 M S' H' x y u v P Q s a1 a2 p fun z S2 w H2 p2 e2 s2 a3 => k z S2 w H2 p2 (e.trans e2) s2 a3
theorem tt_val (h : EA X e ta) (he : ∀ whole, isTrue e X.env whole = (do let v ← whole; standAt e.pos; holding [v] (truthy v)) := by intro _; rfl) : TA' X e (tBool ta) := by
  obtain ⟨t, p, k⟩ := h
  exact ⟨_, pt_val p he, TR_bool k⟩
def tAndA (t u : TTA) : TTA := fun nv S P => t nv S fun c S1 => bsel c (u nv S1 P) (P false S1)
def tOrA (t u : TTA) : TTA := fun nv S P => t nv S fun c S1 => bsel c (P true S1) (u nv S1 P)
def tNotA (t : TTA) : TTA := fun nv S P => t nv S fun c S1 => P (!c) S1
theorem tw_and1 (h : TA' X a tA) : TW X (.BoolOp .And [a] pos) tA := by
  obtain ⟨t, p, k⟩ := h
  exact ⟨_, pw_and1 p, k⟩
theorem tw_or1 (h : TA' X a tA) : TW X (.BoolOp .Or [a] pos) tA := by
  obtain ⟨t, p, k⟩ := h
  exact ⟨_, pw_or1 p, k⟩
theorem tw_and (ha : TA' X a tA) (hb : TW X (.BoolOp .And (b :: rest) pos) tB') : TW X (.BoolOp .And (a :: b :: rest) pos) (tAndA tA tB') := by
  obtain ⟨t, p, k⟩ := ha
  obtain ⟨u, p2, k2⟩ := hb
  refine ⟨_, pw_and p p2, fun M σ H nv S P Q r h w => ?_⟩
  refine k M σ H nv S _ _ r h fun c S1 H1 q e s => ?_
  cases c with
  | true => exact k2 M σ H1 nv S1 P Q (r.up e s) q fun b S2 H2 q2 e2 s2 => w b S2 H2 q2 (e.trans e2) s2
  | false => exact w false S1 H1 q e s
theorem tw_or (ha : TA' X a tA) (hb : TW X (.BoolOp .Or (b :: rest) pos) tB') : TW X (.BoolOp .Or (a :: b :: rest) pos) (tOrA tA tB') := by
  obtain ⟨t, p, k⟩ := ha
  obtain ⟨u, p2, k2⟩ := hb
  refine ⟨_, pw_or p p2, fun M σ H nv S P Q r h w => ?_⟩
  refine k M σ H nv S _ _ r h fun c S1 H1 q e s => ?_
  cases c with
  | true => exact w true S1 H1 q e s
  | false => exact k2 M σ H1 nv S1 P Q (r.up e s) q fun b S2 H2 q2 e2 s2 => w b S2 H2 q2 (e.trans e2) s2
theorem tt_w (h : TW X e tA) : TA' X e tA := by
  obtain ⟨t, p, k⟩ := h
  exact ⟨_, p.pt, k⟩
theorem tt_not (h : TA' X a tA) : TA' X (.UnaryOp .Not a pos) (tNotA tA) := by
  obtain ⟨t, p, k⟩ := h
  refine ⟨_, pt_not p, fun M σ H nv S P Q r h w => ?_⟩
  exact k M σ H nv S _ _ r h fun c S1 H1 q e s => w (!c) S1 H1 q e s
/-! ### and, or, not as values (bools; the last one any) -/
def eAnd (ta tb : TEA) : TEA := fun nv S P => ta nv S fun x S1 => match x with
  | .bl c => bsel c (tb nv S1 P) (P (.bl false) S1)
  | _ => False
def eOr (ta tb : TEA) : TEA := fun nv S P => ta nv S fun x S1 => match x with
  | .bl c => bsel c (P (.bl true) S1) (tb nv S1 P)
  | _ => False
def eNot (ta : TEA) : TEA := fun nv S P => ta nv S fun x S1 => match x with
  | .bl c => P (.bl (!c)) S1
  | _ => False
theorem ea_one {op} (h : EA X a ta) : EA X (.BoolOp op [a] pos) ta := by
  obtain ⟨t, p, k⟩ := h
  exact ⟨_, pe_one p, k⟩
theorem ea_and (ha : EA X a ta) (hb : EA X (.BoolOp .And (b :: rest) pos) tb) : EA X (.BoolOp .And (a :: b :: rest) pos) (eAnd ta tb) := by
  obtain ⟨t, p, k⟩ := ha
  obtain ⟨u, p2, k2⟩ := hb
  refine ⟨_, pe_and p p2, fun M σ H nv S P Q r h w => ?_⟩
  refine k M σ H nv S _ _ r h fun x S1 v H1 q e s av => ?_
  try dsimp only at q
  split at q
  · rename_i c
    refine ⟨c, av, bsel_if ?_⟩
    cases c with
    | true => exact k2 M σ H1 nv S1 P Q (r.up e s) q fun z S2 v2 H2 q2 e2 s2 a2 => w z S2 v2 H2 q2 (e.trans e2) s2 a2
    | false => exact w _ S1 _ H1 q e s rfl
  · exact q.elim
theorem ea_or (ha : EA X a ta) (hb : EA X (.BoolOp .Or (b :: rest) pos) tb) : EA X (.BoolOp .Or (a :: b :: rest) pos) (eOr ta tb) := by
  obtain ⟨t, p, k⟩ := ha
  obtain ⟨u, p2, k2⟩ := hb
  refine ⟨_, pe_or p p2, fun M σ H nv S P Q r h w => ?_⟩
  refine k M σ H nv S _ _ r h fun x S1 v H1 q e s av => ?_
  try dsimp only at q
  split at q
  · rename_i c
    refine ⟨c, av, bsel_if ?_⟩
    cases c with
    | true => exact w _ S1 _ H1 q e s rfl
    | false => exact k2 M σ H1 nv S1 P Q (r.up e s) q fun z S2 v2 H2 q2 e2 s2 a2 => w z S2 v2 H2 q2 (e.trans e2) s2 a2
  · exact q.elim
theorem ea_not (ha : EA X a ta) : EA X (.UnaryOp .Not a pos) (eNot ta) := by
  obtain ⟨t, p, k⟩ := ha
  refine ⟨_, pe_not p, fun M σ H nv S P Q r h w => ?_⟩
  refine k M σ H nv S _ _ r h fun x S1 v H1 q e s av => ?_
  try dsimp only at q
  split at q
  · rename_i c
    exact ⟨c, av, w _ S1 _ H1 q e s rfl⟩
  · exact q.elim
def eIf (t : TTA) (ta tb : TEA) : TEA := fun nv S P => t nv S fun c S1 => bsel c (ta nv S1 P) (tb nv S1 P)
theorem ea_if (hc : TA' X c tA) (ha : EA X a ta) (hb : EA X b tb) : EA X (.IfExp c a b pos) (eIf tA ta tb) := by
  obtain ⟨t, p, k⟩ := hc
  obtain ⟨u1, p1, k1⟩ := ha
  obtain ⟨u2, p2, k2⟩ := hb
  refine ⟨_, pe_ifExp p p1 p2, fun M σ H nv S P Q r h w => ?_⟩
  refine k M σ H nv S _ _ r h fun c S1 H1 q e s => bsel_if ?_
  cases c with
  | true => exact k1 M σ H1 nv S1 P Q (r.up e s) q fun z S2 v2 H2 q2 e2 s2 a2 => w z S2 v2 H2 q2 (e.trans e2) s2 a2
  | false => exact k2 M σ H1 nv S1 P Q (r.up e s) q fun z S2 v2 H2 q2 e2 s2 a2 => w z S2 v2 H2 q2 (e.trans e2) s2 a2
/-! ### -a -/
def eNeg (ta : TEA) : TEA := fun nv S P => ta nv S fun x S1 => match x with
  | .int i => P (.int (-i)) S1
  | _ => False
theorem ea_neg (ha : EA X a ta) : EA X (.UnaryOp .USub a pos) (eNeg ta) := by
  obtain ⟨t, p, k⟩ := ha
  refine ⟨_, pe_un un_neg p, fun M σ H nv S P Q r h w => ?_⟩
  refine k M σ H nv S _ _ r h fun x S1 v H1 q e s av => ?_
  try dsimp only at q
  split at q
  · exact ⟨_, av, w _ S1 _ H1 q e s rfl⟩
  · exact q.elim
/-! ### arguments, displays -/
def lNil : TAA := fun _ S P => P [] S
def lCons (ta : TEA) (tr : TAA) : TAA := fun nv S P => ta nv S fun x S1 => tr nv S1 fun xs S2 => P (x :: xs) S2
theorem la_nil : LA X [] lNil := ⟨_, pa_nil, fun M σ H nv S P Q r h w => w [] S [] H rfl h .refl r.sh rfl⟩
theorem la_cons {tr : TAA} (ha : EA X e ta) (hr : LA X es tr) (hs : starEach (e :: es) X.env = (false, eval e X.env) :: starEach es X.env := by rfl) : LA X (e :: es) (lCons ta tr) := by
  obtain ⟨t, p, k⟩ := ha
  obtain ⟨u, p2, k2⟩ := hr
  refine ⟨_, pa_cons p p2 hs, fun M σ H nv S P Q r h w => ?_⟩
  refine k M σ H nv S _ _ r h fun x S1 v H1 q e s av => ?_
  refine k2 M σ H1 nv S1 _ _ (r.up e s) q fun as S2 vs H2 n q2 e2 s2 a2 => ?_
  exact w (x :: as) S2 (v :: vs) H2 (by rw [List.length_cons, List.length_cons, n]) q2 (e.trans e2) s2 ⟨v, vs, rfl, av.up e2, a2⟩
def eTup (t : TAA) : TEA := fun nv S P => t nv S fun as S1 => P (.tup as) S1
def eLst (t : TAA) : TEA := fun nv S P => t nv S fun as S1 => P (.lst as) S1
/-- a list that goes into the store -/
def eLstC (t : TAA) : TEA := fun nv S P => t nv S fun as S1 => ∀ p, S1 p = none → P (.ref p) (sup S1 p (.lst as))
theorem ea_tup {t : TAA} {x1} (h : LA X es t) (hn : es.length ≤ 1000 := by decide) : EA X (.Tuple es x1 pos) (eTup t) := by
  obtain ⟨u, p, k⟩ := h
  refine ⟨_, pe_tup p, fun M σ H nv S P Q r h w => ?_⟩
  refine k M σ H nv S _ _ r h fun as S1 vs H1 n q e s av => ⟨by rw [av.len, n]; exact Nat.le_of_lt (small1000 hn), fun p hp => ?_⟩
  exact Wk.tup (fun z S2 v2 H2 q2 e2 s2 a2 => w z S2 v2 H2 q2 (e.trans e2) s2 a2) s av q hp
theorem ea_lst {t : TAA} {x1} (h : LA X es t) (hn : es.length ≤ 1000 := by decide) : EA X (.List es x1) (eLst t) := by
  obtain ⟨u, p, k⟩ := h
  refine ⟨_, pe_lst p, fun M σ H nv S P Q r h w => ?_⟩
  refine k M σ H nv S _ _ r h fun as S1 vs H1 n q e s av => ⟨by rw [av.len, n]; exact Nat.le_of_lt (small1000 hn), fun p hp => ?_⟩
  exact Wk.lst (fun z S2 v2 H2 q2 e2 s2 a2 => w z S2 v2 H2 q2 (e.trans e2) s2 a2) s av q hp
theorem ea_lstC {t : TAA} {x1} (h : LA X es t) (hn : es.length ≤ 1000 := by decide) : EA X (.List es x1) (eLstC t) := by
  obtain ⟨u, p, k⟩ := h
  refine ⟨_, pe_lst p, fun M σ H nv S P Q r h w => ?_⟩
  refine k M σ H nv S _ _ r h fun as S1 vs H1 n q e s av => ⟨by rw [av.len, n]; exact Nat.le_of_lt (small1000 hn), fun p hp => ?_⟩
  exact Wk.cell (fun z S2 v2 H2 q2 e2 s2 a2 => w z S2 v2 H2 q2 (e.trans e2) s2 a2) s av q hp
/-! ### subscripts -/
def rIxA : RA2 := fun x y S P => match x, y with
  | .tup xs, .int i => ∃ z, atI xs i = some z ∧ P z S
  | .str s, .int i => s.length ≤ sizeLine ∧ ∃ c, atI s.cps.toList i = some c ∧ P (.str ⟨#[c]⟩) S
  | x, .int i => ∃ xs z, lstr S x = some xs ∧ atI xs i = some z ∧ P z S
  | _, _ => False
theorem atI_rel {M : Msk} {S : Sto} {H : Hp} {as : List A} {vs : List V} {i : Int} {z : A} (a : AVs M S H as vs) (h : atI as i = some z) : ∃ v, atI vs i = some v ∧ AV M S H z v := by
  unfold atI at h ⊢
  rw [a.len]
  cases e : ixN as.length i with
  | none => rw [e] at h; cases h
  | some j =>
    rw [e] at h
    exact a.get h
theorem ea_ix (ha : EA X a ta) (hb : EA X b tb) (hp : PlainIx b := by exact fun _ _ => rfl) : EA X (.Subscript a b pos) (eOp rIxA ta tb) := by
  obtain ⟨t, p, k⟩ := ha
  obtain ⟨u, p2, k2⟩ := hb
  refine ⟨_, pe_ix ix_seq p p2 hp, fun M σ H nv S P Q r h w => ?_⟩
  refine k.bin k2 r h fun x y S' u v H' q e s a1 a2 => ?_
  have w' : Wk M P S' H' Q := fun z S2 v2 H2 q2 e2 s2 a2 => w z S2 v2 H2 q2 (e.trans e2) s2 a2
  unfold rIxA at q
  split at q
  · obtain ⟨z, q1, q2⟩ := q
    obtain ⟨p, vs, e1, e2, e3, e4, e5⟩ := a1
    obtain ⟨v', g1, g2⟩ := atI_rel e5 q1
    exact .inr (.inl ⟨p, vs, _, v', e1, a2, SqT.of e4, g1, w'.same s q2 g2⟩)
  · obtain ⟨q0, c, q1, q2⟩ := q
    exact .inr (.inr ⟨_, _, c, a1, a2, q0, q1, w'.same s q2 rfl⟩)
  · obtain ⟨xs, z, q0, q1, q2⟩ := q
    obtain ⟨p, vs, e1, e4, e5⟩ := lstr_ok s a1 q0
    obtain ⟨v', g1, g2⟩ := atI_rel e5 q1
    exact .inl ⟨p, vs, _, v', e1, a2, .inl e4, g1, w'.same s q2 g2⟩
  · exact q.elim
end
end Lay

namespace Lay
open PySem L2 PyProof.Rows
section
variable {X : Cx} {a b c e : Expr} {es rest : List Expr} {ta tb : TEA} {tA tB' : TTA} {tl : TAA} {pos p2 : Pos}
/-! ### slices -/
abbrev TOA := Nv → Sto → (Option Int → Sto → Prop) → Prop
structure OA (X : Cx) (e : Option Expr) (te : TOA) : Prop where
  ex : ∃ t, PO X e t ∧ ∀ M σ H nv S (P : Option Int → Sto → Prop) (Q : Option Int → Hp → Prop), Rl M S H σ nv → te nv S P → (∀ o S' H', P o S' → Ext S H S' H' → SH M S' H' → Q o H') → t σ H Q
def oNo : TOA := fun _ S P => P none S
def oPart (te : TEA) : TOA := fun nv S P => te nv S fun x S1 => match x with
  | .int i => P (some i) S1
  | _ => False
theorem oa_no : OA X none oNo := ⟨_, po_none, fun M σ H nv S P Q r h w => w none S H h .refl r.sh⟩
theorem oa_part (h : EA X e ta) : OA X (some e) (oPart ta) := by
  obtain ⟨t, p, k⟩ := h
  refine ⟨_, po_some p, fun M σ H nv S P Q r h w => ?_⟩
  refine k M σ H nv S _ _ r h fun x S1 v H1 q e s av => ?_
  try dsimp only at q
  split at q
  · exact ⟨_, av, w _ S1 H1 q e s⟩
  · exact q.elim
def cutA (xs : List A) (lo hi : Option Int) : List A := (xs.drop (HT.sIx xs.length 0 lo)).take (HT.sIx xs.length xs.length hi - HT.sIx xs.length 0 lo)
theorem cut_rel {M : Msk} {S : Sto} {H : Hp} {xs : List A} {vs : List V} (a : AVs M S H xs vs) (lo hi : Option Int) : AVs M S H (cutA xs lo hi) (cutV vs lo hi) := by
  unfold cutA cutV
  rw [a.len]
  exact (a.drop _).take _
def eSl (te : TEA) (tl th : TOA) : TEA := fun nv S P => te nv S fun x S1 => tl nv S1 fun lo S2 => th nv S2 fun hi S3 => match x with
  | .str s => s.length ≤ sizeLine ∧ P (.str (cutS s lo hi)) S3
  | x => ∃ xs, lstr S3 x = some xs ∧ P (.lst (cutA xs lo hi)) S3
theorem ea_sl {lo hi : Option Expr} {tl th : TOA} (he : EA X e ta) (hl : OA X lo tl) (hh : OA X hi th) : EA X (.Subscript e (.Slice lo hi none p2) pos) (eSl ta tl th) := by
  obtain ⟨t, p, k⟩ := he
  obtain ⟨t1, p1, k1⟩ := hl
  obtain ⟨t2, p2, k2⟩ := hh
  refine ⟨_, pe_slice (sl_list.or sl_str) p p1 p2, fun M σ H nv S P Q r h w => ?_⟩
  refine k M σ H nv S _ _ r h fun x S1 v H1 q e s av => ?_
  refine k1 M σ H1 nv S1 _ _ (r.up e s) q fun lo S2 H2 q2 e2 s2 => ?_
  refine k2 M σ H2 nv S2 _ _ ((r.up e s).up e2 s2) q2 fun hi S3 H3 q3 e3 s3 => ?_
  have w' : Wk M P S3 H3 Q := fun z S4 v4 H4 q4 e4 s4 a4 => w z S4 v4 H4 q4 (((e.trans e2).trans e3).trans e4) s4 a4
  have av3 := (av.up e2).up e3
  try dsimp only at q3
  split at q3
  · exact .inr ⟨_, av3, q3.1, w'.same s3 q3.2 rfl⟩
  · obtain ⟨xs, h1, h2⟩ := q3
    obtain ⟨p, vs, g1, g2, g3⟩ := lstr_ok s3 av3 h1
    exact .inl ⟨p, vs, g1, .inl g2, fun l n => w'.lst s3 (cut_rel g3 lo hi) h2 n⟩
/-! ### calls -/
abbrev SpA := List A → Sto → (A → Sto → Prop) → Prop
def liftSp (sp : SpA) : Sp := fun vs H Q _ => ∃ M S as P, SH M S H ∧ AVs M S H as vs ∧ sp as S P ∧ Wk M P S H Q
structure Got (P : Program) (w : World) (K : PySem.W.Frag) (mg : Str → Option Value) (base : Heap) (k : Nat) (ps : List Str) (x : Str) (st : Stmt) (f : Addr) (sp : SpA) : Prop where
  ex : ∃ fd, FnOk P w K mg base CX0 k f fd ps (liftSp sp) ∧ Fun K x x st f fd ∧ Binds K fd ps []
  mg : mg x = some (.ref f)
def eCall (sp : SpA) (tl : TAA) : TEA := fun nv S P => tl nv S fun as S1 => sp as S1 P
theorem ea_call {k : Nat} {ps : List Str} {x : Str} {st : Stmt} {f : Addr} {sp : SpA} {p : Pos} (G : Got X.prog X.w X.K X.mg X.base k ps x st f sp) (hr : Room k X.A) (ha : LA X (e :: es) tl) (hg : Gl X x := by rfl)
    (hdb : (x == ("__debug__" : Str)) = false := by decide) (he : starEach (e :: es) X.env = (false, eval e X.env) :: starEach es X.env := by rfl) (hpl : (backTo pos (starEach es X.env)).any (·.1) = false := by rfl) :
    EA X (.Call (.Name x p) (e :: es) [] pos) (eCall sp tl) := by
  obtain ⟨fd, F, F2, hb⟩ := G.ex
  obtain ⟨t, p, kk⟩ := ha
  refine ⟨_, pe_call F hr hg G.mg F2.kp hb .nil pass0 p hdb he hpl, fun M σ H nv S P Q r h w => ?_⟩
  refine kk M σ H nv S _ _ r h fun as S1 vs H1 n q e s av => ?_
  rw [List.append_nil]
  exact ⟨M, S1, as, P, s, av, q, fun z S2 v2 H2 q2 e2 s2 a2 => w z S2 v2 H2 q2 (e.trans e2) s2 a2⟩
/-- a call by keywords alone: ord puts them in the parameters' order -/
structure KA (X : Cx) (n : Nat) (kws : List Keyword) (te : TAA) : Prop where
  ex : ∃ t, PK X kws t ∧ LR n t te
theorem ka_nil : KA X 0 [] lNil := ⟨_, pk_nil, fun M σ H nv S P Q r h w => w [] S [] H rfl h .refl r.sh rfl⟩
theorem ka_cons {n : Nat} {kws : List Keyword} {nm : Option Str} {kpos : Pos} {tr : TAA} (ha : EA X e ta) (hr : KA X n kws tr) : KA X (n + 1) (⟨nm, e, kpos⟩ :: kws) (lCons ta tr) := by
  obtain ⟨t, p, k⟩ := ha
  obtain ⟨u, p2, k2⟩ := hr
  refine ⟨_, pk_cons p p2, fun M σ H nv S P Q r h w => ?_⟩
  refine k M σ H nv S _ _ r h fun x S1 v H1 q e s av => ?_
  refine k2 M σ H1 nv S1 _ _ (r.up e s) q fun as S2 vs H2 n q2 e2 s2 a2 => ?_
  exact w (x :: as) S2 (v :: vs) H2 (by rw [List.length_cons, n]) q2 (e.trans e2) s2 ⟨v, vs, rfl, av.up e2, a2⟩
/-! ### built-in calls -/
abbrev RAC := List A → Sto → (A → Sto → Prop) → Prop
def CallX (X : Cx) (f : Value) (rc : RAC) : Prop := ∃ r, CallR X f r ∧ ∀ M S H as vs P Q, SH M S H → AVs M S H as vs → rc as S P → Wk M P S H Q → r vs H Q
theorem ea_callB {id : String} {rc : RAC} {x : Str} {p : Pos} (hc : CallX X (.builtin id) rc) (hm : X.mg x = none) (ha : LA X (e :: es) tl) (hv : bootBuiltins x = some (.builtin id) := by decide +kernel) (hg : Gl X x := by rfl) (hn : x ≠ "__name__" := by decide) (hdb : (x == ("__debug__" : Str)) = false := by decide)
    (he : starEach (e :: es) X.env = (false, eval e X.env) :: starEach es X.env := by rfl) (hpl : (backTo pos (starEach es X.env)).any (·.1) = false := by rfl) : EA X (.Call (.Name x p) (e :: es) [] pos) (eCall rc tl) := by
  obtain ⟨r, h1, h2⟩ := hc
  obtain ⟨t, p, kk⟩ := ha
  refine ⟨_, pe_callB h1 hg hm hv p hn hdb he hpl, fun M σ H nv S P Q r h w => ?_⟩
  refine kk M σ H nv S _ _ r h fun as S1 vs H1 n q e s av => ?_
  exact h2 M S1 H1 as vs P Q s av q fun z S2 v2 H2 q2 e2 s2 a2 => w z S2 v2 H2 q2 (e.trans e2) s2 a2
theorem ea_callTy {T : String} {rc : RAC} {x : Str} {p : Pos} (hc : CallX X (.type T) rc) (hm : X.mg x = none) (ha : LA X (e :: es) tl) (hv : bootBuiltins x = some (.type T) := by decide +kernel) (hg : Gl X x := by rfl) (hn : x ≠ "__name__" := by decide) (hdb : (x == ("__debug__" : Str)) = false := by decide)
    (he : starEach (e :: es) X.env = (false, eval e X.env) :: starEach es X.env := by rfl) (hpl : (backTo pos (starEach es X.env)).any (·.1) = false := by rfl) : EA X (.Call (.Name x p) (e :: es) [] pos) (eCall rc tl) := by
  obtain ⟨r, h1, h2⟩ := hc
  obtain ⟨t, p, kk⟩ := ha
  refine ⟨_, pe_callTy h1 hg hm hv p hn hdb he hpl, fun M σ H nv S P Q r h w => ?_⟩
  refine kk M σ H nv S _ _ r h fun as S1 vs H1 n q e s av => ?_
  exact h2 M S1 H1 as vs P Q s av q fun z S2 v2 H2 q2 e2 s2 a2 => w z S2 v2 H2 q2 (e.trans e2) s2 a2
def rLenA : RAC := fun as S P => match as with
  | [.str s] => s.length ≤ sizeLine ∧ P (.int s.length) S
  | [.tup xs] => P (.int xs.length) S
  | [x] => ∃ xs, lstr S x = some xs ∧ P (.int xs.length) S
  | _ => False
theorem cx_len : CallX X (.builtin "len") rLenA := by
  refine ⟨_, call_len, fun M S H as vs P Q s av q k => ?_⟩
  unfold rLenA at q
  split at q
  · rename_i z
    obtain ⟨v, r, e1, e2, e3⟩ := av
    cases (show v = _ from e2)
    cases (show r = _ from e3)
    exact ⟨_, _, e1, ⟨q.1, rfl⟩, k.same s q.2 rfl⟩
  · rename_i xs
    obtain ⟨v, r, e1, ⟨p, vs, h1, h2, h3, h4, h5⟩, e3⟩ := av
    cases (show r = _ from e3)
    refine ⟨_, vs.length, e1, ?_, k.same s q (by rw [h5.len]; rfl)⟩
    rw [h1]
    exact .inr ⟨vs, SqT.of h4, rfl⟩
  · rename_i x _ _
    obtain ⟨v, r, e1, e2, e3⟩ := av
    cases (show r = _ from e3)
    obtain ⟨xs, q1, q2⟩ := q
    obtain ⟨p, ws, h1, h2, h3⟩ := lstr_ok s e2 q1
    refine ⟨_, ws.length, e1, ?_, k.same s q2 (by rw [h3.len]; rfl)⟩
    rw [h1]
    exact .inl ⟨ws, .inl h2, rfl⟩
  · exact q.elim
theorem avs1 {M : Msk} {S : Sto} {H : Hp} {x : A} {vs : List V} (a : AVs M S H [x] vs) : ∃ v, vs = [v] ∧ AV M S H x v := by
  obtain ⟨v, r, e1, e2, e3⟩ := a
  cases (show r = _ from e3)
  exact ⟨v, e1, e2⟩
theorem avs2 {M : Msk} {S : Sto} {H : Hp} {x y : A} {vs : List V} (a : AVs M S H [x, y] vs) : ∃ v w, vs = [v, w] ∧ AV M S H x v ∧ AV M S H y w := by
  obtain ⟨v, r, e1, e2, e3⟩ := a
  obtain ⟨w, rfl, e4⟩ := avs1 e3
  exact ⟨v, w, e1, e2, e4⟩
def rAbsA : RAC := fun as S P => match as with
  | [.int i] => P (.int (i.natAbs : Int)) S
  | _ => False
theorem cx_abs : CallX X (.builtin "abs") rAbsA := by
  refine ⟨_, call_abs, fun M S H as vs P Q s av q k => ?_⟩
  unfold rAbsA at q
  split at q
  · rename_i i
    obtain ⟨v, rfl, e2⟩ := avs1 av
    refine ⟨i, by rw [show v = _ from e2], k.same s q ?_⟩
    show V.int _ = V.int _
    congr 1
    split <;> omega
  · exact q.elim
def rMax2A : RAC := fun as S P => match as with
  | [.int i, .int j] => P (.int (max i j)) S
  | _ => False
theorem cx_max2 (hc : X.calm = true := by rfl) : CallX X (.builtin "max") rMax2A := by
  refine ⟨_, call_max2 hc, fun M S H as vs P Q s av q k => ?_⟩
  unfold rMax2A at q
  split at q
  · rename_i i j
    obtain ⟨v, w, rfl, e2, e3⟩ := avs2 av
    refine ⟨i, j, by rw [show v = _ from e2, show w = _ from e3], k.same s q ?_⟩
    show V.int _ = V.int _
    congr 1
    split <;> omega
  · exact q.elim
def rMin2A : RAC := fun as S P => match as with
  | [.int i, .int j] => P (.int (min i j)) S
  | _ => False
theorem cx_min2 (hc : X.calm = true := by rfl) : CallX X (.builtin "min") rMin2A := by
  refine ⟨_, call_min2 hc, fun M S H as vs P Q s av q k => ?_⟩
  unfold rMin2A at q
  split at q
  · rename_i i j
    obtain ⟨v, w, rfl, e2, e3⟩ := avs2 av
    refine ⟨i, j, by rw [show v = _ from e2, show w = _ from e3], k.same s q ?_⟩
    show V.int _ = V.int _
    congr 1
    split <;> omega
  · exact q.elim
def rIntA : RAC := fun as S P => match as with
  | [.int i] => P (.int i) S
  | _ => False
theorem cx_int : CallX X (.type "int") rIntA := by
  refine ⟨_, call_int1, fun M S H as vs P Q s av q k => ?_⟩
  unfold rIntA at q
  split at q
  · rename_i i
    obtain ⟨v, rfl, e2⟩ := avs1 av
    exact .inl ⟨i, by rw [show v = _ from e2], k.same s q rfl⟩
  · exact q.elim
theorem avs_ints {M : Msk} {S : Sto} {H : Hp} : ∀ {ns : List Int} {vs : List V}, AVs M S H (ns.map .int) vs → vs = ns.map .int
  | [], _, h => h
  | n :: ns, _, ⟨v, r, h1, h2, h3⟩ => by rw [h1, avs_ints h3, show v = _ from h2]; rfl
def rSumA : RAC := fun as S P => match as with
  | [x] => ∃ ns : List Int, lstr S x = some (ns.map .int) ∧ P (.int ns.sum) S
  | _ => False
theorem cx_sum (hc : X.calm = true := by rfl) : CallX X (.builtin "sum") rSumA := by
  refine ⟨_, cr_sum hc, fun M S H as vs P Q s av q k => ?_⟩
  unfold rSumA at q
  split at q
  · obtain ⟨v, rfl, e2⟩ := avs1 av
    obtain ⟨ns, q1, q2⟩ := q
    obtain ⟨p, ws, h1, h2, h3⟩ := lstr_ok s e2 q1
    rw [avs_ints h3] at h2
    exact ⟨p, ns, by rw [h1], .inl h2, k.same s q2 rfl⟩
  · exact q.elim
/-! ### isinstance -/
/-- the built-in type's name -/
def tyN (S : Sto) : A → Option String
  | .non => some "NoneType"
  | .bl _ => some "bool"
  | .int _ => some "int"
  | .str _ => some "str"
  | .lst _ => some "list"
  | .tup _ => some "tuple"
  | .ref p => match S p with
    | some (.lst _) => some "list"
    | some (.frz _) => some "list"
    | _ => none
  | .ty _ => none
theorem tyN_ok {K : PySem.W.Frag} {M : Msk} {S : Sto} {H : Hp} {x : A} {u : V} {n : String} (s : SH M S H) (a : AV M S H x u) (h : tyN S x = some n) : TyX K H u (.type n) := by
  cases x with
  | non => cases h; rw [show u = _ from a]; exact .base .non
  | bl b => cases h; rw [show u = _ from a]; exact .base (.bl b)
  | int b => cases h; rw [show u = _ from a]; exact .base (.int b)
  | str b => cases h; rw [show u = _ from a]; exact .base (.str b)
  | lst xs =>
    cases h
    obtain ⟨p, vs, h1, h2, h3, h4, h5⟩ := a
    rw [h1]
    exact .base (.lst h4)
  | tup xs =>
    cases h
    obtain ⟨p, vs, h1, h2, h3, h4, h5⟩ := a
    rw [h1]
    exact .base (.tup h4)
  | ref p =>
    unfold tyN at h
    dsimp only at h
    split at h
    · rename_i ys q
      cases h
      obtain ⟨vs, h1, h2⟩ := (s.cell p _ q).2
      rw [show u = _ from a]
      exact .base (.lst h1)
    · rename_i ys q
      cases h
      obtain ⟨o, vs, h1, h2⟩ := (s.cell p _ q).2
      rw [show u = _ from a]
      exact .base (.frz h1)
    · cases h
  | ty _ => cases h
def isTyS (a n : String) : Bool := a == n || (a == "bool" && n == "int")
def rIsiA : RAC := fun as S P => match as with
  | [x, .ty n] => ∃ t b, tyN S x = some t ∧ kitB t n = some b ∧ P (.bl b) S
  | _ => False
theorem cx_isi : CallX X (.builtin "isinstance") rIsiA := by
  refine ⟨_, call_isi, fun M S H as vs P Q s av q k => ?_⟩
  unfold rIsiA at q
  split at q
  · rename_i x n
    obtain ⟨v, w, rfl, e2, e3⟩ := avs2 av
    obtain ⟨t, b, q1, q2, q3⟩ := q
    exact ⟨v, .ty n, _, _, b, by rw [show w = _ from e3], .ty n, tyN_ok s e2 q1, kit_ty q2, k.same s q3 rfl⟩
  · exact q.elim
/-- the built-in classes in a tuple -/
def kitBs (t : String) : List A → Option Bool
  | [] => some false
  | .ty n :: r => match kitB t n, kitBs t r with
    | some b, some c => some (b || c)
    | _, _ => none
  | _ :: _ => none
theorem kitBs_ok {K : PySem.W.Frag} {M : Msk} {S : Sto} {H : Hp} {t : String} : ∀ {cs : List A} {vs : List V} {b : Bool}, AVs M S H cs vs → kitBs t cs = some b → ∃ us, Paired ClsV vs us ∧ PySem.W.kitAny K (.type t) us = some b
  | [], _, b, h, e => by
    cases e
    rw [show _ = _ from h]
    exact ⟨[], .nil, rfl⟩
  | .ty n :: r, _, b, ⟨v, w, h1, h2, h3⟩, e => by
    cases (show v = _ from h2)
    unfold kitBs at e
    split at e
    · rename_i c d e1 e2
      cases e
      obtain ⟨us, g1, g2⟩ := kitBs_ok h3 e2
      rw [h1]
      refine ⟨_, .cons (.ty n) g1, kitAny_cons (kit_ty e1) (fun z => by rw [z]; exact g2) (fun z => by rw [z]; rfl)⟩
    · cases e
  | .non :: _, _, _, _, e => by cases e
  | .bl _ :: _, _, _, _, e => by cases e
  | .int _ :: _, _, _, _, e => by cases e
  | .str _ :: _, _, _, _, e => by cases e
  | .lst _ :: _, _, _, _, e => by cases e
  | .tup _ :: _, _, _, _, e => by cases e
  | .ref _ :: _, _, _, _, e => by cases e
def rIsiTA : RAC := fun as S P => match as with
  | [x, .tup cs] => ∃ t b, tyN S x = some t ∧ kitBs t cs = some b ∧ P (.bl b) S
  | _ => False
theorem cx_isiT : CallX X (.builtin "isinstance") rIsiTA := by
  refine ⟨_, call_isiT, fun M S H as vs P Q s av q k => ?_⟩
  unfold rIsiTA at q
  split at q
  · rename_i x cs
    obtain ⟨v, w, rfl, e2, p, ws, e3, _, _, e4, e5⟩ := avs2 av
    obtain ⟨t, b, q1, q2, q3⟩ := q
    obtain ⟨us, g1, g2⟩ := kitBs_ok (K := X.K) e5 q2
    exact ⟨v, p, ws, _, us, b, by rw [e3], e4, g1, tyN_ok s e2 q1, g2, k.same s q3 rfl⟩
  · exact q.elim
/-! ### x.bit_length() -/
def eBits (te : TEA) : TEA := fun nv S P => te nv S fun x S1 => match x with
  | .int i => P (.int (Builtin.Int.intBits i : Nat)) S1
  | _ => False
theorem ea_bits {apos : Pos} (h : EA X e ta) (hbase : attributeBase e "bit_length" X.env (eval e X.env) = eval e X.env := by rfl) (hline : (apos.endLine == pos.line) = true := by rfl) : EA X (.Call (.Attribute e "bit_length" apos) [] [] pos) (eBits ta) := by
  obtain ⟨t, p, k⟩ := h
  refine ⟨_, pe_bits p hbase hline, fun M σ H nv S P Q r h w => ?_⟩
  refine k M σ H nv S _ _ r h fun x S1 v H1 q e s av => ?_
  try dsimp only at q
  split at q
  · exact ⟨_, av, w _ S1 _ H1 q e s rfl⟩
  · exact q.elim
end

/-! ### statements -/
structure Ea where
  nx : Nv → Sto → Prop
  rt : A → Sto → Prop
  bk : Nv → Sto → Prop := fun _ _ => False
  ct : Nv → Sto → Prop := fun _ _ => False
abbrev TSA := Ea → Nv → Sto → Prop
def Lk (M : Msk) (S : Sto) (H : Hp) (p : Nv → Sto → Prop) (q : L2.St → Hp → Prop) : Prop := ∀ nv' S' σ' H', p nv' S' → Ext S H S' H' → Rl M S' H' σ' nv' → q σ' H'
structure Link (M : Msk) (S : Sto) (H : Hp) (D : Ea) (D' : Ends) : Prop where
  nx : Lk M S H D.nx D'.nx
  rt : Wk M D.rt S H D'.rt
  bk : Lk M S H D.bk D'.bk
  ct : Lk M S H D.ct D'.ct
theorem Lk.up {M : Msk} {S S' : Sto} {H H' : Hp} {p : Nv → Sto → Prop} {q : L2.St → Hp → Prop} (h : Lk M S H p q) (e : Ext S H S' H') : Lk M S' H' p q := fun nv2 S2 σ2 H2 a b c => h nv2 S2 σ2 H2 a (e.trans b) c
theorem Wk.up {M : Msk} {S S' : Sto} {H H' : Hp} {P : A → Sto → Prop} {Q : VK} (h : Wk M P S H Q) (e : Ext S H S' H') : Wk M P S' H' Q := fun z S2 v H2 a b c d => h z S2 v H2 a (e.trans b) c d
theorem Link.up {M : Msk} {S S' : Sto} {H H' : Hp} {D : Ea} {D' : Ends} (l : Link M S H D D') (e : Ext S H S' H') : Link M S' H' D D' := ⟨l.nx.up e, l.rt.up e, l.bk.up e, l.ct.up e⟩
def SR (t : TS) (ts : TSA) : Prop := ∀ M σ H nv S D D', Rl M S H σ nv → ts D nv S → Link M S H D D' → t D' σ H
structure SA (X : Cx) (st : Stmt) (ts : TSA) : Prop where
  ex : ∃ t, PS X st t ∧ SR t ts
structure SB (X : Cx) (st : List Stmt) (ts : TSA) : Prop where
  ex : ∃ t, PSs X st t ∧ SR t ts
section
variable {X : Cx} {st : Stmt} {rest body els : List Stmt} {t u : TSA} {e c : Expr} {te : TEA} {tc : TTA} {pos : Pos}
def sNil : TSA := fun D nv S => D.nx nv S
def sSeq (t u : TSA) : TSA := fun D nv S => t { D with nx := u D } nv S
theorem sb_nil : SB X [] sNil := ⟨_, pss_nil, fun M σ H nv S D D' r h l => l.nx nv S σ H h .refl r⟩
theorem sb_cons (h1 : SA X st t) (h2 : SB X rest u) : SB X (st :: rest) (sSeq t u) := by
  obtain ⟨t1, p1, k1⟩ := h1
  obtain ⟨t2, p2, k2⟩ := h2
  refine ⟨_, pss_cons p1 p2, fun M σ H nv S D D' r h l => ?_⟩
  exact k1 M σ H nv S _ _ r h ⟨fun nv' S' σ' H' q e r' => k2 M σ' H' nv' S' D D' r' q (l.up e), l.rt, l.bk, l.ct⟩
theorem sb_one (h1 : SA X st t) : SB X [st] t := by
  obtain ⟨t1, p1, k1⟩ := h1
  exact ⟨_, pss_one p1, k1⟩
def sDrop (te : TEA) : TSA := fun D nv S => te nv S fun _ S1 => D.nx nv S1
theorem sa_expr (he : EA X e te) (hs : swapsWith e none pos.line X.env = pure false := by rfl) : SA X (.Expr e pos) (sDrop te) := by
  obtain ⟨t1, p1, k1⟩ := he
  exact ⟨_, ps_expr p1 hs, fun M σ H nv S D D' r h l => k1 M σ H nv S _ _ r h fun a S' v H' q e s av => l.nx nv S' σ H' q e (r.up e s)⟩
def sRet (te : TEA) : TSA := fun D nv S => te nv S D.rt
theorem sa_ret (he : EA X e te) : SA X (.Return (some e) pos) (sRet te) := by
  obtain ⟨t1, p1, k1⟩ := he
  exact ⟨_, ps_ret p1, fun M σ H nv S D D' r h l => k1 M σ H nv S _ _ r h l.rt⟩
def sRetN : TSA := fun D _ S => D.rt .non S
theorem sa_retN : SA X (.Return none pos) sRetN := ⟨_, ps_retN, fun M σ H nv S D D' r h l => l.rt _ S _ H h .refl r.sh rfl⟩
def sIf (c : TTA) (t u : TSA) : TSA := fun D nv S => c nv S fun b S1 => bsel b (t D nv S1) (u D nv S1)
theorem sa_if (hc : TA' X c tc) (ha : SB X body t) (hb : SB X els u) : SA X (.If c body els pos) (sIf tc t u) := by
  obtain ⟨t0, p0, k0⟩ := hc
  obtain ⟨t1, p1, k1⟩ := ha
  obtain ⟨t2, p2, k2⟩ := hb
  refine ⟨_, ps_if p0 p1 p2, fun M σ H nv S D D' r h l => ?_⟩
  refine k0 M σ H nv S _ _ r h fun b S1 H1 q e s => bsel_if ?_
  cases b with
  | true => exact k1 M σ H1 nv S1 D D' (r.up e s) q (l.up e)
  | false => exact k2 M σ H1 nv S1 D D' (r.up e s) q (l.up e)
theorem sa_pass : SA X (.Pass pos) sNil := ⟨_, ps_pass, fun M σ H nv S D D' r h l => l.nx nv S σ H h .refl r⟩
def sBrk : TSA := fun D nv S => D.bk nv S
def sCont : TSA := fun D nv S => D.ct nv S
theorem sa_break : SA X (.Break pos) sBrk := ⟨_, ps_break, fun M σ H nv S D D' r h l => l.bk nv S σ H h .refl r⟩
theorem sa_cont : SA X (.Continue pos) sCont := ⟨_, ps_continue, fun M σ H nv S D D' r h l => l.ct nv S σ H h .refl r⟩
/-! ### names stored -/
def sSet (i : Nat) (te : TEA) : TSA := fun D nv S => te nv S fun a S1 => D.nx (nv.set i (some a)) S1
theorem sa_set (i : Nat) {x : Str} {pos' : Pos} (hN : X.N.Nodup) (he : EA X e te) (hi : X.N[i]? = some x := by rfl) (hx : Loc X.env.scope x := by first | exact .inl rfl | exact .inr rfl) (hs : swapsWith e (some (.Name x pos')) pos.line X.env = pure false := by rfl)
    (hf : X.fn x = true ∨ X.env.scope.names.lookup x = some .local := by first | exact .inl rfl | exact .inr rfl) : SA X (.Assign [.Name x pos'] e pos) (sSet i te) := by
  obtain ⟨t1, p1, k1⟩ := he
  exact ⟨_, ps_set hN hi hx p1 hs hf, fun M σ H nv S D D' r h l => k1 M σ H nv S _ _ r h fun a S' v H' q e s av => l.nx _ S' _ H' q e ((r.up e s).set i av)⟩
/-- a, b = x, y -/
def sPar (i j : Nat) (tl : TAA) : TSA := fun D nv S => tl nv S fun as S1 => match as with
  | [x, y] => D.nx ((nv.set i (some x)).set j (some y)) S1
  | _ => False
theorem sa_par (i j : Nat) {x y : Str} {a b : Expr} {tl : TAA} {px py pt : Pos} {kt k2 pt2} (hN : X.N.Nodup) (ha : LA X [a, b] tl) (hc : X.calm = true := by rfl) (hi : X.N[i]? = some x := by rfl) (hj : X.N[j]? = some y := by rfl) (hij : i ≠ j := by decide)
    (hx : X.env.scope.names.lookup x = some .local := by rfl) (hy : X.env.scope.names.lookup y = some .local := by rfl)
    (hw : swappedStores [.Tuple [.Name x px, .Name y py] kt pt] (.Tuple [a, b] k2 pt2) X.env = pure (some [x, y]) := by rfl)
    (hs : swapsWithSole [.Tuple [.Name x px, .Name y py] kt pt] (.Tuple [a, b] k2 pt2) pos.line X.env = pure false := by rfl) :
    SA X (.Assign [.Tuple [.Name x px, .Name y py] kt pt] (.Tuple [a, b] k2 pt2) pos) (sPar i j tl) := by
  obtain ⟨t1, p1, k1⟩ := ha
  refine ⟨_, ps_par hc hN hi hj hij hx hy p1 hw hs, fun M σ H nv S D D' r h l => ?_⟩
  refine k1 M σ H nv S _ _ r h fun as S' vs H' n q e s av => ?_
  try dsimp only at q
  split at q
  · obtain ⟨v, w, rfl, a1, a2⟩ := avs2 av
    exact ⟨v, w, rfl, l.nx _ S' _ H' q e (((r.up e s).set i a1).set j a2)⟩
  · exact q.elim
/-! ### a list of the store changed -/
/-- xs[i] = e -/
def sSetL (te ta tb : TEA) : TSA := fun D nv S => te nv S fun z S1 => ta nv S1 fun x S2 => tb nv S2 fun y S3 => match x, y with
  | .ref p, .int i => ∃ xs j, S3 p = some (.lst xs) ∧ ixN xs.length i = some j ∧ D.nx nv (sup S3 p (.lst (xs.set j z)))
  | _, _ => False
theorem sa_setL {a b : Expr} {ta tb : TEA} {p3 : Pos} (he : EA X e te) (ha : EA X a ta) (hb : EA X b tb)
    (hs : swapsWithSole [.Subscript a b p3] e pos.line X.env = pure false := by rfl) (hw : swappedStores [.Subscript a b p3] e X.env = pure none := by rfl)
    (h1 : (assignEach [.Subscript a b p3] X.env).map (·.2) = [assign (.Subscript a b p3) X.env] := by rfl)
    (hsub : ∀ v, assign (.Subscript a b p3) X.env v = (do
      let ov ← holding [v] (eval a X.env)
      let iv ← holding [v, ov] (eval b X.env)
      standAt p3
      holding [v, ov, iv] (setItem ov iv v)
      release [v, ov, iv] []) := by intro _; rfl) : SA X (.Assign [.Subscript a b p3] e pos) (sSetL te ta tb) := by
  obtain ⟨t1, p1, k1⟩ := he
  obtain ⟨t2, p2, k2⟩ := ha
  obtain ⟨t3, p3', k3⟩ := hb
  refine ⟨_, ps_asg p1 (pg_sub p2 p3' set_list hsub) hs hw h1, fun M σ H nv S D D' r h l => ?_⟩
  refine k1 M σ H nv S _ _ r h fun z S1 v1 H1 q1 e1 s1 a1 => ?_
  refine k2 M σ H1 nv S1 _ _ (r.up e1 s1) q1 fun x S2 v2 H2 q2 e2 s2 a2 => ?_
  refine k3 M σ H2 nv S2 _ _ ((r.up e1 s1).up e2 s2) q2 fun y S3 v3 H3 q3 e3 s3 a3 => ?_
  have a1' := (a1.up e2).up e3
  have a2' := a2.up e3
  have r3 := ((r.up e1 s1).up e2 s2).up e3 s3
  try dsimp only at q3
  split at q3
  · rename_i p i
    obtain ⟨xs, j, g1, g2, g3⟩ := q3
    obtain ⟨vs, c1, c2⟩ := (s3.cell p _ g1).2
    obtain ⟨e4, s4⟩ := s3.put g1 (o := .lst (vs.set j v1)) (c := .lst (xs.set j z)) fun S' H' e hh => ⟨_, hh, (c2.up e).set j (a1'.up e)⟩
    exact ⟨p, vs, i, j, a2', a3, c1, by rw [c2.len]; exact g2, l.nx _ _ _ _ g3 (((e1.trans e2).trans e3).trans e4) (r3.up e4 s4)⟩
  · exact q3.elim
/-! ### while -/
def sWhile (c : TTA) (tb : TSA) : TSA := fun D nv S => ∃ W : Nat → Nv → Sto → Prop, (∃ m, W m nv S) ∧ ∀ m nv S, W m nv S →
  c nv S fun b S1 => bsel b (tb { D with nx := fun nv' S' => ∃ m', m' < m ∧ W m' nv' S', ct := fun nv' S' => ∃ m', m' < m ∧ W m' nv' S', bk := D.nx } nv S1) (D.nx nv S1)
theorem sa_while (hp : PassesOwn (model X.prog X.w) X.A X.env X.xe) (hc : TA' X c tc) (hb : SB X body t) : SA X (.While c body [] pos) (sWhile tc t) := by
  obtain ⟨t0, p0, k0⟩ := hc
  obtain ⟨t1, p1, k1⟩ := hb
  refine ⟨_, ps_while hp p0 p1, fun M σ H nv S D D' r h l => ?_⟩
  obtain ⟨W, ⟨m0, w0⟩, turn⟩ := h
  refine ⟨fun m σ' H' => ∃ nv' S', W m nv' S' ∧ Ext S H S' H' ∧ Rl M S' H' σ' nv', ⟨m0, nv, S, w0, .refl, r⟩, ?_⟩
  rintro m σ1 H1 ⟨nv1, S1, w1, e1, r1⟩
  refine k0 M σ1 H1 nv1 S1 _ _ r1 (turn m nv1 S1 w1) fun b S2 H2 q e2 s2 => bsel_if ?_
  cases b with
  | true =>
    refine ⟨fun σ' H' => ∃ m', m' < m ∧ ∃ nv' S', W m' nv' S' ∧ Ext S H S' H' ∧ Rl M S' H' σ' nv', fun σ' H' ⟨m', hm, z⟩ => ⟨m', hm, z⟩, ?_⟩
    refine k1 M σ1 H2 nv1 S2 _ _ (r1.up e2 s2) q ⟨fun nv' S' σ' H' ⟨m', hm, w'⟩ e r' => ⟨m', hm, nv', S', w', (e1.trans e2).trans e, r'⟩, l.rt.up (e1.trans e2), l.nx.up (e1.trans e2), fun nv' S' σ' H' ⟨m', hm, w'⟩ e r' => ⟨m', hm, nv', S', w', (e1.trans e2).trans e, r'⟩⟩
  | false => exact l.nx _ _ _ _ q (e1.trans e2) (r1.up e2 s2)
end
end Lay

namespace Lay
open PySem L2 PyProof.Rows
/-! ### the canonical readings -/
def cE (te : TEA) : TE := fun σ H Q => ∃ M nv S P, Rl M S H σ nv ∧ te nv S P ∧ Wk M P S H Q
def cT (te : TTA) : TT := fun σ H Q => ∃ M nv S P, Rl M S H σ nv ∧ te nv S P ∧ Wb M P S H Q
theorem EA.pe {X : Cx} {e : Expr} {te : TEA} (h : EA X e te) : PE X e (cE te) := by
  obtain ⟨t, p, k⟩ := h
  exact ⟨fun pins s σ H Q I ⟨M, nv, S, P, r, q, w⟩ => p.run pins s σ H Q I (k M σ H nv S P Q r q w)⟩
theorem TA'.pt {X : Cx} {e : Expr} {te : TTA} (h : TA' X e te) : PT X e (cT te) := by
  obtain ⟨t, p, k⟩ := h
  exact ⟨fun pins s σ H Q I ⟨M, nv, S, P, r, q, w⟩ => p.run pins s σ H Q I (k M σ H nv S P Q r q w)⟩
/-! ### wiped slots -/
def wipeN (nv : Nv) : List Nat → Nv
  | [] => nv
  | v :: vs => (wipeN nv vs).set v none
theorem wipe_set {σ : L2.St} {j : Nat} {x : Option V} : ∀ {vs : List Nat}, j ∈ vs → wipe (σ.set j x) vs = wipe σ vs
  | [], h => by cases h
  | v :: vs, h => by
    unfold wipe
    by_cases hj : j ∈ vs
    · rw [wipe_set hj]
    · have e : j = v := by
        rcases List.mem_cons.mp h with e | e
        · exact e
        · exact absurd e hj
      subst e
      have key : ∀ ws : List Nat, (wipe (σ.set j x) ws).set j none = (wipe σ ws).set j none := fun ws => by
        induction ws with
        | nil => unfold wipe; rw [List.set_set]
        | cons w ws ih =>
          unfold wipe
          by_cases hw : w = j
          · rw [hw, List.set_set, List.set_set]
            exact ih
          · rw [List.set_comm _ _ hw, List.set_comm _ _ hw, ih]
      exact key vs
theorem wipe_none {σ : L2.St} {j : Nat} : ∀ {vs : List Nat}, j ∈ vs → j < σ.length → (wipe σ vs)[j]? = some none
  | [], h, _ => by cases h
  | v :: vs, h, hl => by
    unfold wipe
    by_cases hj : v = j
    · rw [hj, List.getElem?_set_self (by rw [wipe_length]; exact hl)]
    · rw [List.getElem?_set_ne hj]
      rcases List.mem_cons.mp h with e | e
      · exact absurd e.symm hj
      · exact wipe_none e hl
theorem set_same {α : Type} : ∀ {l : List α} {j : Nat} {x : α}, l[j]? = some x → l.set j x = l
  | [], _, _, _ => rfl
  | a :: r, 0, x, h => by
    have e : a = x := Option.some.inj h
    rw [e]
    rfl
  | a :: r, j + 1, x, h => by
    show a :: r.set j x = a :: r
    rw [set_same (l := r) (j := j) (by simpa using h)]
theorem wipe_wipe (σ : L2.St) : ∀ (ws vs : List Nat), (∀ w ∈ ws, w ∈ vs) → wipe (wipe σ vs) ws = wipe σ vs
  | [], _, _ => rfl
  | w :: ws, vs, h => by
    have e := wipe_wipe σ ws vs fun x hx => h x (List.mem_cons_of_mem _ hx)
    show (wipe (wipe σ vs) ws).set w none = wipe σ vs
    rw [e]
    by_cases hl : w < σ.length
    · exact set_same (wipe_none (h w (List.mem_cons_self)) hl)
    · rw [List.set_eq_of_length_le (by rw [wipe_length]; omega)]
theorem Rl.wipe {M : Msk} {S : Sto} {H : Hp} {σ : L2.St} {nv : Nv} (r : Rl M S H σ nv) : ∀ vs : List Nat, Rl M S H (wipe σ vs) (wipeN nv vs)
  | [] => r
  | v :: vs => by
    have ih := Rl.wipe r vs
    refine ⟨r.sh, by unfold L2.wipe wipeN; rw [List.length_set, List.length_set]; exact ih.len, fun i a q => ?_⟩
    unfold wipeN at q
    unfold L2.wipe
    by_cases hi : v = i
    · subst hi
      by_cases hl : v < (wipeN nv vs).length
      · rw [List.getElem?_set_self hl] at q
        cases q
      · rw [List.getElem?_eq_none (by rw [List.length_set]; omega)] at q
        cases q
    · rw [List.getElem?_set_ne hi] at q
      rw [List.getElem?_set_ne hi]
      exact ih.at_ i a q
/-! ### targets -/
abbrev TGA := A → Nv → Sto → (Nv → Sto → Prop) → Prop
abbrev TGsA := List A → Nv → Sto → (Nv → Sto → Prop) → Prop
def Wg (js : List Nat) (M : Msk) (S : Sto) (H : Hp) (σ : L2.St) (P : Nv → Sto → Prop) (Q : L2.St → Hp → Prop) : Prop :=
  ∀ nv' S' σ' H', P nv' S' → Ext S H S' H' → Rl M S' H' σ' nv' → (∀ vs : List Nat, (∀ j ∈ js, j ∈ vs) → wipe σ' vs = wipe σ vs) → Q σ' H'
def GR (js : List Nat) (t : TG) (g : TGA) : Prop := ∀ M σ H nv S a v P Q, Rl M S H σ nv → AV M S H a v → g a nv S P → Wg js M S H σ P Q → t v σ H Q
def GsR (js : List Nat) (t : TGs) (g : TGsA) : Prop := ∀ M σ H nv S as vs P Q, Rl M S H σ nv → AVs M S H as vs → g as nv S P → Wg js M S H σ P Q → t vs σ H Q
structure GA (X : Cx) (tg : Expr) (js : List Nat) (g : TGA) : Prop where
  ex : ∃ t, PG X tg t ∧ GR js t g
structure GsA (X : Cx) (tg : List Expr) (js : List Nat) (g : TGsA) : Prop where
  ex : ∃ t, PGs X tg t ∧ GsR js t g
def cG (js : List Nat) (g : TGA) : TG := fun v σ H Q => ∃ M nv S a P, Rl M S H σ nv ∧ AV M S H a v ∧ g a nv S P ∧ Wg js M S H σ P Q
theorem GA.pg {X : Cx} {tg : Expr} {js : List Nat} {g : TGA} (h : GA X tg js g) : PG X tg (cG js g) := by
  obtain ⟨t, p, k⟩ := h
  exact ⟨fun pins s σ H v u Q I rv ⟨M, nv, S, a, P, r, av, q, w⟩ => p.run pins s σ H v u Q I rv (k M σ H nv S a v P Q r av q w)⟩
section
variable {X : Cx} {pos : Pos}
def gNm (j : Nat) : TGA := fun a nv S P => P (nv.set j (some a)) S
theorem ga_name (j : Nat) {x : Str} (hN : X.N.Nodup) (hi : X.N[j]? = some x := by rfl) (hx : Loc X.env.scope x := by first | exact .inl rfl | exact .inr rfl) (hf : X.fn x = true ∨ X.env.scope.names.lookup x = some .local := by first | exact .inl rfl | exact .inr rfl) : GA X (.Name x pos) [j] (gNm j) :=
  ⟨_, pg_name hN hi hx hf, fun M σ H nv S a v P Q r av q w => w _ S _ H q .refl (r.set j av) fun vs h => wipe_set (h j (List.mem_singleton.mpr rfl))⟩
def gsNil : TGsA := fun as nv S P => match as with
  | [] => P nv S
  | _ => False
def gsCons (t : TGA) (u : TGsA) : TGsA := fun as nv S P => match as with
  | a :: r => t a nv S fun nv' S' => u r nv' S' P
  | _ => False
theorem gsa_nil : GsA X [] [] gsNil := ⟨_, pgs_nil, fun M σ H nv S as vs P Q r av q w => by
  cases as with
  | nil => exact ⟨av, w nv S σ H q .refl r fun _ _ => rfl⟩
  | cons _ _ => exact q.elim⟩
theorem gsa_cons {e : Expr} {es : List Expr} {j js : List Nat} {t : TGA} {u : TGsA} (h1 : GA X e j t) (h2 : GsA X es js u)
    (hs : (assignEach (e :: es) X.env).map (·.2) = assign e X.env :: (assignEach es X.env).map (·.2) := by rfl) : GsA X (e :: es) (j ++ js) (gsCons t u) := by
  obtain ⟨t1, p1, k1⟩ := h1
  obtain ⟨t2, p2, k2⟩ := h2
  refine ⟨_, pgs_cons p1 p2 hs, fun M σ H nv S as vs P Q r av q w => ?_⟩
  cases as with
  | nil => exact q.elim
  | cons a as =>
    obtain ⟨v, vr, e1, a1, a2⟩ := av
    refine ⟨v, vr, e1, k1 M σ H nv S a v _ _ r a1 q fun nv1 S1 σ1 H1 q1 e1 r1 z1 => ?_⟩
    refine k2 M σ1 H1 nv1 S1 as vr _ _ r1 (a2.up e1) q1 fun nv2 S2 σ2 H2 q2 e2 r2 z2 => ?_
    exact w nv2 S2 σ2 H2 q2 (e1.trans e2) r2 fun vs h => (z2 vs fun x hx => h x (List.mem_append_right _ hx)).trans (z1 vs fun x hx => h x (List.mem_append_left _ hx))
def gTp (n : Nat) (t : TGsA) : TGA := fun a nv S P => match a with
  | .tup xs => xs.length = n ∧ t xs nv S P
  | _ => False
theorem ga_tup {es : List Expr} {k : Nat} {js : List Nat} {t : TGsA} (n : Nat) (h : GsA X es js t) (hc : X.calm = true := by rfl) (hn : (assignEach es X.env).length = n := by rfl) (hst : (assignEach es X.env).findIdx? (·.1) = none := by rfl) : GA X (.Tuple es k pos) js (gTp n t) := by
  obtain ⟨t1, p1, k1⟩ := h
  refine ⟨_, pg_tup hc p1 hn hst, fun M σ H nv S a v P Q r av q w => ?_⟩
  unfold gTp at q
  split at q
  · obtain ⟨p, vs, h1, h2, h3, h4, h5⟩ := av
    exact ⟨p, vs, h1, SqT.of h4, by rw [h5.len]; exact q.1, k1 M σ H nv S _ vs P Q r h5 q.2 w⟩
  · exact q.elim
end
/-! ### what is walked: a known list of items; Kp: what has to stay so of the store -/
abbrev TIA := Nv → Sto → (List A → (Sto → Prop) → Sto → Prop) → Prop
structure Yl (M : Msk) (J : It) (Kp : Sto → Prop) (xs : List A) (S0 : Sto) (H0 : Hp) : Prop where
  y : ∀ (M' : Msk) S H, (∀ p o, H0 p = some o → ¬ M p → ¬ M' p) → Ext S0 H0 S H → SH M' S H → Kp S → ∀ i : Nat, (xs.length ≤ i → J.stop i H) ∧ ∀ a, xs[i]? = some a → J.go i H ∧ ∀ x H', J.yld i H x H' → Ext S H S H' ∧ SH M' S H' ∧ AV M' S H' a x
structure IA (X : Cx) (tg iter : Expr) (wi : TIA) : Prop where
  ex : ∃ w : TI, PI X tg iter w ∧ ∀ M σ H nv S P R, Rl M S H σ nv → wi nv S P → (∀ xs Kp S' H' J, P xs Kp S' → Ext S H S' H' → SH M S' H' → Yl M J Kp xs S' H' → R J H') → w σ H R
section
variable {X : Cx} {tg iter e a b : Expr} {te : TEA} {tl : TAA} {pos p : Pos}
def wList (te : TEA) : TIA := fun nv S P => te nv S fun x S1 => ∃ xs, lstr S1 x = some xs ∧ P xs (fun S' => lstr S' x = some xs) S1
theorem ia_list (h : EA X e te) : IA X tg e (wList te) := by
  obtain ⟨t, p, k⟩ := h
  refine ⟨_, pi_list p, fun M σ H nv S P R r q w => ?_⟩
  refine k M σ H nv S _ _ r q fun x S1 v H1 q1 e1 s1 av => ?_
  obtain ⟨xs, h1, h2⟩ := q1
  obtain ⟨a, vs, g1, g2, g3⟩ := lstr_ok s1 av h1
  refine ⟨a, g1, ⟨vs, .inl g2⟩, w xs _ S1 H1 _ h2 e1 s1 ⟨fun M' S' H' hm e s kp i => ?_⟩⟩
  have av' : AV M' S' H' x v := AV.mono ⟨fun b o hb sb mb => ⟨(e.keep b o hb sb).1, (e.keep b o hb sb).2, hm b o hb mb⟩⟩ x v av
  obtain ⟨a', vs', g1', g2', g3'⟩ := lstr_ok s av' kp
  have ea : a' = a := by
    rw [g1] at g1'
    exact (V.ref.inj g1').symm
  subst ea
  have hl := g3'.len
  refine ⟨fun hi => ⟨vs', .inl g2', by omega⟩, fun z hz => ?_⟩
  obtain ⟨v', f1, f2⟩ := g3'.get hz
  refine ⟨⟨vs', v', .inl g2', f1⟩, fun y H2 ⟨hh, hy⟩ => ?_⟩
  subst hh
  have ey := hy vs' (.inl g2')
  rw [f1] at ey
  cases ey
  exact ⟨.refl, s, f2⟩
def wTup (te : TEA) : TIA := fun nv S P => te nv S fun x S1 => match x with
  | .tup xs => P xs (fun _ => True) S1
  | _ => False
theorem ia_tup (h : EA X e te) : IA X tg e (wTup te) := by
  obtain ⟨t, p, k⟩ := h
  refine ⟨_, pi_tup p, fun M σ H nv S P R r q w => ?_⟩
  refine k M σ H nv S _ _ r q fun x S1 v H1 q1 e1 s1 av => ?_
  split at q1
  · rename_i xs
    obtain ⟨a, vs, h1, h2, h3, h4, h5⟩ := id av
    refine ⟨a, h1, ⟨vs, SqT.of h4⟩, w xs _ S1 H1 _ q1 e1 s1 ⟨fun M' S' H' hm e s kp i => ?_⟩⟩
    have av' : AV M' S' H' (.tup xs) v := AV.mono ⟨fun b o hb sb mb => ⟨(e.keep b o hb sb).1, (e.keep b o hb sb).2, hm b o hb mb⟩⟩ _ v av
    obtain ⟨a', vs', g1', g2', g3', g4', g5'⟩ := av'
    have ea : a' = a := by
      rw [h1] at g1'
      exact (V.ref.inj g1').symm
    subst ea
    have hl := g5'.len
    refine ⟨fun hi => ⟨vs', SqT.of g4', by omega⟩, fun z hz => ?_⟩
    obtain ⟨v', f1, f2⟩ := g5'.get hz
    refine ⟨⟨vs', v', SqT.of g4', f1⟩, fun y H2 ⟨hh, hy⟩ => ?_⟩
    subst hh
    have ey := hy vs' (SqT.of g4')
    rw [f1] at ey
    cases ey
    exact ⟨.refl, s, f2⟩
  · exact q1.elim
def rngA (lo : Int) (n : Nat) : List A := (List.range n).map fun i => .int (lo + (i : Nat))
theorem rngA_len (lo : Int) (n : Nat) : (rngA lo n).length = n := by unfold rngA; rw [List.length_map, List.length_range]
theorem rngA_get (lo : Int) (n i : Nat) (h : i < n) : (rngA lo n)[i]? = some (.int (lo + (i : Nat))) := by
  unfold rngA
  rw [List.getElem?_map, List.getElem?_range h]
  rfl
theorem rngA_at {lo : Int} {n i : Nat} {a : A} (h : (rngA lo n)[i]? = some a) : i < n ∧ a = .int (lo + (i : Nat)) := by
  have hi : i < n := by
    have := (List.getElem?_eq_some_iff.mp h).1
    rwa [rngA_len] at this
  rw [rngA_get lo n i hi] at h
  exact ⟨hi, (Option.some.inj h).symm⟩
theorem yl_rng (M : Msk) (lo : Int) (n : Nat) (S : Sto) (H : Hp) : Yl M (Itr lo n) (fun _ => True) (rngA lo n) S H := ⟨fun M' S' H' hm e s kp i => by
  rw [rngA_len]
  refine ⟨fun h => h, fun a ha => ?_⟩
  obtain ⟨h1, h2⟩ := rngA_at ha
  subst h2
  refine ⟨h1, fun x H2 ⟨hh, hx⟩ => ?_⟩
  subst hh hx
  exact ⟨.refl, s, rfl⟩⟩
def wRng1 (tl : TAA) : TIA := fun nv S P => tl nv S fun as S1 => match as with
  | [.int j] => (-(2 ^ 62) ≤ j ∧ j < 2 ^ 62) ∧ P (rngA 0 j.toNat) (fun _ => True) S1
  | _ => False
theorem ia_rng1 (hm : X.mg "range" = none) (ha : LA X [a] tl) (hg : Gl X "range" := by rfl) (hs : starEach [a] X.env = [(false, eval a X.env)] := by rfl) : IA X tg (.Call (.Name "range" p) [a] [] pos) (wRng1 tl) := by
  obtain ⟨t, p, k⟩ := ha
  refine ⟨_, pi_range1 hg hm p hs, fun M σ H nv S P R r q w => ?_⟩
  refine k M σ H nv S _ _ r q fun as S1 vs H1 n q1 e1 s1 av => ?_
  split at q1
  · rename_i j
    obtain ⟨v, rfl, e2⟩ := avs1 av
    exact ⟨j, by rw [show v = _ from e2], q1.1.1, q1.1.2, w _ _ S1 H1 _ q1.2 e1 s1 (yl_rng M 0 j.toNat S1 H1)⟩
  · exact q1.elim
def wRng2 (tl : TAA) : TIA := fun nv S P => tl nv S fun as S1 => match as with
  | [.int i, .int j] => (-(2 ^ 62) ≤ i ∧ i < 2 ^ 62 ∧ -(2 ^ 62) ≤ j ∧ j < 2 ^ 62) ∧ P (rngA i (j - i).toNat) (fun _ => True) S1
  | _ => False
theorem ia_rng2 (hm : X.mg "range" = none) (ha : LA X [a, b] tl) (hg : Gl X "range" := by rfl) (hs : starEach [a, b] X.env = [(false, eval a X.env), (false, eval b X.env)] := by rfl) (hs2 : starEach [b] X.env = [(false, eval b X.env)] := by rfl) : IA X tg (.Call (.Name "range" p) [a, b] [] pos) (wRng2 tl) := by
  obtain ⟨t, p, k⟩ := ha
  refine ⟨_, pi_range2 hg hm p hs hs2, fun M σ H nv S P R r q w => ?_⟩
  refine k M σ H nv S _ _ r q fun as S1 vs H1 n q1 e1 s1 av => ?_
  split at q1
  · rename_i i j
    obtain ⟨v, w', rfl, e2, e3⟩ := avs2 av
    exact ⟨i, j, by rw [show v = _ from e2, show w' = _ from e3], q1.1, w _ _ S1 H1 _ q1.2 e1 s1 (yl_rng M i (j - i).toNat S1 H1)⟩
  · exact q1.elim
/-! ### for -/
def sFor (wi : TIA) (g : TGA) (tb : TSA) : TSA := fun D nv S => wi nv S fun xs Kp S1 => ∃ I : Nat → Nv → Sto → Prop, I 0 nv S1 ∧ (∀ i nv' S', i ≤ xs.length → I i nv' S' → Kp S') ∧
  (∀ i x nv' S', xs[i]? = some x → I i nv' S' → g x nv' S' fun nv2 S2 => tb { D with nx := I (i + 1), ct := I (i + 1), bk := D.nx } nv2 S2) ∧ ∀ nv' S', I xs.length nv' S' → D.nx nv' S'
theorem sa_for {body : List Stmt} {wi : TIA} {g : TGA} {js : List Nat} {tb : TSA} (hp : PassesOwn (model X.prog X.w) X.A X.env X.xe) (hi : IA X tg iter wi) (hg : GA X tg js g) (hb : SB X body tb) (hc : X.calm = true := by rfl)
    (hs : ∀ x, foldedSetIterable iter X.env x = pure x := by intro _; rfl) : SA X (.For tg iter body [] pos) (sFor wi g tb) := by
  obtain ⟨w, p1, k1⟩ := hi
  obtain ⟨t1, p2, k2⟩ := hg
  obtain ⟨t2, p3, k3⟩ := hb
  refine ⟨_, ps_for hp hc p1 p2 p3 hs, fun M σ H nv S D D' r h l => ?_⟩
  refine k1 M σ H nv S _ _ r h fun xs Kp S1 H1 J q e1 s1 yl => ?_
  obtain ⟨I, h0, hk, ht, hd⟩ := q
  refine ⟨fun i m σ' H' => m = xs.length - i ∧ i ≤ xs.length ∧ ∃ nv' S', I i nv' S' ∧ Ext S1 H1 S' H' ∧ Rl M S' H' σ' nv', ⟨xs.length, by simp, Nat.zero_le _, nv, S1, h0, .refl, r.up e1 s1⟩, ?_⟩
  rintro i m σ2 H2 ⟨rfl, hi, nv2, S2, i2, e2, r2⟩
  obtain ⟨y1, y2⟩ := yl.y M S2 H2 (fun _ _ _ z => z) e2 r2.sh (hk i nv2 S2 hi i2) i
  by_cases hlt : i < xs.length
  · obtain ⟨g1, g2⟩ := y2 xs[i] (List.getElem?_eq_getElem hlt)
    refine .inr ⟨g1, fun σ' H' => ∃ nv' S', I (i + 1) nv' S' ∧ Ext S1 H1 S' H' ∧ Rl M S' H' σ' nv', fun σ' H' z => ⟨xs.length - (i + 1), by omega, rfl, hlt, z⟩, fun x H3 hy => ?_⟩
    obtain ⟨e3, s3, a3⟩ := g2 x H3 hy
    have r3 := r2.up e3 s3
    refine k2 M σ2 H3 nv2 S2 xs[i] x _ _ r3 a3 (ht i xs[i] nv2 S2 (List.getElem?_eq_getElem hlt) i2) fun nv4 S4 σ4 H4 q4 e4 r4 _ => ?_
    have ee := (e2.trans e3).trans e4
    exact k3 M σ4 H4 nv4 S4 _ _ r4 q4 ⟨fun nv' S' σ' H' n e r' => ⟨nv', S', n, ee.trans e, r'⟩, l.rt.up (e1.trans ee), l.nx.up (e1.trans ee), fun nv' S' σ' H' n e r' => ⟨nv', S', n, ee.trans e, r'⟩⟩
  · have ei : i = xs.length := by omega
    subst ei
    exact .inl ⟨y1 (Nat.le_refl _), l.nx nv2 S2 σ2 H2 (hd nv2 S2 i2) (e1.trans e2) r2⟩
/-! ### comprehensions -/
structure TsA (X : Cx) (ifs : List Expr) (te : TTA) : Prop where
  ex : ∃ t, PTs X ifs t ∧ TR t te
theorem TsA.pt {ifs : List Expr} {te : TTA} (h : TsA X ifs te) : PTs X ifs (cT te) := by
  obtain ⟨t, p, k⟩ := h
  exact ⟨fun pins s σ H Q I ⟨M, nv, S, P, r, q, w⟩ => p.run pins s σ H Q I (k M σ H nv S P Q r q w)⟩
def tYesA : TTA := fun _ S P => P true S
theorem tsa_nil : TsA X [] tYesA := ⟨_, pts_nil, fun M σ H nv S P Q r q w => w true S H q .refl r.sh⟩
theorem tsa_one {c : Expr} {t : TTA} (h : TA' X c t) : TsA X [c] t := by
  obtain ⟨u, p, k⟩ := h
  exact ⟨_, pts_one p, k⟩
def eLc (wi : TIA) (g : TGA) (tt : TTA) (te : TEA) (vs : List Nat) : TEA := fun nv S P => wi nv S fun xs Kp S1 => xs.length ≤ 1000000 ∧ ∃ I : Nat → List A → Sto → Prop, I 0 [] S1 ∧ (∀ i acc S', i ≤ xs.length → I i acc S' → Kp S') ∧
  (∀ i x acc S', xs[i]? = some x → I i acc S' → g x (wipeN nv vs) S' fun nv2 S2 => tt nv2 S2 fun b S3 => bsel b (te nv2 S3 fun y S4 => I (i + 1) (acc ++ [y]) S4) (I (i + 1) acc S3)) ∧ ∀ acc S', I xs.length acc S' → P (.lst acc) S'
theorem lc_turns {wi : TIA} {g : TGA} {tt : TTA} {te : TEA} {js vs : List Nat} (hj : ∀ j ∈ js, j ∈ vs) {w : TI} (k1 : ∀ M σ H nv S P R, Rl M S H σ nv → wi nv S P → (∀ xs Kp S' H' J, P xs Kp S' → Ext S H S' H' → SH M S' H' → Yl M J Kp xs S' H' → R J H') → w σ H R) :
    ER (tLc w (cG js g) (cT tt) (cE te) vs) (eLc wi g tt te vs) := by
  intro M σ H nv S P Q r h k
  refine k1 M σ H nv S _ _ r h fun xs Kp S1 H1 J q e1 s1 yl D hD => ?_
  obtain ⟨hz, I, h0, hk, ht, hd⟩ := q
  have fr := s1.free hD
  have sz : 1000000 < sizeLine := by rw [sizeLine_eq]; decide
  -- the mask with the new list
  refine ⟨fun i m H' => m = xs.length - i ∧ i ≤ xs.length ∧ ∃ acc av S', I i acc S' ∧ Ext S1 H1 S' H' ∧ SH (fun p => M p ∨ p = D) S' H' ∧ H' D = some (.lst av) ∧ AVs (fun p => M p ∨ p = D) S' H' acc av ∧ acc.length ≤ i, ⟨xs.length, by simp, Nat.zero_le _, [], [], S1, h0, ?_, ?_, upd_same, rfl, Nat.le_refl _⟩, ?_⟩
  · exact (s1.laid hD _).1
  · refine ⟨fun b c hb => ⟨fun z => ?_, ?_⟩, fun b hb => ?_⟩
    · rcases z with z | z
      · exact (s1.cell b c hb).1 z
      · rw [z, fr.1] at hb
        cases hb
    · obtain ⟨o, ho⟩ := s1.there hb
      have nb : b ≠ D := ne_of_none ho hD
      exact (s1.cell b c hb).2.up ⟨fun p o hp sp mp => ⟨by rw [upd_ne (ne_of_none hp hD)]; exact hp, sp, fun z => z.elim mp (ne_of_none hp hD)⟩⟩ fun u hu => by rw [upd_ne nb]; exact hu
    · by_cases hbD : b = D
      · rw [hbD, upd_same]
        exact fun z => by cases z
      · rw [upd_ne hbD]
        exact s1.mask b (hb.elim id fun z => absurd z hbD)
  · rintro i m H2 ⟨rfl, hi, acc, av, S2, i2, e2, s2, hD2, a2, hacc⟩
    have hm' : ∀ p o, H1 p = some o → ¬ M p → ¬ (M p ∨ p = D) := fun p o hp mp z => z.elim mp (ne_of_none hp hD)
    obtain ⟨y1, y2⟩ := yl.y _ S2 H2 hm' e2 s2 (hk i acc S2 hi i2) i
    have sD : ∀ {S' : Sto} {H' : Hp}, SH (fun p => M p ∨ p = D) S' H' → S' D = none := fun {S' H'} s => by
      cases e : S' D with
      | none => rfl
      | some c => exact absurd (.inr rfl) (s.cell D c e).1
    by_cases hlt : i < xs.length
    · obtain ⟨g1, g2⟩ := y2 xs[i] (List.getElem?_eq_getElem hlt)
      refine .inr ⟨g1, fun H' => ∃ acc av S', I (i + 1) acc S' ∧ Ext S1 H1 S' H' ∧ SH (fun p => M p ∨ p = D) S' H' ∧ H' D = some (.lst av) ∧ AVs (fun p => M p ∨ p = D) S' H' acc av ∧ acc.length ≤ i + 1, fun H' z => ⟨xs.length - (i + 1), by omega, rfl, hlt, z⟩, fun x H3 hy => ?_⟩
      obtain ⟨e3, s3, a3⟩ := g2 x H3 hy
      -- the names' values, within the block
      have r1 := r.up e1 s1
      have e13 := e2.trans e3
      have r3 : Rl (fun p => M p ∨ p = D) S2 H3 σ nv := ⟨s3, r1.len, fun j z hz => by
        obtain ⟨v, f1, f2⟩ := r1.at_ j z hz
        exact ⟨v, f1, AV.mono ⟨fun b o hb sb mb => ⟨(e13.keep b o hb sb).1, (e13.keep b o hb sb).2, hm' b o hb mb⟩⟩ z v f2⟩⟩
      refine ⟨_, _, S2, xs[i], _, r3.wipe vs, a3, ht i xs[i] acc S2 (List.getElem?_eq_getElem hlt) i2, fun nv4 S4 σ4 H4 q4 e4 r4 z4 => ⟨?_, ?_⟩⟩
      · rw [z4 vs hj, wipe_wipe σ vs vs fun _ z => z]
      · refine ⟨_, nv4, S4, _, r4, q4, fun b S5 H5 q5 e5 s5 => bsel_if ?_⟩
        have e35 := (e3.trans e4).trans e5
        have hD5 := (e35.keep D _ hD2 (sD s2)).1
        cases b with
        | true =>
          refine ⟨_, nv4, S5, _, r4.up e5 s5, q5, fun y S6 v6 H6 q6 e6 s6 a6 => ?_⟩
          have e36 := e35.trans e6
          have hD6 := (e6.keep D _ hD5 (sD s5)).1
          have kx : Kx (fun p => M p ∨ p = D) S6 H6 (fun p => M p ∨ p = D) S6 (upd H6 D (.lst (av ++ [v6]))) := ⟨fun b o hb sb mb => ⟨by rw [upd_ne fun z => mb (.inr z)]; exact hb, sb, mb⟩⟩
          refine ⟨av, hD6, by rw [a2.len]; omega, acc ++ [y], av ++ [v6], S6, q6, ⟨fun b o hb sb => ?_⟩, ⟨fun b c hb => ⟨(s6.cell b c hb).1, ?_⟩, fun b hb => ?_⟩, upd_same, ?_, by rw [List.length_append]; simp only [List.length_cons, List.length_nil]; omega⟩
          · have z := (e2.trans e36).keep b o hb sb
            exact ⟨by rw [upd_ne (ne_of_none hb hD)]; exact z.1, z.2⟩
          · have nb : b ≠ D := fun z => by rw [z, sD s6] at hb; cases hb
            exact (s6.cell b c hb).2.up kx fun u hu => by rw [upd_ne nb]; exact hu
          · by_cases hbD : b = D
            · rw [hbD, upd_same]
              exact fun z => by cases z
            · rw [upd_ne hbD]
              exact s6.mask b hb
          · exact AVs.mono kx _ _ ((a2.up e36).app (.one a6))
        | false => exact ⟨acc, av, S5, q5, e2.trans e35, s5, hD5, a2.up e35, by omega⟩
    · have ei : i = xs.length := by omega
      subst ei
      have kx : Kx (fun p => M p ∨ p = D) S2 H2 M S2 H2 := ⟨fun b o hb sb mb => ⟨hb, sb, fun z => mb (.inl z)⟩⟩
      refine .inl ⟨y1 (Nat.le_refl _), k _ S2 _ H2 (hd acc S2 i2) (e1.trans e2) ⟨fun b c hb => ⟨fun z => (s2.cell b c hb).1 (.inl z), (s2.cell b c hb).2.up kx fun _ z => z⟩, fun b hb => s2.mask b (.inl hb)⟩ ⟨D, av, rfl, sD s2, fr.2, hD2, AVs.mono kx _ _ a2⟩⟩
theorem ea_lc {elt : Expr} {ifs : List Expr} {scope : Scope} (own : List (Str × Nat)) {wi : TIA} {g : TGA} {tt : TTA} {te : TEA} {js : List Nat} (hN : X.N.Nodup) (hi : IA X tg iter wi) (ok : blkC X.N X.env.scope scope own = true)
    (hg : ∀ (s : Shared) (H : Hp) (C : Addr) (cl : List (Str × Addr)) (fp : List Addr), GA (X.blk s H scope (compEnvC scope cl C X.env) fp) tg js g) (ht : ∀ (s : Shared) (H : Hp) (C : Addr) (cl : List (Str × Addr)) (fp : List Addr), TsA (X.blk s H scope (compEnvC scope cl C X.env) fp) ifs tt)
    (he : ∀ (s : Shared) (H : Hp) (C : Addr) (cl : List (Str × Addr)) (fp : List Addr), EA (X.blk s H scope (compEnvC scope cl C X.env) fp) elt te) (hj : ∀ j ∈ js, j ∈ own.map (·.2) := by decide) (hc : X.calm = true := by rfl) (hs : ∀ x, foldedSetIterable iter X.env x = pure x := by intro _; rfl) :
    EA X (.ListComp elt [⟨tg, iter, ifs, 0⟩] scope pos) (eLc wi g tt te (own.map (·.2))) := by
  obtain ⟨w, p1, k1⟩ := hi
  exact ⟨_, pe_lc hc hN p1 (blkOk_by ok) (fun s H C cl fp => (hg s H C cl fp).pg) (fun s H C cl fp => (ht s H C cl fp).pt) (fun s H C cl fp => (he s H C cl fp).pe) hs, lc_turns hj k1⟩
theorem sa_setLc {elt : Expr} {ifs : List Expr} {scope : Scope} (own : List (Str × Nat)) {wi : TIA} {g : TGA} {tt : TTA} {te : TEA} {js : List Nat} (i : Nat) {y : Str} {py spos : Pos} (hN : X.N.Nodup) (hi : IA X tg iter wi) (ok : blkC X.N X.env.scope scope own = true)
    (hg : ∀ (s : Shared) (H : Hp) (C : Addr) (cl : List (Str × Addr)) (fp : List Addr), GA (X.blk s H scope (compEnvC scope cl C X.env) fp) tg js g) (ht : ∀ (s : Shared) (H : Hp) (C : Addr) (cl : List (Str × Addr)) (fp : List Addr), TsA (X.blk s H scope (compEnvC scope cl C X.env) fp) ifs tt)
    (he : ∀ (s : Shared) (H : Hp) (C : Addr) (cl : List (Str × Addr)) (fp : List Addr), EA (X.blk s H scope (compEnvC scope cl C X.env) fp) elt te)
    (hk : X.env.scope.kind = .function := by rfl) (hl : (py.line == pos.line) = true := by rfl) (hn : (scope.names.any fun (n, k) => n == y && (k == .local || k == .cell)) = false := by decide +kernel) (hy : X.N[i]? = some y := by rfl) (hyl : X.env.scope.names.lookup y = some .local := by rfl)
    (hj : ∀ j ∈ js, j ∈ own.map (·.2) := by decide) (hc : X.calm = true := by rfl) (hs : ∀ x, foldedSetIterable iter X.env x = pure x := by intro _; rfl) :
    SA X (.Assign [.Name y py] (.ListComp elt [⟨tg, iter, ifs, 0⟩] scope pos) spos) (sSet i (eLc wi g tt te (own.map (·.2)))) := by
  obtain ⟨w, p1, k1⟩ := hi
  refine ⟨_, ps_setLc hc hN hy hyl ?_ p1 (blkOk_by ok) (fun s H C cl fp => (hg s H C cl fp).pg) (fun s H C cl fp => (ht s H C cl fp).pt) (fun s H C cl fp => (he s H C cl fp).pe) hs, fun M σ H nv S D D' r h l => ?_⟩
  · exact sw_true hk hyl hl hn
  · exact lc_turns hj k1 M σ H nv S _ _ r h fun a S' v H' q e s av => l.nx _ S' _ H' q e ((r.up e s).set i av)
end
end Lay

namespace Lay
open PySem L2 PyProof.Rows
/-! ### defs -/
def startN (N : List Str) (as : List A) : Nv := as.map some ++ List.replicate (N.length - as.length) none
theorem start_rel {M : Msk} {S : Sto} {H : Hp} {N : List Str} {as : List A} {vs : List V} (s : SH M S H) (a : AVs M S H as vs) : Rl M S H (L2.start N vs) (startN N as) := by
  refine ⟨s, ?_, fun i x q => ?_⟩
  · unfold L2.start startN
    rw [List.length_append, List.length_append, List.length_map, List.length_map, List.length_replicate, List.length_replicate, a.len]
  · unfold startN at q
    unfold L2.start
    by_cases hi : i < as.length
    · rw [List.getElem?_append_left (by rw [List.length_map]; exact hi), List.getElem?_map] at q
      cases e : as[i]? with
      | none => rw [e] at q; cases q
      | some z =>
        rw [e] at q
        cases q
        obtain ⟨v, h1, h2⟩ := a.get e
        refine ⟨v, ?_, h2⟩
        rw [List.getElem?_append_left (by rw [List.length_map, a.len]; exact hi), List.getElem?_map, h1]
        rfl
    · rw [List.getElem?_append_right (by rw [List.length_map]; omega), List.getElem?_replicate] at q
      split at q <;> cases q
section
variable {P : Program} {w : World} {K : PySem.W.Frag} {mg : Str → Option Value} {base : Heap}
/-- a def as the top left it -/
structure Def (K : PySem.W.Frag) (mg : Str → Option Value) (x : Str) (st : Stmt) (f : Addr) : Prop where
  ex : ∃ fd, Fun K x x st f fd
  mg : mg x = some (.ref f)
/-- what a body's proof may use of where it stands -/
abbrev cxA (P : Program) (w : World) (K : PySem.W.Frag) (mg : Str → Option Value) (base : Heap) (N : List Str) (qual : Str) (scope : Scope) (f : Addr) (cd : Value) (A : Around) (outer : List Env) (s : Shared) (H : Hp) (E : XK) : Cx := (cxOf CX0 P w K mg base N qual scope f cd A outer s H E).nox
theorem got_of {x : Str} {st : Stmt} {f : Addr} {N ps : List Str} {k : Nat} {sp : SpA} (D : Def K mg x st f) (S : FnScope N ps (defScope st)) (len : ∀ as S P, sp as S P → as.length = ps.length)
    (hb : ∀ (kV doc pm : Value) (an : Option Addr) (cdv ct : Value) (us : List Value), us.length = ps.length → bindArgs (PySem.W.fnOf x x (defArgs st) (defBody st) (defScope st) .none kV doc pm an cdv ct) ⟨us, []⟩ = pure (ps.zip us))
    (body : ∀ (cdv : Value) (A : Around) (outer : List Env) (s : Shared) (H : Hp) (E : XK), Room k (A.deeper (envOfC x (defScope st) s.heap.objs.size f cdv)) →
      ∃ ts, SB (cxA P w K mg base N x (defScope st) f cdv A outer s H E) (defBody st) ts ∧ ∀ as S P, sp as S P → ts { nx := fun _ S' => P .non S', rt := P } (startN N as) S) : Got P w K mg base (k + 1) ps x st f sp := by
  obtain ⟨fd, F⟩ := D.ex
  refine ⟨⟨fd, F.ok S (fun vs H Q E ⟨M, S', as, P', s, a, h, w⟩ => by rw [a.len]; exact len as S' P' h) (fun cdv A outer s H vs Q E hr ⟨M, S', as, P', sh, a, h, w⟩ => ?_), F, F.binds hb⟩, D.mg⟩
  obtain ⟨ts, ⟨t, p, kk⟩, rd⟩ := body cdv A outer s H E hr
  refine ⟨t, p, kk M (L2.start N vs) H (startN N as) S' { nx := fun _ S' => P' .non S', rt := P' } { nx := fun _ H' => Q .non H', rt := Q } (start_rel sh a) (rd as S' P' h) ⟨fun nv' S2 σ' H' p e r => w .non S2 .non H' p e r.sh rfl, w, fun _ _ _ _ p _ _ => p.elim, fun _ _ _ _ p _ _ => p.elim⟩⟩
theorem Got.imp {x : Str} {k : Nat} {ps : List Str} {st : Stmt} {f : Addr} {sp sp' : SpA} (G : Got P w K mg base k ps x st f sp) (h : ∀ as S Q, sp' as S Q → ∃ Q', sp as S Q' ∧ ∀ a S', Q' a S' → Q a S') : Got P w K mg base k ps x st f sp' := by
  obtain ⟨fd, F, r⟩ := G.ex
  refine ⟨⟨fd, F.imp fun vs H Q E ⟨M, S, as, P', s, a, q, w⟩ => ?_, r⟩, G.mg⟩
  obtain ⟨Q', q1, q2⟩ := h as S P' q
  exact ⟨M, S, as, Q', s, a, q1, fun z S2 v H2 p e s2 a2 => w z S2 v H2 (q2 z S2 p) e s2 a2⟩
theorem Got.mono {x : Str} {j k : Nat} {ps : List Str} {st : Stmt} {f : Addr} {sp : SpA} (G : Got P w K mg base j ps x st f sp) (h : j ≤ k) : Got P w K mg base k ps x st f sp := by
  obtain ⟨fd, F, r⟩ := G.ex
  exact ⟨⟨fd, F.mono h, r⟩, G.mg⟩
end
/-! ### calls by keywords alone -/
section
variable {X : Cx} {e : Expr} {es : List Expr} {kws : List Keyword} {tl : TAA} {p pos : Pos}
theorem pe_callN0 {CX : CXT} {k : Nat} {f : Addr} {fd : FuncData} {ps ks : List Str} {sp : Sp} {E : XK} {x : Str} {tk : TA} {g : List Value → List Value → List Value} {gV : List V → List V → List V} (F : FnOk X.prog X.w X.K X.mg X.base CX k f fd ps sp) (hr : Room k X.A) (hg : Gl X x) (hm : X.mg x = some (.ref f)) (hk : PySem.W.keepIn X.K (.ref f) = true) (hb : KBn X.K fd ps 0 ks g gV) (hx : Passes CX X E)
    (hkw : PK X kws tk) (hall : (backToKw pos (keywordEach kws X.env)).all (·.1.isSome) = true := by rfl) (hks : (backToKw pos (keywordEach kws X.env)).filterMap (·.1) = ks := by rfl)
    (hdb : (x == ("__debug__" : Str)) = false := by decide)
    (hpl : ((backTo pos (starEach [] X.env)).any (·.1) || (backToKw pos (keywordEach kws X.env)).any (·.1.isNone)) = false := by rfl) :
    PE X (.Call (.Name x p) [] kws pos) (tCallN 0 ks.length sp gV E tNil tk) := by
  refine ⟨fun pins s σ H Q I h => ?_⟩
  refine wpAny_Call_Name_kw (ld_glob I hg hm ?_ hdb)
  refine PySem.W.callWith_KW0 (h₀ := X.base) I.ok.mod.kin hk hall ?_ hpl
  refine thn (hkw.run pos pins s σ H _ I h) fun ws s2 ⟨zs, H2, I2, rz, l1, l2, q2⟩ => ⟨I2.kIn, ?_⟩
  rw [hks]
  exact run_fnN (us := []) F hr hb hx I2 .nil rz l1 l2 q2
/-- the places, from the keywords' order to the parameters' -/
def byPl {α : Type} (pl : List Nat) (l : List α) : List α := pl.filterMap (l[·]?)
theorem Vals.byPl {vs : List V} {us : List Value} (r : Vals vs us) : ∀ pl : List Nat, Vals (byPl pl vs) (byPl pl us)
  | [] => .nil
  | i :: pl => by
    unfold Lay.byPl
    rw [List.filterMap_cons, List.filterMap_cons]
    cases e : vs[i]? with
    | none =>
      rw [r.none_of e]
      exact Vals.byPl r pl
    | some v =>
      obtain ⟨u, h1, h2⟩ := r.get e
      rw [h1]
      exact .cons h2 (Vals.byPl r pl)
theorem AVs.byPl {M : Msk} {S : Sto} {H : Hp} {as : List A} {vs : List V} (a : AVs M S H as vs) : ∀ pl : List Nat, AVs M S H (byPl pl as) (byPl pl vs)
  | [] => rfl
  | i :: pl => by
    unfold Lay.byPl
    rw [List.filterMap_cons, List.filterMap_cons]
    cases e : as[i]? with
    | none =>
      have hn : vs[i]? = none := List.getElem?_eq_none_iff.mpr (by rw [a.len]; exact List.getElem?_eq_none_iff.mp e)
      rw [hn]
      exact AVs.byPl a pl
    | some z =>
      obtain ⟨v, h1, h2⟩ := a.get e
      rw [h1]
      exact ⟨v, _, rfl, h2, AVs.byPl a pl⟩
def eCallK (pl : List Nat) (sp : SpA) (tl : TAA) : TEA := fun nv S P => tl nv S fun as S1 => sp (byPl pl as) S1 P
/-- f(k = e, ..): pl tells, for each parameter, the place of its keyword -/
theorem ea_callK {k : Nat} {ps ks : List Str} {x : Str} {sp : SpA} {st : Stmt} {f : Addr} (pl : List Nat) (G : Got X.prog X.w X.K X.mg X.base k ps x st f sp) (hr : Room k X.A) (ha : KA X ks.length kws tl)
    (hb : ∀ (kV doc pm : Value) (an : Option Addr) (cdv ct : Value) (us : List Value), us.length = ks.length → bindArgs (PySem.W.fnOf x x (defArgs st) (defBody st) (defScope st) .none kV doc pm an cdv ct) ⟨[], ks.zip us⟩ = pure (ps.zip (byPl pl us)))
    (hg : Gl X x := by rfl) (hall : (backToKw pos (keywordEach kws X.env)).all (·.1.isSome) = true := by rfl) (hks : (backToKw pos (keywordEach kws X.env)).filterMap (·.1) = ks := by rfl)
    (hdb : (x == ("__debug__" : Str)) = false := by decide)
    (hpl : ((backTo pos (starEach [] X.env)).any (·.1) || (backToKw pos (keywordEach kws X.env)).any (·.1.isNone)) = false := by rfl) :
    EA X (.Call (.Name x p) [] kws pos) (eCallK pl sp tl) := by
  obtain ⟨fd, F, F2, _⟩ := G.ex
  obtain ⟨oc, od, kV, doc, pm, an, cdv, ct, osl, e2, lk, hcd⟩ := F2.ex
  obtain ⟨t, p1, kk⟩ := ha
  have KB : KBn X.K fd ps 0 ks (fun _ ws => byPl pl ws) (fun _ zs => byPl pl zs) := by
    refine ⟨fun s us ws _ h1 h2 => ?_, fun _ r => Vals.byPl r pl⟩
    have e0 : us = [] := List.length_eq_zero_iff.mp h1
    subst e0 e2
    exact BindsTo.of_eq (hb kV doc pm an cdv ct ws h2)
  refine ⟨_, pe_callN0 F hr hg G.mg F2.kp KB pass0 p1 hall hks hdb hpl, fun M σ H nv S P Q r h w => ?_⟩
  show t σ H fun zs H2 => ([] : List V).length = 0 ∧ zs.length = ks.length ∧ liftSp sp (byPl pl zs) H2 Q E0
  refine kk M σ H nv S _ _ r h fun as S1 vs H1 n q e s av => ⟨rfl, by rw [av.len, n], ?_⟩
  exact ⟨M, S1, byPl pl as, P, s, av.byPl pl, q, w.up e⟩
/-! ### calls of what a name holds -/
/-- the defs that may be held -/
abbrev Tab := Addr → Option SpA
structure Held' (P : Program) (w : World) (K : PySem.W.Frag) (mg : Str → Option Value) (base : Heap) (k : Nat) (T : Tab) : Prop where
  ex : ∀ f sp, T f = some sp → ∃ (fd : FuncData) (ps : List Str), FnOk P w K mg base CX0 k f fd ps (liftSp sp) ∧ PySem.W.keepIn K (.ref f) = true ∧ Binds K fd ps []
def eCallV (i : Nat) (T : Tab) (tl : TAA) : TEA := fun nv S P => match nv[i]? with
  | some (some (.ref f)) => ∃ sp, T f = some sp ∧ tl nv S fun as S1 => sp as S1 P
  | _ => False
theorem ea_callV {k : Nat} {x : Str} {T : Tab} (i : Nat) (G : Held' X.prog X.w X.K X.mg X.base k T) (hr : Room k X.A) (ha : LA X (e :: es) tl) (hN : X.N[i]? = some x := by rfl) (hv : Vis X.env.scope x := by first | exact Or.inl rfl | exact Or.inr (Or.inl rfl) | exact Or.inr (Or.inr rfl))
    (hdb : (x == ("__debug__" : Str)) = false := by decide) (hcd : (x == ("__classdict__" : Str)) = false := by decide)
    (he : starEach (e :: es) X.env = (false, eval e X.env) :: starEach es X.env := by rfl) (hpl : (backTo pos (starEach es X.env)).any (·.1) = false := by rfl) : EA X (.Call (.Name x p) (e :: es) [] pos) (eCallV i T tl) := by
  obtain ⟨t, p1, kk⟩ := ha
  have A : ∀ f sp, (fun f => (T f).map liftSp) f = some sp → L2.Held X.prog X.w X.K X.mg X.base k f sp := fun f sp h => by
    cases e : T f with
    | none =>
      have h' : (T f).map liftSp = some sp := h
      rw [e] at h'
      cases h'
    | some s =>
      have h' : (T f).map liftSp = some sp := h
      rw [e] at h'
      cases h'
      obtain ⟨fd, ps, F, hk, hb⟩ := G.ex f s e
      exact ⟨fd, ps, F, hk, hb⟩
  refine ⟨_, pe_callA (S := fun f => (T f).map liftSp) (i := i) A hr hN hv p1 hdb hcd he hpl, fun M σ H nv S P Q r h w => ?_⟩
  unfold eCallV at h
  split at h
  · rename_i f q
    obtain ⟨v, h1, h2⟩ := r.at_ i _ q
    obtain ⟨sp, g1, g2⟩ := h
    refine ⟨f, liftSp sp, by rw [h1, show v = _ from h2], by show (T f).map liftSp = _; rw [g1]; rfl, ?_⟩
    refine kk M σ H nv S _ _ r g2 fun as S1 vs H1 n q e s av => ?_
    exact ⟨M, S1, as, P, s, av, q, w.up e⟩
  · exact h.elim
end
end Lay

namespace Lay
open PySem L2 PyProof.Rows
/-- the built-in names that the program's module does not bind -/
structure Bi (mg : Str → Option Value) : Prop where
  isinstance_ : mg "isinstance" = none
  len_ : mg "len" = none
  abs_ : mg "abs" = none
  int_ : mg "int" = none
  bool_ : mg "bool" = none
  str_ : mg "str" = none
  list_ : mg "list" = none
  tuple_ : mg "tuple" = none
  range_ : mg "range" = none
  sum_ : mg "sum" = none
  max_ : mg "max" = none
/-! ### isinstance, told by the value -/
def isI : A → Bool
  | .int _ => true
  | .bl _ => true
  | _ => false
def isB : A → Bool
  | .bl _ => true
  | _ => false
def isS : A → Bool
  | .str _ => true
  | _ => false
def isT : A → Bool
  | .tup _ => true
  | _ => false
def isL (S : Sto) : A → Bool
  | .lst _ => true
  | .ref p => match S p with
    | some (.lst _) => true
    | some (.frz _) => true
    | _ => false
  | _ => false
def kn (S : Sto) (x : A) : Prop := (tyN S x).isSome = true
section
variable {S : Sto} {x : A} {P : A → Sto → Prop}
theorem isi_of {n : String} {f : A → Bool} (hk : kn S x) (h : ∀ t, tyN S x = some t → kitB t n = some (f x)) (p : P (.bl (f x)) S) : rIsiA [x, .ty n] S P := by
  cases e : tyN S x with
  | none =>
    unfold kn at hk
    rw [e] at hk
    cases hk
  | some t => exact ⟨t, _, e, h t e, p⟩
theorem isi_int (hk : kn S x) (p : P (.bl (isI x)) S) : rIsiA [x, .ty "int"] S P := isi_of hk (fun t e => by
  cases x with
  | ref q =>
    unfold tyN at e
    dsimp only at e
    split at e <;> first | (cases e; first | (show kitB _ _ = some true; decide +kernel) | (show kitB _ _ = some false; decide +kernel)) | cases e
  | ty _ => cases e
  | _ => cases e; first | (show kitB _ _ = some true; decide +kernel) | (show kitB _ _ = some false; decide +kernel)) p
theorem isi_bool (hk : kn S x) (p : P (.bl (isB x)) S) : rIsiA [x, .ty "bool"] S P := isi_of hk (fun t e => by
  cases x with
  | ref q =>
    unfold tyN at e
    dsimp only at e
    split at e <;> first | (cases e; first | (show kitB _ _ = some true; decide +kernel) | (show kitB _ _ = some false; decide +kernel)) | cases e
  | ty _ => cases e
  | _ => cases e; first | (show kitB _ _ = some true; decide +kernel) | (show kitB _ _ = some false; decide +kernel)) p
theorem isi_str (hk : kn S x) (p : P (.bl (isS x)) S) : rIsiA [x, .ty "str"] S P := isi_of hk (fun t e => by
  cases x with
  | ref q =>
    unfold tyN at e
    dsimp only at e
    split at e <;> first | (cases e; first | (show kitB _ _ = some true; decide +kernel) | (show kitB _ _ = some false; decide +kernel)) | cases e
  | ty _ => cases e
  | _ => cases e; first | (show kitB _ _ = some true; decide +kernel) | (show kitB _ _ = some false; decide +kernel)) p
theorem isi_tuple (hk : kn S x) (p : P (.bl (isT x)) S) : rIsiA [x, .ty "tuple"] S P := isi_of hk (fun t e => by
  cases x with
  | ref q =>
    unfold tyN at e
    dsimp only at e
    split at e <;> first | (cases e; first | (show kitB _ _ = some true; decide +kernel) | (show kitB _ _ = some false; decide +kernel)) | cases e
  | ty _ => cases e
  | _ => cases e; first | (show kitB _ _ = some true; decide +kernel) | (show kitB _ _ = some false; decide +kernel)) p
theorem isi_list (hk : kn S x) (p : P (.bl (isL S x)) S) : rIsiA [x, .ty "list"] S P := isi_of hk (fun t e => by
  cases x with
  | ref q =>
    unfold tyN at e
    dsimp only at e
    split at e
    · rename_i q1 q2
      cases e
      have z : isL S (.ref q) = true := by unfold isL; dsimp only; rw [q2]
      rw [z]
      decide +kernel
    · rename_i q1 q2
      cases e
      have z : isL S (.ref q) = true := by unfold isL; dsimp only; rw [q2]
      rw [z]
      decide +kernel
    · cases e
  | ty _ => cases e
  | _ => cases e; first | (show kitB _ _ = some true; decide +kernel) | (show kitB _ _ = some false; decide +kernel)) p
/-- isinstance(x, (list, tuple)) -/
theorem isi_lt (hk : kn S x) (p : P (.bl (isL S x || isT x)) S) : rIsiTA [x, .tup [.ty "list", .ty "tuple"]] S P := by
  cases e : tyN S x with
  | none =>
    unfold kn at hk
    rw [e] at hk
    cases hk
  | some t =>
    refine ⟨t, _, e, ?_, p⟩
    cases x with
    | ref q =>
      unfold tyN at e
      dsimp only at e
      split at e
      · rename_i q1 q2
        cases e
        have z : isL S (.ref q) = true := by unfold isL; dsimp only; rw [q2]
        rw [z]
        show kitBs _ _ = some true
        decide +kernel
      · rename_i q1 q2
        cases e
        have z : isL S (.ref q) = true := by unfold isL; dsimp only; rw [q2]
        rw [z]
        show kitBs _ _ = some true
        decide +kernel
      · cases e
    | ty _ => cases e
    | _ => cases e; first | (show kitBs _ _ = some true; decide +kernel) | (show kitBs _ _ = some false; decide +kernel)
end
/-! ### sizes of ints -/
def Bd (k : Nat) (i : Int) : Prop := i.natAbs < 2 ^ k
theorem Bd.mulW {i j : Int} {a b : Nat} (ha : Bd a i) (hb : Bd b j) (h0 : 0 < a := by decide) (h1 : 0 < b := by decide) (h : a + b ≤ 1000000 := by decide) : CMulW i j := wide_mul ha hb h0 h1 h
theorem Bd.divW {i j : Int} {b : Nat} (hb : Bd b j) (h : 0 < j) (h0 : 0 < b := by decide) (h9 : b ≤ 9000 := by decide) : CDivW i j := wide_div h hb h0 h9
theorem Bd.divX {i j : Int} {b : Nat} (hb : Bd b j) (h : j ≠ 0) (h0 : 0 < b := by decide) (h9 : b ≤ 9000 := by decide) : CDivX i j := ⟨h, Nat.lt_of_lt_of_le (PySem.Flt.log2_lt_of h0 hb) h9⟩
theorem Bd.le {i : Int} {a b : Nat} (ha : Bd a i) (h : a ≤ b := by decide) : Bd b i := Nat.lt_of_lt_of_le ha (Nat.pow_le_pow_right (by decide) h)
theorem Bd.add {i j : Int} {a : Nat} (ha : Bd a i) (hb : Bd a j) : Bd (a + 1) (i + j) := by
  unfold Bd at *
  rw [Nat.pow_succ]
  omega
theorem Bd.sub {i j : Int} {a : Nat} (ha : Bd a i) (hb : Bd a j) : Bd (a + 1) (i - j) := by
  unfold Bd at *
  rw [Nat.pow_succ]
  omega
theorem Bd.mul {i j : Int} {a b : Nat} (ha : Bd a i) (hb : Bd b j) : Bd (a + b) (i * j) := wide_lt ha hb
theorem Bd.neg {i : Int} {a : Nat} (ha : Bd a i) : Bd a (-i) := by unfold Bd; rw [Int.natAbs_neg]; exact ha
theorem Bd.of_le {i j : Int} {a : Nat} (ha : Bd a j) (h : i.natAbs ≤ j.natAbs) : Bd a i := Nat.lt_of_le_of_lt h ha
/-- an int between two small bounds -/
theorem Bd.small {i : Int} {m : Nat} (a : Nat) (h : i.natAbs ≤ m) (hm : m < 2 ^ a := by decide) : Bd a i := Nat.lt_of_le_of_lt h hm
theorem bsel_true {p q : Prop} : bsel true p q = p := rfl
theorem bsel_false {p q : Prop} : bsel false p q = q := rfl
/-- the known answer of a test -/
theorem sel_i {b : Bool} {p q : Prop} (h1 : b = true → p) (h2 : b = false → q) : bsel b p q := bsel_i h1 h2
/-! ### == with [] -/
theorem eqv_nil (ds : List PyData) : PyData.eqv (.list ds) (.list []) = ds.isEmpty := by
  cases ds <;> simp [PyData.eqv, PyData.eqvAll]
theorem pyds_len : ∀ {xs : List A} {ds : List PyData}, pyds xs = some ds → ds.length = xs.length
  | [], _, h => by cases h; rfl
  | x :: xs, _, h => by
    unfold pyds at h
    split at h
    · rename_i d ds e1 e2
      cases h
      rw [List.length_cons, List.length_cons, pyds_len e2]
    · cases h
theorem shaped_nil : SeqAt.shaped (.list []) = true := by decide
theorem rEq_nil {neg : Bool} {S : Sto} {acc : List A} {P : A → Sto → Prop} (h : acc ≠ [] → ∃ ds, pyds acc = some ds ∧ SeqAt.shaped (.list ds) = true) (p : P (.bl (if neg then !acc.isEmpty else acc.isEmpty)) S) : rEqA neg (.lst acc) (.lst []) S P := by
  by_cases e : acc = []
  · subst e
    exact ⟨_, _, rfl, rfl, shaped_nil, shaped_nil, by rw [eqv_nil]; exact p⟩
  · obtain ⟨ds, h1, h2⟩ := h e
    refine ⟨.list ds, _, by show (pyds acc).map _ = _; rw [h1]; rfl, rfl, h2, shaped_nil, ?_⟩
    rw [eqv_nil]
    have : ds.isEmpty = acc.isEmpty := by
      have := pyds_len h1
      cases ds <;> cases acc <;> simp_all
    rw [this]
    exact p
theorem pyds_ints : ∀ ks : List Int, pyds (ks.map .int) = some (ks.map .int)
  | [] => rfl
  | k :: ks => by
    rw [List.map_cons]
    unfold pyds
    rw [pyds_ints ks]
    rfl
theorem lay_ints : ∀ ks : List Int, PyData.canLayAll0 (ks.map .int) = true ∧ PyData.depthAll (ks.map .int) = 0
  | [] => ⟨rfl, rfl⟩
  | k :: ks => by
    obtain ⟨h1, h2⟩ := lay_ints ks
    refine ⟨?_, ?_⟩
    · rw [List.map_cons]
      unfold PyData.canLayAll0
      rw [h1]
      rfl
    · rw [List.map_cons]
      unfold PyData.depthAll
      rw [h2]
      rfl
theorem shaped_ints (ks : List Int) : SeqAt.shaped (.list (ks.map .int)) = true := by
  obtain ⟨h1, h2⟩ := lay_ints ks
  unfold SeqAt.shaped PyData.canLay0 PyData.depth
  rw [h1, h2]
  rfl
theorem lstr_ref {S : Sto} {p : Addr} {xs : List A} (h : S p = some (.lst xs)) : lstr S (.ref p) = some xs := by
  unfold lstr
  dsimp only
  rw [h]
theorem lstr_frz {S : Sto} {p : Addr} {xs : List A} (h : S p = some (.frz xs)) : lstr S (.ref p) = some xs := by
  unfold lstr
  dsimp only
  rw [h]
/-! ### no refs inside -/
mutual
def nr : A → Bool
  | .ref _ => false
  | .ty _ => false
  | .lst xs => nrs xs
  | .tup xs => nrs xs
  | _ => true
def nrs : List A → Bool
  | [] => true
  | x :: xs => nr x && nrs xs
end
theorem kn_nr {S : Sto} {x : A} (h : nr x = true) : kn S x := by
  cases x <;> first | rfl | cases h
theorem nrs_mem {x : A} : ∀ {xs : List A}, nrs xs = true → x ∈ xs → nr x = true
  | y :: ys, h, m => by
    unfold nrs at h
    rw [Bool.and_eq_true] at h
    rcases List.mem_cons.mp m with e | e
    · rw [e]; exact h.1
    · exact nrs_mem h.2 e
theorem got_none {P : Program} {w : World} {K : PySem.W.Frag} {mg : Str → Option Value} {base : Heap} {x : Str} {st : Stmt} {f : Addr} {ps : List Str} {k : Nat} {sp : SpA} (D : Def K mg x st f) (h : ∀ as S P, ¬ sp as S P)
    (hb : ∀ (kV doc pm : Value) (an : Option Addr) (cdv ct : Value) (us : List Value), us.length = ps.length → bindArgs (PySem.W.fnOf x x (defArgs st) (defBody st) (defScope st) .none kV doc pm an cdv ct) ⟨us, []⟩ = pure (ps.zip us)) : Got P w K mg base k ps x st f sp := by
  obtain ⟨fd, F⟩ := D.ex
  exact ⟨⟨fd, ⟨fun vs H Q E ⟨M, S, as, P', s, a, q, w⟩ => absurd q (h as S P'), fun A outer s H args us vs Q E hr e0 hb r ⟨M, S, as, P', _, a, q, w⟩ => absurd q (h as S P')⟩, F, F.binds hb⟩, D.mg⟩
/-- at most so deep -/
def dle : Nat → A → Bool
  | 0, _ => false
  | n + 1, .lst xs => xs.all (dle n) && decide (xs.length ≤ 1000000)
  | n + 1, .tup xs => xs.all (dle n) && decide (xs.length ≤ 1000000)
  | _ + 1, _ => true
theorem cutA_ints (ns : List Int) (lo hi : Option Int) : ∃ ms : List Int, cutA (ns.map .int) lo hi = ms.map .int := by
  unfold cutA
  rw [← List.map_drop, ← List.map_take]
  exact ⟨_, rfl⟩
theorem atI_nat' {α : Type} {xs : List α} {i : Nat} {z : α} (h : xs[i]? = some z) : atI xs (i : Int) = some z := atI_nat h
theorem atI_pos {α : Type} {xs : List α} {i : Int} {z : α} (h0 : 0 ≤ i) (h : xs[i.toNat]? = some z) : atI xs i = some z := by
  have e := atI_nat' (xs := xs) (i := i.toNat) h
  rwa [show ((i.toNat : Nat) : Int) = i by omega] at e
/-- a statement, then the rest, with a word between them -/
def sCut (t u : TSA) : TSA := fun D nv S => ∃ Mid : Nv → Sto → Prop, t { D with nx := Mid } nv S ∧ ∀ nv' S', Mid nv' S' → u D nv' S'
theorem sb_cut {X : Cx} {st : Stmt} {rest : List Stmt} {t u : TSA} (h1 : SA X st t) (h2 : SB X rest u) : SB X (st :: rest) (sCut t u) := by
  obtain ⟨t1, p1, k1⟩ := h1
  obtain ⟨t2, p2, k2⟩ := h2
  refine ⟨_, pss_cons p1 p2, fun M σ H nv S D D' r ⟨Mid, h, hu⟩ l => ?_⟩
  exact k1 M σ H nv S _ _ r h ⟨fun nv' S' σ' H' q e r' => k2 M σ' H' nv' S' D D' r' (hu nv' S' q) (l.up e), l.rt, l.bk, l.ct⟩
theorem int_dvd {a b d : Int} (g : Int.gcd a b = 1) (h : b ∣ a * d) : b ∣ d := by
  have h1 : b.natAbs ∣ a.natAbs * d.natAbs := by
    rw [← Int.natAbs_mul]
    exact Int.natAbs_dvd_natAbs.mpr h
  have g2 : Nat.Coprime b.natAbs a.natAbs := by
    unfold Nat.Coprime
    rw [Nat.gcd_comm]
    exact g
  exact Int.natAbs_dvd_natAbs.mp (g2.dvd_of_dvd_mul_left h1)
/-! ### the end -/
def noLst (K : PySem.W.Frag) : Bool := K.all fun p => match p.2.cls with
  | .type n => n != "list"
  | _ => true
theorem noLst_no {K : PySem.W.Frag} {a : Addr} {o : Obj} (h : noLst K = true) (e : K.lookup a = some o) : o.cls ≠ .type "list" := by
  intro z
  have m : ∀ {l : PySem.W.Frag}, l.lookup a = some o → (a, o) ∈ l := fun {l} => by
    induction l with
    | nil => intro e; cases e
    | cons p r ih =>
      intro e
      obtain ⟨b, u⟩ := p
      rw [List.lookup_cons] at e
      cases hb : a == b with
      | true =>
        rw [hb] at e
        cases e
        rw [beq_iff_eq] at hb
        rw [hb]
        exact List.mem_cons_self
      | false =>
        rw [hb] at e
        exact List.mem_cons_of_mem _ (ih e)
  have q := List.all_eq_true.mp h _ (m e)
  simp only [z] at q
  exact absurd q (by decide)
theorem avs_of_ints {M : Msk} {S : Sto} {H : Hp} : ∀ ns : List Int, AVs M S H (ns.map .int) (ns.map .int)
  | [] => rfl
  | n :: ns => ⟨_, _, rfl, rfl, avs_of_ints ns⟩
/-- the law's promise from the script on -/
theorem end_sp {K : PySem.W.Frag} {sp : SpA} (hN : noLst K = true) (h : ∀ (a : Addr) (S : Sto) (ns : List Int), ns.length ≤ 63 → S a = some (.frz (ns.map .int)) → sp [.ref a] S fun r _ => r = .bl true)
    (H : Hp) (a : Addr) (ns : List Int) (hl : ns.length ≤ 63) (hO : Only H) (hS : SqL K H a (ns.map V.int)) : liftSp sp [.ref a] H (fun v _ => v = .bl true) fun _ _ _ => False := by
  have fz : ∃ o, H a = some (.frz o (.lst (ns.map V.int))) := by
    rcases hS with (q | ⟨o, q⟩) | ⟨o, its, n, e1, e2, _⟩
    · rcases hO a with z | ⟨o, xs, z⟩
      · rw [q] at z; cases z
      · rw [q] at z; cases z
    · exact ⟨o, q⟩
    · exact absurd e2 (noLst_no hN e1)
  obtain ⟨o, q⟩ := fz
  refine ⟨fun _ => False, fun b => if b = a then some (.frz (ns.map .int)) else none, [.ref a], fun r _ => r = .bl true, ⟨fun b c hb => ⟨id, ?_⟩, fun _ z => z.elim⟩, ⟨_, _, rfl, rfl, rfl⟩, h a _ ns hl (if_pos rfl), fun r S' v H' p e s av => ?_⟩
  · by_cases hba : b = a
    · rw [if_pos hba] at hb
      cases hb
      subst hba
      exact ⟨o, _, q, avs_of_ints ns⟩
    · rw [if_neg hba] at hb
      cases hb
  · rw [p] at av
    exact av
theorem Fun.same {K : PySem.W.Frag} {x qual y qual' : Str} {st st' : Stmt} {f : Addr} {fd fd' : FuncData} (a : Fun K x qual st f fd) (b : Fun K y qual' st' f fd') : fd = fd' := by
  obtain ⟨_, _, _, _, _, _, _, _, _, _, l1, _⟩ := a.ex
  obtain ⟨_, _, _, _, _, _, _, _, _, _, l2, _⟩ := b.ex
  rw [l1] at l2
  injection l2 with l3
  injection l3 with _ _ l4 _
  injection l4
theorem def_mk {K : PySem.W.Frag} {mg : Str → Option Value} {h : Heap} {x : Str} {st : Stmt} {f : Addr} {fd : FuncData} (X : K.In h) (G : h.Ns mainGlobals mg) (a : PySem.W.nsIn K mainGlobals x = some (some (.ref f))) (F : Fun K x x st f fd) : Def K mg x st f := ⟨⟨_, F⟩, PySem.W.mg_of X G a⟩
theorem walk_end {l : PySem.W.OpenLaw} {q : Program} {loose : List Str} {XP : (Str → Option Value) → Heap → Prop} {YP : World → Heap → Prop} {d : DefRec} {K : Params → PySem.W.Frag} {k : Nat} {sp : SpA} (hn : l.most = some 63) (hdf : d.params.defaults = []) (hr : Room k callerA)
    (hY : ∀ (w : World) (h : Heap), YP w h → (K w.params).In h) (hN : ∀ w : World, noLst (K w.params) = true)
    (hsp : ∀ (a : Addr) (S : Sto) (ns : List Int), ns.length ≤ 63 → S a = some (.frz (ns.map .int)) → sp [.ref a] S fun r _ => r = .bl true)
    (F : ∀ (w : World) (mg : Str → Option Value) (fa : Addr) (h : Heap), (K w.params).In h → h.Ns mainGlobals mg → mg d.name = some (.ref fa) →
      ∃ fd : FuncData, (∀ (s : Shared) (u : Value), BindsTo s fd ⟨[u], []⟩ [("script", u)]) ∧ ∀ base : Heap, (K w.params).In base → base.Ns mainGlobals mg → FnOk l.prog w (K w.params) mg base CX0 k fa fd ["script"] (liftSp sp)) :
    PySem.W.WalkO q loose XP YP l.row.toRowW d [] (fun f vs => PySem.call f vs) :=
  L2.walk_of (n := 63) (k := k) (x := "script") (CX := fun _ => CX0) (sp := fun _ => liftSp sp) hn (by decide) hdf hr hY F (fun w H a ns hl hO hS => end_sp (hN w) hsp H a ns hl hO hS) fun _ _ _ _ _ z => z
theorem Fun.ne {K : PySem.W.Frag} {x qual y qual' : Str} {st st' : Stmt} {f g : Addr} {fd fd' : FuncData} (a : Fun K x qual st f fd) (b : Fun K y qual' st' g fd') (h : x ≠ y) : f ≠ g := by
  intro e
  subst e
  have e2 := Fun.same a b
  obtain ⟨_, _, _, _, _, _, _, _, _, e3, _⟩ := a.ex
  obtain ⟨_, _, _, _, _, _, _, _, _, e4, _⟩ := b.ex
  rw [e3, e4] at e2
  exact h (congrArg FuncData.name e2)
end Lay

namespace Law
open PySem L2 Lay
def topS (i : Nat) : Stmt := PySem.Challenge.pw_sharedrent_k01_fractions_of_rents.main.body.getD i (.Pass ⟨0, 0, 0, 0⟩)
/-! ## the mathematics -/
/-- the bottom's sign goes over to the number -/
def lowC (n d : Int) : Int := if d < 0 then -(Int.gcd n d : Int) else (Int.gcd n d : Int)
def lowA (n d : Int) : A := .tup [.int (n.fdiv (lowC n d)), .int (d.fdiv (lowC n d))]
def isFrA : A → Bool
  | .tup [.int n, .int d] => decide (1 ≤ d) && decide ((Int.gcd n d : Int) = 1)
  | _ => false
theorem gcd_ne {n d : Int} (h : d ≠ 0) : (Int.gcd n d : Int) ≠ 0 := by
  have := Int.gcd_pos_of_ne_zero_right n h
  omega
theorem gcd_bd {n d : Int} {k : Nat} (h : d ≠ 0) (b : Bd k d) : Bd k (Int.gcd n d : Int) := by
  refine b.of_le ?_
  have h1 : Int.gcd n d ∣ d.natAbs := Int.gcd_dvd_natAbs_right n d
  rw [Int.natAbs_natCast]
  exact Nat.le_of_dvd (by omega) h1
theorem lowC_ne {n d : Int} (h : d ≠ 0) : lowC n d ≠ 0 := by
  have := gcd_ne (n := n) h
  unfold lowC
  split <;> omega
theorem lowC_bd {n d : Int} {k : Nat} (h : d ≠ 0) (b : Bd k d) : Bd k (lowC n d) := by
  have := gcd_bd (n := n) h b
  unfold lowC
  split
  · exact this.neg
  · exact this
theorem gcd_fmod (x y : Int) : Int.gcd y (x.fmod y) = Int.gcd x y := by
  rw [show x.fmod y = x - y * x.fdiv y by have := Int.mul_fdiv_add_fmod x y; omega]
  rw [Int.gcd_comm x y]
  rw [Int.mul_comm]
  exact Int.gcd_sub_mul_right_right y x (x.fdiv y)
theorem fmod_lt (x : Int) {y : Int} (h : y ≠ 0) : (x.fmod y).natAbs < y.natAbs := by
  rw [Int.fmod_eq_emod]
  have h1 := Int.emod_nonneg x h
  have h2 := Int.emod_lt x h
  split
  · omega
  · rename_i g
    have h3 : x % y ≠ 0 := fun z => g (.inr (Int.dvd_of_emod_eq_zero z))
    have h4 : y < 0 := by
      rcases Int.lt_or_le y 0 with z | z
      · exact z
      · exact absurd (.inl z) g
    omega
theorem fdiv_bd {x y : Int} {k : Nat} (h : Bd k x) : Bd (k + 1) (x.fdiv y) := by
  unfold Bd at *
  rw [Nat.pow_succ]
  have h1 : (x.fdiv y).natAbs ≤ x.natAbs + 1 := by
    rw [Int.fdiv_eq_ediv]
    have h2 := Int.natAbs_ediv_le_natAbs x y
    split <;> omega
  omega
/-! ### is_whole -/
abbrev s_is_whole : Stmt := topS 1
theorem sc_is_whole : FnScope ["value"] ["value"] (defScope s_is_whole) := ⟨rfl, rfl, rfl, by decide +kernel, rfl, by decide +kernel, by decide +kernel⟩
theorem bd_is_whole (kV doc pm : Value) (an : Option Addr) (cdv ct : Value) (us : List Value) (hl : us.length = (["value"] : List Str).length) : bindArgs (PySem.W.fnOf "is_whole" "is_whole" (defArgs s_is_whole) (defBody s_is_whole) (defScope s_is_whole) .none kV doc pm an cdv ct) ⟨us, []⟩ = pure ((["value"] : List Str).zip us) :=
  match us, hl with | [_], _ => rfl
def isWholeA : A → Bool
  | .int _ => true
  | _ => false
def sp_is_whole : SpA := fun as S P => ∃ x, as = [x] ∧ kn S x ∧ P (.bl (isWholeA x)) S
theorem got_is_whole {P : Program} {w : World} {K : PySem.W.Frag} {mg : Str → Option Value} {base : Heap} {f_is_whole : Addr} (B : Bi mg) (D : Def K mg "is_whole" s_is_whole f_is_whole) :
    Got P w K mg base (0 + 1) ["value"] "is_whole" s_is_whole f_is_whole sp_is_whole := by
  refine got_of D sc_is_whole (by rintro as S P ⟨x, rfl, _⟩; rfl) (bd_is_whole) (fun cdv A0 outer s0_ H E hr => ⟨_, (sb_one (sa_ret (ea_and (ea_callB cx_isi B.isinstance_ (la_cons (ea_var 0) (la_cons (ea_ty "int" B.int_) la_nil))) (ea_one (ea_not (ea_callB cx_isi B.isinstance_ (la_cons (ea_var 0) (la_cons (ea_ty "bool" B.bool_) la_nil)))))))), fun as S P h => ?_⟩)
  obtain ⟨x, rfl, hk, k⟩ := h
  (try simp only [startN, List.map_cons, List.map_nil, List.length_cons, List.length_nil, Nat.reduceAdd, Nat.reduceSub, Nat.zero_add, Nat.sub_self, List.replicate_succ, List.replicate_zero, List.reduceReplicate, List.cons_append, List.nil_append, List.append_nil, ↓sRet, ↓sRetN, ↓sSeq, ↓sNil, ↓sIf, ↓sSet, ↓sPar, ↓sDrop, ↓sSetL, ↓eAnd, ↓eOr, ↓eNot, ↓eIf, ↓eNeg, ↓eCall, ↓eCallK, ↓eCallV, ↓lCons, ↓lNil, ↓eVar, ↓eC, ↓eTup, ↓eLst, ↓eLstC, ↓eOp, ↓eSl, ↓oNo, ↓oPart, ↓eBits, ↓tBool, ↓tAndA, ↓tOrA, ↓tNotA, ↓List.getElem?_cons_zero, ↓List.getElem?_cons_succ, ↓List.set_cons_zero, ↓List.set_cons_succ, ↓rInt, ↓rInt0, ↓rAddA, ↓rEqA, ↓rIsA, ↓rMax2A, ↓rMin2A, ↓rIntA, ↓rAbsA, bsel_true, bsel_false, wipeN, gNm, tYesA, ↓isNon, ↓isBlOf, ↓isI, ↓isB, ↓isS, ↓isT, ↓isL, Bool.or_false, Bool.or_true, Bool.false_or, Bool.true_or, ↓wList, ↓eLc, ↓rLenA, ↓sFor, ↓sWhile, ↓wRng1, ↓wRng2, ↓wTup, Bool.not_true, Bool.not_false, Bool.false_eq_true, ↓reduceIte, Bool.not_not])
  refine isi_int hk ?_
  cases x <;> simp only [isI, bsel_true, bsel_false] <;> first | exact k | (refine isi_bool hk ?_; exact k)
/-! ### common_of -/
abbrev s_common_of : Stmt := topS 2
theorem sc_common_of : FnScope ["one", "other"] ["one", "other"] (defScope s_common_of) := ⟨rfl, rfl, rfl, by decide +kernel, rfl, by decide +kernel, by decide +kernel⟩
theorem bd_common_of (kV doc pm : Value) (an : Option Addr) (cdv ct : Value) (us : List Value) (hl : us.length = (["one", "other"] : List Str).length) : bindArgs (PySem.W.fnOf "common_of" "common_of" (defArgs s_common_of) (defBody s_common_of) (defScope s_common_of) .none kV doc pm an cdv ct) ⟨us, []⟩ = pure ((["one", "other"] : List Str).zip us) :=
  match us, hl with | [_, _], _ => rfl
def sp_common_of : SpA := fun as S P => ∃ a b : Int, as = [.int a, .int b] ∧ P (.int (Int.gcd a b : Nat)) S
--len by rintro as S P ⟨a, b, rfl, _⟩; rfl
theorem got_common_of {P : Program} {w : World} {K : PySem.W.Frag} {mg : Str → Option Value} {base : Heap} {f_common_of : Addr} (B : Bi mg) (D : Def K mg "common_of" s_common_of f_common_of) :
    Got P w K mg base (0 + 1) ["one", "other"] "common_of" s_common_of f_common_of sp_common_of := by
  refine got_of D sc_common_of (by rintro as S P ⟨a, b, rfl, _⟩; rfl) (bd_common_of) (fun cdv A0 outer s0_ H E hr => ⟨_, (sb_cons (sa_par 0 1 sc_common_of.nd (la_cons (ea_callB cx_abs B.abs_ (la_cons (ea_var 0) la_nil)) (la_cons (ea_callB cx_abs B.abs_ (la_cons (ea_var 1) la_nil)) la_nil)))
      (sb_cons (sa_while PassesOwn.never (tt_cmp (oa_ne hr.units) (ea_var 1) ea_int) (sb_one (sa_par 0 1 sc_common_of.nd (la_cons (ea_var 1) (la_cons (ea_op oa_mod (ea_var 0) (ea_var 1)) la_nil)))))
      (sb_one (sa_ret (ea_var 0))))), fun as S P h => ?_⟩)
  obtain ⟨a, b, rfl, k⟩ := h
  (try simp only [startN, List.map_cons, List.map_nil, List.length_cons, List.length_nil, Nat.reduceAdd, Nat.reduceSub, Nat.zero_add, Nat.sub_self, List.replicate_succ, List.replicate_zero, List.reduceReplicate, List.cons_append, List.nil_append, List.append_nil, ↓sRet, ↓sRetN, ↓sSeq, ↓sNil, ↓sIf, ↓sSet, ↓sPar, ↓sDrop, ↓sSetL, ↓eAnd, ↓eOr, ↓eNot, ↓eIf, ↓eNeg, ↓eCall, ↓eCallK, ↓eCallV, ↓lCons, ↓lNil, ↓eVar, ↓eC, ↓eTup, ↓eLst, ↓eLstC, ↓eOp, ↓eSl, ↓oNo, ↓oPart, ↓eBits, ↓tBool, ↓tAndA, ↓tOrA, ↓tNotA, ↓List.getElem?_cons_zero, ↓List.getElem?_cons_succ, ↓List.set_cons_zero, ↓List.set_cons_succ, ↓rInt, ↓rInt0, ↓rAddA, ↓rEqA, ↓rIsA, ↓rMax2A, ↓rMin2A, ↓rIntA, ↓rAbsA, bsel_true, bsel_false, wipeN, gNm, tYesA, ↓isNon, ↓isBlOf, ↓isI, ↓isB, ↓isS, ↓isT, ↓isL, Bool.or_false, Bool.or_true, Bool.false_or, Bool.true_or, ↓wList, ↓eLc, ↓rLenA, ↓sFor, ↓sWhile, ↓wRng1, ↓wRng2, ↓wTup, Bool.not_true, Bool.not_false, Bool.false_eq_true, ↓reduceIte, Bool.not_not])
  refine ⟨fun m nv S' => S' = S ∧ ∃ x y : Nat, nv = [some (.int x), some (.int y)] ∧ Nat.gcd x y = Int.gcd a b ∧ m = y, ⟨_, rfl, _, _, rfl, rfl, rfl⟩, ?_⟩
  rintro m nv S' ⟨rfl, x, y, rfl, e, hm⟩
  (try simp only [startN, List.map_cons, List.map_nil, List.length_cons, List.length_nil, Nat.reduceAdd, Nat.reduceSub, Nat.zero_add, Nat.sub_self, List.replicate_succ, List.replicate_zero, List.reduceReplicate, List.cons_append, List.nil_append, List.append_nil, ↓sRet, ↓sRetN, ↓sSeq, ↓sNil, ↓sIf, ↓sSet, ↓sPar, ↓sDrop, ↓sSetL, ↓eAnd, ↓eOr, ↓eNot, ↓eIf, ↓eNeg, ↓eCall, ↓eCallK, ↓eCallV, ↓lCons, ↓lNil, ↓eVar, ↓eC, ↓eTup, ↓eLst, ↓eLstC, ↓eOp, ↓eSl, ↓oNo, ↓oPart, ↓eBits, ↓tBool, ↓tAndA, ↓tOrA, ↓tNotA, ↓List.getElem?_cons_zero, ↓List.getElem?_cons_succ, ↓List.set_cons_zero, ↓List.set_cons_succ, ↓rInt, ↓rInt0, ↓rAddA, ↓rEqA, ↓rIsA, ↓rMax2A, ↓rMin2A, ↓rIntA, ↓rAbsA, bsel_true, bsel_false, wipeN, gNm, tYesA, ↓isNon, ↓isBlOf, ↓isI, ↓isB, ↓isS, ↓isT, ↓isL, Bool.or_false, Bool.or_true, Bool.false_or, Bool.true_or, ↓wList, ↓eLc, ↓rLenA, ↓sFor, ↓sWhile, ↓wRng1, ↓wRng2, ↓wTup, Bool.not_true, Bool.not_false, Bool.false_eq_true, ↓reduceIte, Bool.not_not])
  refine bsel_i (fun h => ?_) fun h => ?_
  · have hy : y ≠ 0 := by
      intro z
      rw [z] at h
      exact absurd h (by decide)
    refine ⟨by omega, x % y, by rw [hm]; exact Nat.mod_lt _ (by omega), trivial, y, x % y, by rw [Int.natCast_emod], ?_, rfl⟩
    rw [← e, Nat.gcd_comm y (x % y), ← Nat.gcd_rec y x, Nat.gcd_comm]
  · have hy : y = 0 := by
      have z := of_decide_eq_true (by simpa using h : decide ((y : Int) = 0) = true)
      omega
    rw [hy, Nat.gcd_zero_right] at e
    rw [e]
    exact k
/-! ### is_fraction -/
abbrev s_is_fraction : Stmt := topS 3
theorem sc_is_fraction : FnScope ["value"] ["value"] (defScope s_is_fraction) := ⟨rfl, rfl, rfl, by decide +kernel, rfl, by decide +kernel, by decide +kernel⟩
theorem bd_is_fraction (kV doc pm : Value) (an : Option Addr) (cdv ct : Value) (us : List Value) (hl : us.length = (["value"] : List Str).length) : bindArgs (PySem.W.fnOf "is_fraction" "is_fraction" (defArgs s_is_fraction) (defBody s_is_fraction) (defScope s_is_fraction) .none kV doc pm an cdv ct) ⟨us, []⟩ = pure ((["value"] : List Str).zip us) :=
  match us, hl with | [_], _ => rfl
def sp_is_fraction : SpA := fun as S P => ∃ x, as = [x] ∧ nr x = true ∧ P (.bl (isFrA x)) S
theorem got_is_fraction {P : Program} {w : World} {K : PySem.W.Frag} {mg : Str → Option Value} {base : Heap} {f_common_of f_is_fraction f_is_whole : Addr} (B : Bi mg) (D : Def K mg "is_fraction" s_is_fraction f_is_fraction) (G_common_of : Got P w K mg base 1 ["one", "other"] "common_of" s_common_of f_common_of sp_common_of) (G_is_whole : Got P w K mg base 1 ["value"] "is_whole" s_is_whole f_is_whole sp_is_whole) :
    Got P w K mg base (1 + 1) ["value"] "is_fraction" s_is_fraction f_is_fraction sp_is_fraction := by
  refine got_of D sc_is_fraction (by rintro as S P ⟨x, rfl, _⟩; rfl) (bd_is_fraction) (fun cdv A0 outer s0_ H E hr => ⟨_, (sb_cons (sa_if (tt_w (tw_or (tt_not (tt_val (ea_callB cx_isi B.isinstance_ (la_cons (ea_var 0) (la_cons (ea_ty "tuple" B.tuple_) la_nil))))) (tw_or (tt_cmp (oa_ne hr.units) (ea_callB cx_len B.len_ (la_cons (ea_var 0) la_nil)) ea_int) (tw_or (tt_not (tt_val (ea_call G_is_whole (hr.mono (by omega)) (la_cons (ea_ix (ea_var 0) ea_int) la_nil)))) (tw_or1 (tt_not (tt_val (ea_call G_is_whole (hr.mono (by omega)) (la_cons (ea_ix (ea_var 0) ea_int) la_nil))))))))) (sb_one (sa_ret ea_bl)) sb_nil)
      (sb_one (sa_ret (ea_and (ea_cmp oa_ge (ea_ix (ea_var 0) ea_int) ea_int) (ea_one (ea_cmp (oa_eq hr.units) (ea_call G_common_of (hr.mono (by omega)) (la_cons (ea_ix (ea_var 0) ea_int) (la_cons (ea_ix (ea_var 0) ea_int) la_nil))) ea_int)))))), fun as S P h => ?_⟩)
  obtain ⟨x, rfl, hn, k⟩ := h
  (try simp only [startN, List.map_cons, List.map_nil, List.length_cons, List.length_nil, Nat.reduceAdd, Nat.reduceSub, Nat.zero_add, Nat.sub_self, List.replicate_succ, List.replicate_zero, List.reduceReplicate, List.cons_append, List.nil_append, List.append_nil, ↓sRet, ↓sRetN, ↓sSeq, ↓sNil, ↓sIf, ↓sSet, ↓sPar, ↓sDrop, ↓sSetL, ↓eAnd, ↓eOr, ↓eNot, ↓eIf, ↓eNeg, ↓eCall, ↓eCallK, ↓eCallV, ↓lCons, ↓lNil, ↓eVar, ↓eC, ↓eTup, ↓eLst, ↓eLstC, ↓eOp, ↓eSl, ↓oNo, ↓oPart, ↓eBits, ↓tBool, ↓tAndA, ↓tOrA, ↓tNotA, ↓List.getElem?_cons_zero, ↓List.getElem?_cons_succ, ↓List.set_cons_zero, ↓List.set_cons_succ, ↓rInt, ↓rInt0, ↓rAddA, ↓rEqA, ↓rIsA, ↓rMax2A, ↓rMin2A, ↓rIntA, ↓rAbsA, bsel_true, bsel_false, wipeN, gNm, tYesA, ↓isNon, ↓isBlOf, ↓isI, ↓isB, ↓isS, ↓isT, ↓isL, Bool.or_false, Bool.or_true, Bool.false_or, Bool.true_or, ↓wList, ↓eLc, ↓rLenA, ↓sFor, ↓sWhile, ↓wRng1, ↓wRng2, ↓wTup, Bool.not_true, Bool.not_false, Bool.false_eq_true, ↓reduceIte, Bool.not_not])
  refine isi_tuple (kn_nr hn) ?_
  cases x with
  | tup xs =>
    simp only [isT, Bool.not_true, bsel_false]
    refine bsel_i (fun h => ?_) fun h => ?_
    · have hl : ¬ xs.length = 2 := by
        intro z
        have z2 : ((xs.length : Nat) : Int) = 2 := by omega
        simp [z2] at h
      have e : isFrA (.tup xs) = false := by
        unfold isFrA
        split
        · rename_i q
          cases q
          exact absurd rfl hl
        · rfl
      rw [e] at k
      exact k
    · have hl : xs.length = 2 := by
        have z := of_decide_eq_true (by simpa using h : decide (((xs.length : Nat) : Int) = 2) = true)
        omega
      match xs, hl with
      | [u, v], _ =>
        have hu : nr u = true := nrs_mem (xs := [u, v]) hn (by simp)
        have hv : nr v = true := nrs_mem (xs := [u, v]) hn (by simp)
        refine ⟨u, rfl, u, rfl, kn_nr hu, ?_⟩
        cases u with
        | int n =>
          simp only [isWholeA, Bool.not_true, bsel_false]
          refine ⟨v, rfl, v, rfl, kn_nr hv, ?_⟩
          cases v with
          | int d =>
            simp only [isWholeA, Bool.not_true, bsel_false]
            refine ⟨.int d, rfl, ?_⟩
            (try simp only [startN, List.map_cons, List.map_nil, List.length_cons, List.length_nil, Nat.reduceAdd, Nat.reduceSub, Nat.zero_add, Nat.sub_self, List.replicate_succ, List.replicate_zero, List.reduceReplicate, List.cons_append, List.nil_append, List.append_nil, ↓sRet, ↓sRetN, ↓sSeq, ↓sNil, ↓sIf, ↓sSet, ↓sPar, ↓sDrop, ↓sSetL, ↓eAnd, ↓eOr, ↓eNot, ↓eIf, ↓eNeg, ↓eCall, ↓eCallK, ↓eCallV, ↓lCons, ↓lNil, ↓eVar, ↓eC, ↓eTup, ↓eLst, ↓eLstC, ↓eOp, ↓eSl, ↓oNo, ↓oPart, ↓eBits, ↓tBool, ↓tAndA, ↓tOrA, ↓tNotA, ↓List.getElem?_cons_zero, ↓List.getElem?_cons_succ, ↓List.set_cons_zero, ↓List.set_cons_succ, ↓rInt, ↓rInt0, ↓rAddA, ↓rEqA, ↓rIsA, ↓rMax2A, ↓rMin2A, ↓rIntA, ↓rAbsA, bsel_true, bsel_false, wipeN, gNm, tYesA, ↓isNon, ↓isBlOf, ↓isI, ↓isB, ↓isS, ↓isT, ↓isL, Bool.or_false, Bool.or_true, Bool.false_or, Bool.true_or, ↓wList, ↓eLc, ↓rLenA, ↓sFor, ↓sWhile, ↓wRng1, ↓wRng2, ↓wTup, Bool.not_true, Bool.not_false, Bool.false_eq_true, ↓reduceIte, Bool.not_not])
            have e : isFrA (.tup [.int n, .int d]) = (decide (1 ≤ d) && decide ((Int.gcd n d : Int) = 1)) := rfl
            rw [e] at k
            refine bsel_i (fun h => ?_) fun h => ?_
            · refine ⟨.int n, rfl, .int d, rfl, n, d, rfl, ?_⟩
              rw [h, Bool.true_and] at k
              exact k
            · rw [h, Bool.false_and] at k
              exact k
          | _ => simp only [isWholeA, Bool.not_false, bsel_true]; exact k
        | _ => simp only [isWholeA, Bool.not_false, bsel_true]; exact k
  | _ => simp only [isT, Bool.not_false, bsel_true]; exact k
/-! ### lowest -/
abbrev s_lowest : Stmt := topS 4
theorem sc_lowest : FnScope ["number", "bottom", "common"] ["number", "bottom"] (defScope s_lowest) := ⟨rfl, rfl, rfl, by decide +kernel, rfl, by decide +kernel, by decide +kernel⟩
theorem bd_lowest (kV doc pm : Value) (an : Option Addr) (cdv ct : Value) (us : List Value) (hl : us.length = (["number", "bottom"] : List Str).length) : bindArgs (PySem.W.fnOf "lowest" "lowest" (defArgs s_lowest) (defBody s_lowest) (defScope s_lowest) .none kV doc pm an cdv ct) ⟨us, []⟩ = pure ((["number", "bottom"] : List Str).zip us) :=
  match us, hl with | [_, _], _ => rfl
def sp_lowest : SpA := fun as S P => ∃ n d : Int, as = [.int n, .int d] ∧ d ≠ 0 ∧ Bd 4000 d ∧ P (lowA n d) S
--len by rintro as S P ⟨a, b, rfl, _⟩; rfl
theorem got_lowest {P : Program} {w : World} {K : PySem.W.Frag} {mg : Str → Option Value} {base : Heap} {f_common_of f_lowest : Addr} (B : Bi mg) (D : Def K mg "lowest" s_lowest f_lowest) (G_common_of : Got P w K mg base 1 ["one", "other"] "common_of" s_common_of f_common_of sp_common_of) :
    Got P w K mg base (1 + 1) ["number", "bottom"] "lowest" s_lowest f_lowest sp_lowest := by
  refine got_of D sc_lowest (by rintro as S P ⟨a, b, rfl, _⟩; rfl) (bd_lowest) (fun cdv A0 outer s0_ H E hr => ⟨_, (sb_cons (sa_set 2 sc_lowest.nd (ea_call G_common_of (hr.mono (by omega)) (la_cons (ea_var 0) (la_cons (ea_var 1) la_nil))))
      (sb_cons (sa_if (tt_cmp oa_lt (ea_var 1) ea_int) (sb_one (sa_set 2 sc_lowest.nd (ea_neg (ea_var 2)))) sb_nil)
      (sb_one (sa_ret (ea_tup (la_cons (ea_op oa_fdivX (ea_var 0) (ea_var 2)) (la_cons (ea_op oa_fdivX (ea_var 1) (ea_var 2)) la_nil))))))), fun as S P h => ?_⟩)
  obtain ⟨n, d, rfl, hd, hb, k⟩ := h
  (try simp only [startN, List.map_cons, List.map_nil, List.length_cons, List.length_nil, Nat.reduceAdd, Nat.reduceSub, Nat.zero_add, Nat.sub_self, List.replicate_succ, List.replicate_zero, List.reduceReplicate, List.cons_append, List.nil_append, List.append_nil, ↓sRet, ↓sRetN, ↓sSeq, ↓sNil, ↓sIf, ↓sSet, ↓sPar, ↓sDrop, ↓sSetL, ↓eAnd, ↓eOr, ↓eNot, ↓eIf, ↓eNeg, ↓eCall, ↓eCallK, ↓eCallV, ↓lCons, ↓lNil, ↓eVar, ↓eC, ↓eTup, ↓eLst, ↓eLstC, ↓eOp, ↓eSl, ↓oNo, ↓oPart, ↓eBits, ↓tBool, ↓tAndA, ↓tOrA, ↓tNotA, ↓List.getElem?_cons_zero, ↓List.getElem?_cons_succ, ↓List.set_cons_zero, ↓List.set_cons_succ, ↓rInt, ↓rInt0, ↓rAddA, ↓rEqA, ↓rIsA, ↓rMax2A, ↓rMin2A, ↓rIntA, ↓rAbsA, bsel_true, bsel_false, wipeN, gNm, tYesA, ↓isNon, ↓isBlOf, ↓isI, ↓isB, ↓isS, ↓isT, ↓isL, Bool.or_false, Bool.or_true, Bool.false_or, Bool.true_or, ↓wList, ↓eLc, ↓rLenA, ↓sFor, ↓sWhile, ↓wRng1, ↓wRng2, ↓wTup, Bool.not_true, Bool.not_false, Bool.false_eq_true, ↓reduceIte, Bool.not_not])
  refine ⟨n, d, rfl, ?_⟩
  (try simp only [startN, List.map_cons, List.map_nil, List.length_cons, List.length_nil, Nat.reduceAdd, Nat.reduceSub, Nat.zero_add, Nat.sub_self, List.replicate_succ, List.replicate_zero, List.reduceReplicate, List.cons_append, List.nil_append, List.append_nil, ↓sRet, ↓sRetN, ↓sSeq, ↓sNil, ↓sIf, ↓sSet, ↓sPar, ↓sDrop, ↓sSetL, ↓eAnd, ↓eOr, ↓eNot, ↓eIf, ↓eNeg, ↓eCall, ↓eCallK, ↓eCallV, ↓lCons, ↓lNil, ↓eVar, ↓eC, ↓eTup, ↓eLst, ↓eLstC, ↓eOp, ↓eSl, ↓oNo, ↓oPart, ↓eBits, ↓tBool, ↓tAndA, ↓tOrA, ↓tNotA, ↓List.getElem?_cons_zero, ↓List.getElem?_cons_succ, ↓List.set_cons_zero, ↓List.set_cons_succ, ↓rInt, ↓rInt0, ↓rAddA, ↓rEqA, ↓rIsA, ↓rMax2A, ↓rMin2A, ↓rIntA, ↓rAbsA, bsel_true, bsel_false, wipeN, gNm, tYesA, ↓isNon, ↓isBlOf, ↓isI, ↓isB, ↓isS, ↓isT, ↓isL, Bool.or_false, Bool.or_true, Bool.false_or, Bool.true_or, ↓wList, ↓eLc, ↓rLenA, ↓sFor, ↓sWhile, ↓wRng1, ↓wRng2, ↓wTup, Bool.not_true, Bool.not_false, Bool.false_eq_true, ↓reduceIte, Bool.not_not])
  have hc : ∀ i, CDivX i (lowC n d) := fun i => (lowC_bd (n := n) hd hb).divX (lowC_ne hd)
  unfold lowA at k
  refine bsel_i (fun h => ?_) fun h => ?_
  · have e : lowC n d = -(Int.gcd n d : Int) := if_pos (of_decide_eq_true h)
    rw [e] at hc k
    exact ⟨hc n, hc d, k⟩
  · have e : lowC n d = (Int.gcd n d : Int) := if_neg (of_decide_eq_false h)
    rw [e] at hc k
    exact ⟨hc n, hc d, k⟩
/-- two fractions of told size -/
def sp_two (g : Int → Int → Int → Int → A) : SpA := fun as S P => ∃ a b c d : Int, as = [.tup [.int a, .int b], .tup [.int c, .int d]] ∧ Bd 1000 a ∧ Bd 1000 b ∧ Bd 1000 c ∧ Bd 1000 d ∧ b ≠ 0 ∧ d ≠ 0 ∧ P (g a b c d) S
theorem len_two {g : Int → Int → Int → Int → A} : ∀ as S P, sp_two g as S P → as.length = 2 := by
  rintro as S P ⟨a, b, c, d, rfl, _⟩
  rfl
def plusA (a b c d : Int) : A := lowA (a * d + c * b) (b * d)
def minusA (a b c d : Int) : A := lowA (a * d - c * b) (b * d)
def timesA (a b c d : Int) : A := lowA (a * c) (b * d)
def cmpA (a b c d : Int) : A := .int (if a * d = c * b then 0 else if a * d < c * b then -1 else 1)
/-! ### plus -/
abbrev s_plus : Stmt := topS 5
theorem sc_plus : FnScope ["one", "other"] ["one", "other"] (defScope s_plus) := ⟨rfl, rfl, rfl, by decide +kernel, rfl, by decide +kernel, by decide +kernel⟩
theorem bd_plus (kV doc pm : Value) (an : Option Addr) (cdv ct : Value) (us : List Value) (hl : us.length = (["one", "other"] : List Str).length) : bindArgs (PySem.W.fnOf "plus" "plus" (defArgs s_plus) (defBody s_plus) (defScope s_plus) .none kV doc pm an cdv ct) ⟨us, []⟩ = pure ((["one", "other"] : List Str).zip us) :=
  match us, hl with | [_, _], _ => rfl
--len len_two
theorem got_plus {P : Program} {w : World} {K : PySem.W.Frag} {mg : Str → Option Value} {base : Heap} {f_lowest f_plus : Addr} (B : Bi mg) (D : Def K mg "plus" s_plus f_plus) (G_lowest : Got P w K mg base 2 ["number", "bottom"] "lowest" s_lowest f_lowest sp_lowest) :
    Got P w K mg base (2 + 1) ["one", "other"] "plus" s_plus f_plus (sp_two plusA) := by
  refine got_of D sc_plus (len_two) (bd_plus) (fun cdv A0 outer s0_ H E hr => ⟨_, (sb_one (sa_ret (ea_call G_lowest (hr.mono (by omega)) (la_cons (ea_op oa_add (ea_op oa_mul (ea_ix (ea_var 0) ea_int) (ea_ix (ea_var 1) ea_int)) (ea_op oa_mul (ea_ix (ea_var 1) ea_int) (ea_ix (ea_var 0) ea_int))) (la_cons (ea_op oa_mul (ea_ix (ea_var 0) ea_int) (ea_ix (ea_var 1) ea_int)) la_nil))))), fun as S P h => ?_⟩)
  obtain ⟨a, b, c, d, rfl, ha, hb, hc, hd, nb, nd, k⟩ := h
  (try simp only [startN, List.map_cons, List.map_nil, List.length_cons, List.length_nil, Nat.reduceAdd, Nat.reduceSub, Nat.zero_add, Nat.sub_self, List.replicate_succ, List.replicate_zero, List.reduceReplicate, List.cons_append, List.nil_append, List.append_nil, ↓sRet, ↓sRetN, ↓sSeq, ↓sNil, ↓sIf, ↓sSet, ↓sPar, ↓sDrop, ↓sSetL, ↓eAnd, ↓eOr, ↓eNot, ↓eIf, ↓eNeg, ↓eCall, ↓eCallK, ↓eCallV, ↓lCons, ↓lNil, ↓eVar, ↓eC, ↓eTup, ↓eLst, ↓eLstC, ↓eOp, ↓eSl, ↓oNo, ↓oPart, ↓eBits, ↓tBool, ↓tAndA, ↓tOrA, ↓tNotA, ↓List.getElem?_cons_zero, ↓List.getElem?_cons_succ, ↓List.set_cons_zero, ↓List.set_cons_succ, ↓rInt, ↓rInt0, ↓rAddA, ↓rEqA, ↓rIsA, ↓rMax2A, ↓rMin2A, ↓rIntA, ↓rAbsA, bsel_true, bsel_false, wipeN, gNm, tYesA, ↓isNon, ↓isBlOf, ↓isI, ↓isB, ↓isS, ↓isT, ↓isL, Bool.or_false, Bool.or_true, Bool.false_or, Bool.true_or, ↓wList, ↓eLc, ↓rLenA, ↓sFor, ↓sWhile, ↓wRng1, ↓wRng2, ↓wTup, Bool.not_true, Bool.not_false, Bool.false_eq_true, ↓reduceIte, Bool.not_not])
  refine ⟨.int a, rfl, .int d, rfl, ?_⟩
  (try simp only [startN, List.map_cons, List.map_nil, List.length_cons, List.length_nil, Nat.reduceAdd, Nat.reduceSub, Nat.zero_add, Nat.sub_self, List.replicate_succ, List.replicate_zero, List.reduceReplicate, List.cons_append, List.nil_append, List.append_nil, ↓sRet, ↓sRetN, ↓sSeq, ↓sNil, ↓sIf, ↓sSet, ↓sPar, ↓sDrop, ↓sSetL, ↓eAnd, ↓eOr, ↓eNot, ↓eIf, ↓eNeg, ↓eCall, ↓eCallK, ↓eCallV, ↓lCons, ↓lNil, ↓eVar, ↓eC, ↓eTup, ↓eLst, ↓eLstC, ↓eOp, ↓eSl, ↓oNo, ↓oPart, ↓eBits, ↓tBool, ↓tAndA, ↓tOrA, ↓tNotA, ↓List.getElem?_cons_zero, ↓List.getElem?_cons_succ, ↓List.set_cons_zero, ↓List.set_cons_succ, ↓rInt, ↓rInt0, ↓rAddA, ↓rEqA, ↓rIsA, ↓rMax2A, ↓rMin2A, ↓rIntA, ↓rAbsA, bsel_true, bsel_false, wipeN, gNm, tYesA, ↓isNon, ↓isBlOf, ↓isI, ↓isB, ↓isS, ↓isT, ↓isL, Bool.or_false, Bool.or_true, Bool.false_or, Bool.true_or, ↓wList, ↓eLc, ↓rLenA, ↓sFor, ↓sWhile, ↓wRng1, ↓wRng2, ↓wTup, Bool.not_true, Bool.not_false, Bool.false_eq_true, ↓reduceIte, Bool.not_not])
  refine ⟨ha.mulW hd, .int c, rfl, .int b, rfl, ?_⟩
  (try simp only [startN, List.map_cons, List.map_nil, List.length_cons, List.length_nil, Nat.reduceAdd, Nat.reduceSub, Nat.zero_add, Nat.sub_self, List.replicate_succ, List.replicate_zero, List.reduceReplicate, List.cons_append, List.nil_append, List.append_nil, ↓sRet, ↓sRetN, ↓sSeq, ↓sNil, ↓sIf, ↓sSet, ↓sPar, ↓sDrop, ↓sSetL, ↓eAnd, ↓eOr, ↓eNot, ↓eIf, ↓eNeg, ↓eCall, ↓eCallK, ↓eCallV, ↓lCons, ↓lNil, ↓eVar, ↓eC, ↓eTup, ↓eLst, ↓eLstC, ↓eOp, ↓eSl, ↓oNo, ↓oPart, ↓eBits, ↓tBool, ↓tAndA, ↓tOrA, ↓tNotA, ↓List.getElem?_cons_zero, ↓List.getElem?_cons_succ, ↓List.set_cons_zero, ↓List.set_cons_succ, ↓rInt, ↓rInt0, ↓rAddA, ↓rEqA, ↓rIsA, ↓rMax2A, ↓rMin2A, ↓rIntA, ↓rAbsA, bsel_true, bsel_false, wipeN, gNm, tYesA, ↓isNon, ↓isBlOf, ↓isI, ↓isB, ↓isS, ↓isT, ↓isL, Bool.or_false, Bool.or_true, Bool.false_or, Bool.true_or, ↓wList, ↓eLc, ↓rLenA, ↓sFor, ↓sWhile, ↓wRng1, ↓wRng2, ↓wTup, Bool.not_true, Bool.not_false, Bool.false_eq_true, ↓reduceIte, Bool.not_not])
  refine ⟨hc.mulW hb, .int b, rfl, .int d, rfl, ?_⟩
  (try simp only [startN, List.map_cons, List.map_nil, List.length_cons, List.length_nil, Nat.reduceAdd, Nat.reduceSub, Nat.zero_add, Nat.sub_self, List.replicate_succ, List.replicate_zero, List.reduceReplicate, List.cons_append, List.nil_append, List.append_nil, ↓sRet, ↓sRetN, ↓sSeq, ↓sNil, ↓sIf, ↓sSet, ↓sPar, ↓sDrop, ↓sSetL, ↓eAnd, ↓eOr, ↓eNot, ↓eIf, ↓eNeg, ↓eCall, ↓eCallK, ↓eCallV, ↓lCons, ↓lNil, ↓eVar, ↓eC, ↓eTup, ↓eLst, ↓eLstC, ↓eOp, ↓eSl, ↓oNo, ↓oPart, ↓eBits, ↓tBool, ↓tAndA, ↓tOrA, ↓tNotA, ↓List.getElem?_cons_zero, ↓List.getElem?_cons_succ, ↓List.set_cons_zero, ↓List.set_cons_succ, ↓rInt, ↓rInt0, ↓rAddA, ↓rEqA, ↓rIsA, ↓rMax2A, ↓rMin2A, ↓rIntA, ↓rAbsA, bsel_true, bsel_false, wipeN, gNm, tYesA, ↓isNon, ↓isBlOf, ↓isI, ↓isB, ↓isS, ↓isT, ↓isL, Bool.or_false, Bool.or_true, Bool.false_or, Bool.true_or, ↓wList, ↓eLc, ↓rLenA, ↓sFor, ↓sWhile, ↓wRng1, ↓wRng2, ↓wTup, Bool.not_true, Bool.not_false, Bool.false_eq_true, ↓reduceIte, Bool.not_not])
  exact ⟨hb.mulW hd, _, _, rfl, Int.mul_ne_zero nb nd, (hb.mul hd).le, k⟩
/-! ### minus -/
abbrev s_minus : Stmt := topS 6
theorem sc_minus : FnScope ["one", "other"] ["one", "other"] (defScope s_minus) := ⟨rfl, rfl, rfl, by decide +kernel, rfl, by decide +kernel, by decide +kernel⟩
theorem bd_minus (kV doc pm : Value) (an : Option Addr) (cdv ct : Value) (us : List Value) (hl : us.length = (["one", "other"] : List Str).length) : bindArgs (PySem.W.fnOf "minus" "minus" (defArgs s_minus) (defBody s_minus) (defScope s_minus) .none kV doc pm an cdv ct) ⟨us, []⟩ = pure ((["one", "other"] : List Str).zip us) :=
  match us, hl with | [_, _], _ => rfl
--len len_two
theorem got_minus {P : Program} {w : World} {K : PySem.W.Frag} {mg : Str → Option Value} {base : Heap} {f_lowest f_minus : Addr} (B : Bi mg) (D : Def K mg "minus" s_minus f_minus) (G_lowest : Got P w K mg base 2 ["number", "bottom"] "lowest" s_lowest f_lowest sp_lowest) :
    Got P w K mg base (2 + 1) ["one", "other"] "minus" s_minus f_minus (sp_two minusA) := by
  refine got_of D sc_minus (len_two) (bd_minus) (fun cdv A0 outer s0_ H E hr => ⟨_, (sb_one (sa_ret (ea_call G_lowest (hr.mono (by omega)) (la_cons (ea_op oa_sub (ea_op oa_mul (ea_ix (ea_var 0) ea_int) (ea_ix (ea_var 1) ea_int)) (ea_op oa_mul (ea_ix (ea_var 1) ea_int) (ea_ix (ea_var 0) ea_int))) (la_cons (ea_op oa_mul (ea_ix (ea_var 0) ea_int) (ea_ix (ea_var 1) ea_int)) la_nil))))), fun as S P h => ?_⟩)
  obtain ⟨a, b, c, d, rfl, ha, hb, hc, hd, nb, nd, k⟩ := h
  (try simp only [startN, List.map_cons, List.map_nil, List.length_cons, List.length_nil, Nat.reduceAdd, Nat.reduceSub, Nat.zero_add, Nat.sub_self, List.replicate_succ, List.replicate_zero, List.reduceReplicate, List.cons_append, List.nil_append, List.append_nil, ↓sRet, ↓sRetN, ↓sSeq, ↓sNil, ↓sIf, ↓sSet, ↓sPar, ↓sDrop, ↓sSetL, ↓eAnd, ↓eOr, ↓eNot, ↓eIf, ↓eNeg, ↓eCall, ↓eCallK, ↓eCallV, ↓lCons, ↓lNil, ↓eVar, ↓eC, ↓eTup, ↓eLst, ↓eLstC, ↓eOp, ↓eSl, ↓oNo, ↓oPart, ↓eBits, ↓tBool, ↓tAndA, ↓tOrA, ↓tNotA, ↓List.getElem?_cons_zero, ↓List.getElem?_cons_succ, ↓List.set_cons_zero, ↓List.set_cons_succ, ↓rInt, ↓rInt0, ↓rAddA, ↓rEqA, ↓rIsA, ↓rMax2A, ↓rMin2A, ↓rIntA, ↓rAbsA, bsel_true, bsel_false, wipeN, gNm, tYesA, ↓isNon, ↓isBlOf, ↓isI, ↓isB, ↓isS, ↓isT, ↓isL, Bool.or_false, Bool.or_true, Bool.false_or, Bool.true_or, ↓wList, ↓eLc, ↓rLenA, ↓sFor, ↓sWhile, ↓wRng1, ↓wRng2, ↓wTup, Bool.not_true, Bool.not_false, Bool.false_eq_true, ↓reduceIte, Bool.not_not])
  refine ⟨.int a, rfl, .int d, rfl, ?_⟩
  (try simp only [startN, List.map_cons, List.map_nil, List.length_cons, List.length_nil, Nat.reduceAdd, Nat.reduceSub, Nat.zero_add, Nat.sub_self, List.replicate_succ, List.replicate_zero, List.reduceReplicate, List.cons_append, List.nil_append, List.append_nil, ↓sRet, ↓sRetN, ↓sSeq, ↓sNil, ↓sIf, ↓sSet, ↓sPar, ↓sDrop, ↓sSetL, ↓eAnd, ↓eOr, ↓eNot, ↓eIf, ↓eNeg, ↓eCall, ↓eCallK, ↓eCallV, ↓lCons, ↓lNil, ↓eVar, ↓eC, ↓eTup, ↓eLst, ↓eLstC, ↓eOp, ↓eSl, ↓oNo, ↓oPart, ↓eBits, ↓tBool, ↓tAndA, ↓tOrA, ↓tNotA, ↓List.getElem?_cons_zero, ↓List.getElem?_cons_succ, ↓List.set_cons_zero, ↓List.set_cons_succ, ↓rInt, ↓rInt0, ↓rAddA, ↓rEqA, ↓rIsA, ↓rMax2A, ↓rMin2A, ↓rIntA, ↓rAbsA, bsel_true, bsel_false, wipeN, gNm, tYesA, ↓isNon, ↓isBlOf, ↓isI, ↓isB, ↓isS, ↓isT, ↓isL, Bool.or_false, Bool.or_true, Bool.false_or, Bool.true_or, ↓wList, ↓eLc, ↓rLenA, ↓sFor, ↓sWhile, ↓wRng1, ↓wRng2, ↓wTup, Bool.not_true, Bool.not_false, Bool.false_eq_true, ↓reduceIte, Bool.not_not])
  refine ⟨ha.mulW hd, .int c, rfl, .int b, rfl, ?_⟩
  (try simp only [startN, List.map_cons, List.map_nil, List.length_cons, List.length_nil, Nat.reduceAdd, Nat.reduceSub, Nat.zero_add, Nat.sub_self, List.replicate_succ, List.replicate_zero, List.reduceReplicate, List.cons_append, List.nil_append, List.append_nil, ↓sRet, ↓sRetN, ↓sSeq, ↓sNil, ↓sIf, ↓sSet, ↓sPar, ↓sDrop, ↓sSetL, ↓eAnd, ↓eOr, ↓eNot, ↓eIf, ↓eNeg, ↓eCall, ↓eCallK, ↓eCallV, ↓lCons, ↓lNil, ↓eVar, ↓eC, ↓eTup, ↓eLst, ↓eLstC, ↓eOp, ↓eSl, ↓oNo, ↓oPart, ↓eBits, ↓tBool, ↓tAndA, ↓tOrA, ↓tNotA, ↓List.getElem?_cons_zero, ↓List.getElem?_cons_succ, ↓List.set_cons_zero, ↓List.set_cons_succ, ↓rInt, ↓rInt0, ↓rAddA, ↓rEqA, ↓rIsA, ↓rMax2A, ↓rMin2A, ↓rIntA, ↓rAbsA, bsel_true, bsel_false, wipeN, gNm, tYesA, ↓isNon, ↓isBlOf, ↓isI, ↓isB, ↓isS, ↓isT, ↓isL, Bool.or_false, Bool.or_true, Bool.false_or, Bool.true_or, ↓wList, ↓eLc, ↓rLenA, ↓sFor, ↓sWhile, ↓wRng1, ↓wRng2, ↓wTup, Bool.not_true, Bool.not_false, Bool.false_eq_true, ↓reduceIte, Bool.not_not])
  refine ⟨hc.mulW hb, .int b, rfl, .int d, rfl, ?_⟩
  (try simp only [startN, List.map_cons, List.map_nil, List.length_cons, List.length_nil, Nat.reduceAdd, Nat.reduceSub, Nat.zero_add, Nat.sub_self, List.replicate_succ, List.replicate_zero, List.reduceReplicate, List.cons_append, List.nil_append, List.append_nil, ↓sRet, ↓sRetN, ↓sSeq, ↓sNil, ↓sIf, ↓sSet, ↓sPar, ↓sDrop, ↓sSetL, ↓eAnd, ↓eOr, ↓eNot, ↓eIf, ↓eNeg, ↓eCall, ↓eCallK, ↓eCallV, ↓lCons, ↓lNil, ↓eVar, ↓eC, ↓eTup, ↓eLst, ↓eLstC, ↓eOp, ↓eSl, ↓oNo, ↓oPart, ↓eBits, ↓tBool, ↓tAndA, ↓tOrA, ↓tNotA, ↓List.getElem?_cons_zero, ↓List.getElem?_cons_succ, ↓List.set_cons_zero, ↓List.set_cons_succ, ↓rInt, ↓rInt0, ↓rAddA, ↓rEqA, ↓rIsA, ↓rMax2A, ↓rMin2A, ↓rIntA, ↓rAbsA, bsel_true, bsel_false, wipeN, gNm, tYesA, ↓isNon, ↓isBlOf, ↓isI, ↓isB, ↓isS, ↓isT, ↓isL, Bool.or_false, Bool.or_true, Bool.false_or, Bool.true_or, ↓wList, ↓eLc, ↓rLenA, ↓sFor, ↓sWhile, ↓wRng1, ↓wRng2, ↓wTup, Bool.not_true, Bool.not_false, Bool.false_eq_true, ↓reduceIte, Bool.not_not])
  exact ⟨hb.mulW hd, _, _, rfl, Int.mul_ne_zero nb nd, (hb.mul hd).le, k⟩
/-! ### times -/
abbrev s_times : Stmt := topS 7
theorem sc_times : FnScope ["one", "other"] ["one", "other"] (defScope s_times) := ⟨rfl, rfl, rfl, by decide +kernel, rfl, by decide +kernel, by decide +kernel⟩
theorem bd_times (kV doc pm : Value) (an : Option Addr) (cdv ct : Value) (us : List Value) (hl : us.length = (["one", "other"] : List Str).length) : bindArgs (PySem.W.fnOf "times" "times" (defArgs s_times) (defBody s_times) (defScope s_times) .none kV doc pm an cdv ct) ⟨us, []⟩ = pure ((["one", "other"] : List Str).zip us) :=
  match us, hl with | [_, _], _ => rfl
--len len_two
theorem got_times {P : Program} {w : World} {K : PySem.W.Frag} {mg : Str → Option Value} {base : Heap} {f_lowest f_times : Addr} (B : Bi mg) (D : Def K mg "times" s_times f_times) (G_lowest : Got P w K mg base 2 ["number", "bottom"] "lowest" s_lowest f_lowest sp_lowest) :
    Got P w K mg base (2 + 1) ["one", "other"] "times" s_times f_times (sp_two timesA) := by
  refine got_of D sc_times (len_two) (bd_times) (fun cdv A0 outer s0_ H E hr => ⟨_, (sb_one (sa_ret (ea_call G_lowest (hr.mono (by omega)) (la_cons (ea_op oa_mul (ea_ix (ea_var 0) ea_int) (ea_ix (ea_var 1) ea_int)) (la_cons (ea_op oa_mul (ea_ix (ea_var 0) ea_int) (ea_ix (ea_var 1) ea_int)) la_nil))))), fun as S P h => ?_⟩)
  obtain ⟨a, b, c, d, rfl, ha, hb, hc, hd, nb, nd, k⟩ := h
  (try simp only [startN, List.map_cons, List.map_nil, List.length_cons, List.length_nil, Nat.reduceAdd, Nat.reduceSub, Nat.zero_add, Nat.sub_self, List.replicate_succ, List.replicate_zero, List.reduceReplicate, List.cons_append, List.nil_append, List.append_nil, ↓sRet, ↓sRetN, ↓sSeq, ↓sNil, ↓sIf, ↓sSet, ↓sPar, ↓sDrop, ↓sSetL, ↓eAnd, ↓eOr, ↓eNot, ↓eIf, ↓eNeg, ↓eCall, ↓eCallK, ↓eCallV, ↓lCons, ↓lNil, ↓eVar, ↓eC, ↓eTup, ↓eLst, ↓eLstC, ↓eOp, ↓eSl, ↓oNo, ↓oPart, ↓eBits, ↓tBool, ↓tAndA, ↓tOrA, ↓tNotA, ↓List.getElem?_cons_zero, ↓List.getElem?_cons_succ, ↓List.set_cons_zero, ↓List.set_cons_succ, ↓rInt, ↓rInt0, ↓rAddA, ↓rEqA, ↓rIsA, ↓rMax2A, ↓rMin2A, ↓rIntA, ↓rAbsA, bsel_true, bsel_false, wipeN, gNm, tYesA, ↓isNon, ↓isBlOf, ↓isI, ↓isB, ↓isS, ↓isT, ↓isL, Bool.or_false, Bool.or_true, Bool.false_or, Bool.true_or, ↓wList, ↓eLc, ↓rLenA, ↓sFor, ↓sWhile, ↓wRng1, ↓wRng2, ↓wTup, Bool.not_true, Bool.not_false, Bool.false_eq_true, ↓reduceIte, Bool.not_not])
  refine ⟨.int a, rfl, .int c, rfl, ?_⟩
  (try simp only [startN, List.map_cons, List.map_nil, List.length_cons, List.length_nil, Nat.reduceAdd, Nat.reduceSub, Nat.zero_add, Nat.sub_self, List.replicate_succ, List.replicate_zero, List.reduceReplicate, List.cons_append, List.nil_append, List.append_nil, ↓sRet, ↓sRetN, ↓sSeq, ↓sNil, ↓sIf, ↓sSet, ↓sPar, ↓sDrop, ↓sSetL, ↓eAnd, ↓eOr, ↓eNot, ↓eIf, ↓eNeg, ↓eCall, ↓eCallK, ↓eCallV, ↓lCons, ↓lNil, ↓eVar, ↓eC, ↓eTup, ↓eLst, ↓eLstC, ↓eOp, ↓eSl, ↓oNo, ↓oPart, ↓eBits, ↓tBool, ↓tAndA, ↓tOrA, ↓tNotA, ↓List.getElem?_cons_zero, ↓List.getElem?_cons_succ, ↓List.set_cons_zero, ↓List.set_cons_succ, ↓rInt, ↓rInt0, ↓rAddA, ↓rEqA, ↓rIsA, ↓rMax2A, ↓rMin2A, ↓rIntA, ↓rAbsA, bsel_true, bsel_false, wipeN, gNm, tYesA, ↓isNon, ↓isBlOf, ↓isI, ↓isB, ↓isS, ↓isT, ↓isL, Bool.or_false, Bool.or_true, Bool.false_or, Bool.true_or, ↓wList, ↓eLc, ↓rLenA, ↓sFor, ↓sWhile, ↓wRng1, ↓wRng2, ↓wTup, Bool.not_true, Bool.not_false, Bool.false_eq_true, ↓reduceIte, Bool.not_not])
  refine ⟨ha.mulW hc, .int b, rfl, .int d, rfl, ?_⟩
  (try simp only [startN, List.map_cons, List.map_nil, List.length_cons, List.length_nil, Nat.reduceAdd, Nat.reduceSub, Nat.zero_add, Nat.sub_self, List.replicate_succ, List.replicate_zero, List.reduceReplicate, List.cons_append, List.nil_append, List.append_nil, ↓sRet, ↓sRetN, ↓sSeq, ↓sNil, ↓sIf, ↓sSet, ↓sPar, ↓sDrop, ↓sSetL, ↓eAnd, ↓eOr, ↓eNot, ↓eIf, ↓eNeg, ↓eCall, ↓eCallK, ↓eCallV, ↓lCons, ↓lNil, ↓eVar, ↓eC, ↓eTup, ↓eLst, ↓eLstC, ↓eOp, ↓eSl, ↓oNo, ↓oPart, ↓eBits, ↓tBool, ↓tAndA, ↓tOrA, ↓tNotA, ↓List.getElem?_cons_zero, ↓List.getElem?_cons_succ, ↓List.set_cons_zero, ↓List.set_cons_succ, ↓rInt, ↓rInt0, ↓rAddA, ↓rEqA, ↓rIsA, ↓rMax2A, ↓rMin2A, ↓rIntA, ↓rAbsA, bsel_true, bsel_false, wipeN, gNm, tYesA, ↓isNon, ↓isBlOf, ↓isI, ↓isB, ↓isS, ↓isT, ↓isL, Bool.or_false, Bool.or_true, Bool.false_or, Bool.true_or, ↓wList, ↓eLc, ↓rLenA, ↓sFor, ↓sWhile, ↓wRng1, ↓wRng2, ↓wTup, Bool.not_true, Bool.not_false, Bool.false_eq_true, ↓reduceIte, Bool.not_not])
  exact ⟨hb.mulW hd, _, _, rfl, Int.mul_ne_zero nb nd, (hb.mul hd).le, k⟩
/-! ### compared -/
abbrev s_compared : Stmt := topS 8
theorem sc_compared : FnScope ["one", "other", "left", "right"] ["one", "other"] (defScope s_compared) := ⟨rfl, rfl, rfl, by decide +kernel, rfl, by decide +kernel, by decide +kernel⟩
theorem bd_compared (kV doc pm : Value) (an : Option Addr) (cdv ct : Value) (us : List Value) (hl : us.length = (["one", "other"] : List Str).length) : bindArgs (PySem.W.fnOf "compared" "compared" (defArgs s_compared) (defBody s_compared) (defScope s_compared) .none kV doc pm an cdv ct) ⟨us, []⟩ = pure ((["one", "other"] : List Str).zip us) :=
  match us, hl with | [_, _], _ => rfl
--len len_two
theorem got_compared {P : Program} {w : World} {K : PySem.W.Frag} {mg : Str → Option Value} {base : Heap} {f_compared : Addr} (B : Bi mg) (D : Def K mg "compared" s_compared f_compared) :
    Got P w K mg base (0 + 1) ["one", "other"] "compared" s_compared f_compared (sp_two cmpA) := by
  refine got_of D sc_compared (len_two) (bd_compared) (fun cdv A0 outer s0_ H E hr => ⟨_, (sb_cons (sa_set 2 sc_compared.nd (ea_op oa_mul (ea_ix (ea_var 0) ea_int) (ea_ix (ea_var 1) ea_int)))
      (sb_cons (sa_set 3 sc_compared.nd (ea_op oa_mul (ea_ix (ea_var 1) ea_int) (ea_ix (ea_var 0) ea_int)))
      (sb_cons (sa_if (tt_cmp (oa_eq hr.units) (ea_var 2) (ea_var 3)) (sb_one (sa_ret ea_int)) sb_nil)
      (sb_one (sa_ret (ea_if (tt_cmp oa_lt (ea_var 2) (ea_var 3)) (ea_neg ea_int) ea_int)))))), fun as S P h => ?_⟩)
  obtain ⟨a, b, c, d, rfl, ha, hb, hc, hd, nb, nd, k⟩ := h
  unfold cmpA at k
  (try simp only [startN, List.map_cons, List.map_nil, List.length_cons, List.length_nil, Nat.reduceAdd, Nat.reduceSub, Nat.zero_add, Nat.sub_self, List.replicate_succ, List.replicate_zero, List.reduceReplicate, List.cons_append, List.nil_append, List.append_nil, ↓sRet, ↓sRetN, ↓sSeq, ↓sNil, ↓sIf, ↓sSet, ↓sPar, ↓sDrop, ↓sSetL, ↓eAnd, ↓eOr, ↓eNot, ↓eIf, ↓eNeg, ↓eCall, ↓eCallK, ↓eCallV, ↓lCons, ↓lNil, ↓eVar, ↓eC, ↓eTup, ↓eLst, ↓eLstC, ↓eOp, ↓eSl, ↓oNo, ↓oPart, ↓eBits, ↓tBool, ↓tAndA, ↓tOrA, ↓tNotA, ↓List.getElem?_cons_zero, ↓List.getElem?_cons_succ, ↓List.set_cons_zero, ↓List.set_cons_succ, ↓rInt, ↓rInt0, ↓rAddA, ↓rEqA, ↓rIsA, ↓rMax2A, ↓rMin2A, ↓rIntA, ↓rAbsA, bsel_true, bsel_false, wipeN, gNm, tYesA, ↓isNon, ↓isBlOf, ↓isI, ↓isB, ↓isS, ↓isT, ↓isL, Bool.or_false, Bool.or_true, Bool.false_or, Bool.true_or, ↓wList, ↓eLc, ↓rLenA, ↓sFor, ↓sWhile, ↓wRng1, ↓wRng2, ↓wTup, Bool.not_true, Bool.not_false, Bool.false_eq_true, ↓reduceIte, Bool.not_not])
  refine ⟨.int a, rfl, .int d, rfl, ?_⟩
  (try simp only [startN, List.map_cons, List.map_nil, List.length_cons, List.length_nil, Nat.reduceAdd, Nat.reduceSub, Nat.zero_add, Nat.sub_self, List.replicate_succ, List.replicate_zero, List.reduceReplicate, List.cons_append, List.nil_append, List.append_nil, ↓sRet, ↓sRetN, ↓sSeq, ↓sNil, ↓sIf, ↓sSet, ↓sPar, ↓sDrop, ↓sSetL, ↓eAnd, ↓eOr, ↓eNot, ↓eIf, ↓eNeg, ↓eCall, ↓eCallK, ↓eCallV, ↓lCons, ↓lNil, ↓eVar, ↓eC, ↓eTup, ↓eLst, ↓eLstC, ↓eOp, ↓eSl, ↓oNo, ↓oPart, ↓eBits, ↓tBool, ↓tAndA, ↓tOrA, ↓tNotA, ↓List.getElem?_cons_zero, ↓List.getElem?_cons_succ, ↓List.set_cons_zero, ↓List.set_cons_succ, ↓rInt, ↓rInt0, ↓rAddA, ↓rEqA, ↓rIsA, ↓rMax2A, ↓rMin2A, ↓rIntA, ↓rAbsA, bsel_true, bsel_false, wipeN, gNm, tYesA, ↓isNon, ↓isBlOf, ↓isI, ↓isB, ↓isS, ↓isT, ↓isL, Bool.or_false, Bool.or_true, Bool.false_or, Bool.true_or, ↓wList, ↓eLc, ↓rLenA, ↓sFor, ↓sWhile, ↓wRng1, ↓wRng2, ↓wTup, Bool.not_true, Bool.not_false, Bool.false_eq_true, ↓reduceIte, Bool.not_not])
  refine ⟨ha.mulW hd, .int c, rfl, .int b, rfl, ?_⟩
  (try simp only [startN, List.map_cons, List.map_nil, List.length_cons, List.length_nil, Nat.reduceAdd, Nat.reduceSub, Nat.zero_add, Nat.sub_self, List.replicate_succ, List.replicate_zero, List.reduceReplicate, List.cons_append, List.nil_append, List.append_nil, ↓sRet, ↓sRetN, ↓sSeq, ↓sNil, ↓sIf, ↓sSet, ↓sPar, ↓sDrop, ↓sSetL, ↓eAnd, ↓eOr, ↓eNot, ↓eIf, ↓eNeg, ↓eCall, ↓eCallK, ↓eCallV, ↓lCons, ↓lNil, ↓eVar, ↓eC, ↓eTup, ↓eLst, ↓eLstC, ↓eOp, ↓eSl, ↓oNo, ↓oPart, ↓eBits, ↓tBool, ↓tAndA, ↓tOrA, ↓tNotA, ↓List.getElem?_cons_zero, ↓List.getElem?_cons_succ, ↓List.set_cons_zero, ↓List.set_cons_succ, ↓rInt, ↓rInt0, ↓rAddA, ↓rEqA, ↓rIsA, ↓rMax2A, ↓rMin2A, ↓rIntA, ↓rAbsA, bsel_true, bsel_false, wipeN, gNm, tYesA, ↓isNon, ↓isBlOf, ↓isI, ↓isB, ↓isS, ↓isT, ↓isL, Bool.or_false, Bool.or_true, Bool.false_or, Bool.true_or, ↓wList, ↓eLc, ↓rLenA, ↓sFor, ↓sWhile, ↓wRng1, ↓wRng2, ↓wTup, Bool.not_true, Bool.not_false, Bool.false_eq_true, ↓reduceIte, Bool.not_not])
  refine ⟨hc.mulW hb, ?_⟩
  refine bsel_i (fun h => ?_) fun h => ?_
  · rw [if_pos (of_decide_eq_true h)] at k
    exact k
  · rw [if_neg (of_decide_eq_false h)] at k
    refine bsel_i (fun h => ?_) fun h => ?_
    · rw [if_pos (of_decide_eq_true h)] at k
      exact k
    · rw [if_neg (of_decide_eq_false h)] at k
      exact k
/-! ### _law_hash -/
abbrev s__law_hash : Stmt := topS 10
theorem sc__law_hash : FnScope ["seed", "index", "mixed"] ["seed", "index"] (defScope s__law_hash) := ⟨rfl, rfl, rfl, by decide +kernel, rfl, by decide +kernel, by decide +kernel⟩
theorem bd__law_hash (kV doc pm : Value) (an : Option Addr) (cdv ct : Value) (us : List Value) (hl : us.length = (["seed", "index"] : List Str).length) : bindArgs (PySem.W.fnOf "_law_hash" "_law_hash" (defArgs s__law_hash) (defBody s__law_hash) (defScope s__law_hash) .none kV doc pm an cdv ct) ⟨us, []⟩ = pure ((["seed", "index"] : List Str).zip us) :=
  match us, hl with | [_, _], _ => rfl
def sp__law_hash : SpA := fun as S P => ∃ s i : Int, as = [.int s, .int i] ∧ Bd 31 s ∧ Bd 63 i ∧ ∀ r : Int, 0 ≤ r → r < 2147483647 → P (.int r) S
--len by rintro as S P ⟨a, b, rfl, _⟩; rfl
theorem got__law_hash {P : Program} {w : World} {K : PySem.W.Frag} {mg : Str → Option Value} {base : Heap} {f__law_hash : Addr} (B : Bi mg) (D : Def K mg "_law_hash" s__law_hash f__law_hash) :
    Got P w K mg base (0 + 1) ["seed", "index"] "_law_hash" s__law_hash f__law_hash sp__law_hash := by
  refine got_of D sc__law_hash (by rintro as S P ⟨a, b, rfl, _⟩; rfl) (bd__law_hash) (fun cdv A0 outer s0_ H E hr => ⟨_, (sb_cons (sa_set 2 sc__law_hash.nd (ea_op oa_mod (ea_callTy cx_int B.int_ (la_cons (ea_op oa_add (ea_op oa_add (ea_op oa_add (ea_op oa_mul (ea_var 0) ea_int) (ea_op oa_mul (ea_op oa_mul ea_int (ea_var 1)) (ea_var 1))) (ea_op oa_mul ea_int (ea_var 1))) ea_int) la_nil)) ea_int))
      (sb_cons (sa_set 2 sc__law_hash.nd (ea_op oa_mod (ea_callTy cx_int B.int_ (la_cons (ea_op oa_add (ea_op oa_add (ea_op oa_mul (ea_var 2) (ea_var 2)) (ea_op oa_mul ea_int (ea_var 1))) ea_int) la_nil)) ea_int))
      (sb_one (sa_ret (ea_op oa_mod (ea_callTy cx_int B.int_ (la_cons (ea_op oa_mul (ea_var 2) ea_int) la_nil)) ea_int))))), fun as S P h => ?_⟩)
  obtain ⟨s, i, rfl, hs, hi, k⟩ := h
  (try simp only [startN, List.map_cons, List.map_nil, List.length_cons, List.length_nil, Nat.reduceAdd, Nat.reduceSub, Nat.zero_add, Nat.sub_self, List.replicate_succ, List.replicate_zero, List.reduceReplicate, List.cons_append, List.nil_append, List.append_nil, ↓sRet, ↓sRetN, ↓sSeq, ↓sNil, ↓sIf, ↓sSet, ↓sPar, ↓sDrop, ↓sSetL, ↓eAnd, ↓eOr, ↓eNot, ↓eIf, ↓eNeg, ↓eCall, ↓eCallK, ↓eCallV, ↓lCons, ↓lNil, ↓eVar, ↓eC, ↓eTup, ↓eLst, ↓eLstC, ↓eOp, ↓eSl, ↓oNo, ↓oPart, ↓eBits, ↓tBool, ↓tAndA, ↓tOrA, ↓tNotA, ↓List.getElem?_cons_zero, ↓List.getElem?_cons_succ, ↓List.set_cons_zero, ↓List.set_cons_succ, ↓rInt, ↓rInt0, ↓rAddA, ↓rEqA, ↓rIsA, ↓rMax2A, ↓rMin2A, ↓rIntA, ↓rAbsA, bsel_true, bsel_false, wipeN, gNm, tYesA, ↓isNon, ↓isBlOf, ↓isI, ↓isB, ↓isS, ↓isT, ↓isL, Bool.or_false, Bool.or_true, Bool.false_or, Bool.true_or, ↓wList, ↓eLc, ↓rLenA, ↓sFor, ↓sWhile, ↓wRng1, ↓wRng2, ↓wTup, Bool.not_true, Bool.not_false, Bool.false_eq_true, ↓reduceIte, Bool.not_not])
  have b1 : Bd 24 (1140671 : Int) := .small 24 (m := 1140671) (by decide)
  have b2 : Bd 25 (27644437 : Int) := .small 25 (m := 27644437) (by decide)
  have b3 : Bd 8 (131 : Int) := .small 8 (m := 131) (by decide)
  have b4 : Bd 16 (62089 : Int) := .small 16 (m := 62089) (by decide)
  have b5 : Bd 16 (48271 : Int) := .small 16 (m := 48271) (by decide)
  refine ⟨hs.mulW b1, b2.mulW hi, (b2.mul hi).mulW hi, b3.mulW hi, by decide, ?_⟩
  have m1 : ∀ z : Int, Bd 31 (z % 2147483629) := fun z => .small 31 (m := 2147483629) (by omega)
  have m2 : ∀ z : Int, Bd 31 (z % 2147483587) := fun z => .small 31 (m := 2147483587) (by omega)
  refine ⟨(m1 _).mulW (m1 _), b4.mulW hi, by decide, (m2 _).mulW b5, by decide, ?_⟩
  exact k _ (by omega) (by omega)
/-- a generator: what is left of the seed, the seed, how often it was asked (n at most) -/
def GenL (n : Nat) (l : List A) : Prop := ∃ a s i : Int, l = [.int a, .int s, .int i] ∧ 0 ≤ a ∧ Bd 2200 a ∧ 0 ≤ s ∧ s < 2147483647 ∧ 0 ≤ i ∧ i ≤ (n : Int)
theorem GenL.mono {n m : Nat} {l : List A} (h : GenL n l) (e : n ≤ m) : GenL m l := by
  obtain ⟨a, s, i, h1, h2, h3, h4, h5, h6, h7⟩ := h
  exact ⟨a, s, i, h1, h2, h3, h4, h5, h6, by omega⟩
/-! ### _law_random -/
abbrev s__law_random : Stmt := topS 11
theorem sc__law_random : FnScope ["generator", "bound", "drawn", "turn"] ["generator", "bound"] (defScope s__law_random) := ⟨rfl, rfl, rfl, by decide +kernel, rfl, by decide +kernel, by decide +kernel⟩
theorem bd__law_random (kV doc pm : Value) (an : Option Addr) (cdv ct : Value) (us : List Value) (hl : us.length = (["generator", "bound"] : List Str).length) : bindArgs (PySem.W.fnOf "_law_random" "_law_random" (defArgs s__law_random) (defBody s__law_random) (defScope s__law_random) .none kV doc pm an cdv ct) ⟨us, []⟩ = pure ((["generator", "bound"] : List Str).zip us) :=
  match us, hl with | [_, _], _ => rfl
def sp__law_random : SpA := fun as S P => ∃ (g : Addr) (b : Int) (n : Nat) (l : List A), as = [.ref g, .int b] ∧ S g = some (.lst l) ∧ GenL n l ∧ 0 < b ∧ Bd 1000 b ∧ n ≤ 1000000000000 ∧ ∀ (r : Int) (l' : List A), 0 ≤ r → r < b → GenL (n + 100) l' → P (.int r) (sup S g (.lst l'))
--len by rintro as S P ⟨a, b, _, _, rfl, _⟩; rfl
theorem got__law_random {P : Program} {w : World} {K : PySem.W.Frag} {mg : Str → Option Value} {base : Heap} {f__law_hash f__law_random : Addr} (B : Bi mg) (D : Def K mg "_law_random" s__law_random f__law_random) (G__law_hash : Got P w K mg base 1 ["seed", "index"] "_law_hash" s__law_hash f__law_hash sp__law_hash) :
    Got P w K mg base (1 + 1) ["generator", "bound"] "_law_random" s__law_random f__law_random sp__law_random := by
  refine got_of D sc__law_random (by rintro as S P ⟨a, b, _, _, rfl, _⟩; rfl) (bd__law_random) (fun cdv A0 outer s0_ H E hr => ⟨_, (sb_cons (sa_if (tt_cmp oa_gt (ea_ix (ea_var 0) ea_int) ea_int) (sb_cons (sa_set 2 sc__law_random.nd (ea_op oa_mod (ea_callTy cx_int B.int_ (la_cons (ea_ix (ea_var 0) ea_int) la_nil)) (ea_var 1)))
      (sb_cons (sa_setL (ea_op oa_fdiv (ea_ix (ea_var 0) ea_int) (ea_var 1)) (ea_var 0) ea_int)
      (sb_one (sa_ret (ea_var 2))))) sb_nil)
      (sb_cons (sa_set 2 sc__law_random.nd ea_int)
      (sb_cons (sa_for PassesOwn.never (ia_rng1 B.range_ (la_cons (ea_op oa_add ea_int (ea_op oa_fdiv (ea_bits (ea_var 1)) ea_int)) la_nil)) (ga_name 3 sc__law_random.nd) (sb_cons (sa_setL (ea_op oa_add (ea_ix (ea_var 0) ea_int) ea_int) (ea_var 0) ea_int)
      (sb_one (sa_set 2 sc__law_random.nd (ea_op oa_add (ea_op oa_mul (ea_var 2) ea_int) (ea_call G__law_hash (hr.mono (by omega)) (la_cons (ea_ix (ea_var 0) ea_int) (la_cons (ea_ix (ea_var 0) ea_int) la_nil))))))))
      (sb_one (sa_ret (ea_op oa_mod (ea_callTy cx_int B.int_ (la_cons (ea_var 2) la_nil)) (ea_var 1))))))), fun as S P h => ?_⟩)
  obtain ⟨g, b, n, l, rfl, hg, ⟨a, s, i, rfl, a0, ab, s0, s1, i0, i1⟩, b0, bb, hn, k⟩ := h
  (try simp only [startN, List.map_cons, List.map_nil, List.length_cons, List.length_nil, Nat.reduceAdd, Nat.reduceSub, Nat.zero_add, Nat.sub_self, List.replicate_succ, List.replicate_zero, List.reduceReplicate, List.cons_append, List.nil_append, List.append_nil, ↓sRet, ↓sRetN, ↓sSeq, ↓sNil, ↓sIf, ↓sSet, ↓sPar, ↓sDrop, ↓sSetL, ↓eAnd, ↓eOr, ↓eNot, ↓eIf, ↓eNeg, ↓eCall, ↓eCallK, ↓eCallV, ↓lCons, ↓lNil, ↓eVar, ↓eC, ↓eTup, ↓eLst, ↓eLstC, ↓eOp, ↓eSl, ↓oNo, ↓oPart, ↓eBits, ↓tBool, ↓tAndA, ↓tOrA, ↓tNotA, ↓List.getElem?_cons_zero, ↓List.getElem?_cons_succ, ↓List.set_cons_zero, ↓List.set_cons_succ, ↓rInt, ↓rInt0, ↓rAddA, ↓rEqA, ↓rIsA, ↓rMax2A, ↓rMin2A, ↓rIntA, ↓rAbsA, bsel_true, bsel_false, wipeN, gNm, tYesA, ↓isNon, ↓isBlOf, ↓isI, ↓isB, ↓isS, ↓isT, ↓isL, Bool.or_false, Bool.or_true, Bool.false_or, Bool.true_or, ↓wList, ↓eLc, ↓rLenA, ↓sFor, ↓sWhile, ↓wRng1, ↓wRng2, ↓wTup, Bool.not_true, Bool.not_false, Bool.false_eq_true, ↓reduceIte, Bool.not_not])
  refine ⟨_, _, lstr_ref hg, rfl, ?_⟩
  (try simp only [startN, List.map_cons, List.map_nil, List.length_cons, List.length_nil, Nat.reduceAdd, Nat.reduceSub, Nat.zero_add, Nat.sub_self, List.replicate_succ, List.replicate_zero, List.reduceReplicate, List.cons_append, List.nil_append, List.append_nil, ↓sRet, ↓sRetN, ↓sSeq, ↓sNil, ↓sIf, ↓sSet, ↓sPar, ↓sDrop, ↓sSetL, ↓eAnd, ↓eOr, ↓eNot, ↓eIf, ↓eNeg, ↓eCall, ↓eCallK, ↓eCallV, ↓lCons, ↓lNil, ↓eVar, ↓eC, ↓eTup, ↓eLst, ↓eLstC, ↓eOp, ↓eSl, ↓oNo, ↓oPart, ↓eBits, ↓tBool, ↓tAndA, ↓tOrA, ↓tNotA, ↓List.getElem?_cons_zero, ↓List.getElem?_cons_succ, ↓List.set_cons_zero, ↓List.set_cons_succ, ↓rInt, ↓rInt0, ↓rAddA, ↓rEqA, ↓rIsA, ↓rMax2A, ↓rMin2A, ↓rIntA, ↓rAbsA, bsel_true, bsel_false, wipeN, gNm, tYesA, ↓isNon, ↓isBlOf, ↓isI, ↓isB, ↓isS, ↓isT, ↓isL, Bool.or_false, Bool.or_true, Bool.false_or, Bool.true_or, ↓wList, ↓eLc, ↓rLenA, ↓sFor, ↓sWhile, ↓wRng1, ↓wRng2, ↓wTup, Bool.not_true, Bool.not_false, Bool.false_eq_true, ↓reduceIte, Bool.not_not])
  refine bsel_i (fun h => ?_) fun h => ?_
  · refine ⟨_, _, lstr_ref hg, rfl, ?_⟩
    (try simp only [startN, List.map_cons, List.map_nil, List.length_cons, List.length_nil, Nat.reduceAdd, Nat.reduceSub, Nat.zero_add, Nat.sub_self, List.replicate_succ, List.replicate_zero, List.reduceReplicate, List.cons_append, List.nil_append, List.append_nil, ↓sRet, ↓sRetN, ↓sSeq, ↓sNil, ↓sIf, ↓sSet, ↓sPar, ↓sDrop, ↓sSetL, ↓eAnd, ↓eOr, ↓eNot, ↓eIf, ↓eNeg, ↓eCall, ↓eCallK, ↓eCallV, ↓lCons, ↓lNil, ↓eVar, ↓eC, ↓eTup, ↓eLst, ↓eLstC, ↓eOp, ↓eSl, ↓oNo, ↓oPart, ↓eBits, ↓tBool, ↓tAndA, ↓tOrA, ↓tNotA, ↓List.getElem?_cons_zero, ↓List.getElem?_cons_succ, ↓List.set_cons_zero, ↓List.set_cons_succ, ↓rInt, ↓rInt0, ↓rAddA, ↓rEqA, ↓rIsA, ↓rMax2A, ↓rMin2A, ↓rIntA, ↓rAbsA, bsel_true, bsel_false, wipeN, gNm, tYesA, ↓isNon, ↓isBlOf, ↓isI, ↓isB, ↓isS, ↓isT, ↓isL, Bool.or_false, Bool.or_true, Bool.false_or, Bool.true_or, ↓wList, ↓eLc, ↓rLenA, ↓sFor, ↓sWhile, ↓wRng1, ↓wRng2, ↓wTup, Bool.not_true, Bool.not_false, Bool.false_eq_true, ↓reduceIte, Bool.not_not])
    refine ⟨b0, _, _, lstr_ref hg, rfl, ?_⟩
    (try simp only [startN, List.map_cons, List.map_nil, List.length_cons, List.length_nil, Nat.reduceAdd, Nat.reduceSub, Nat.zero_add, Nat.sub_self, List.replicate_succ, List.replicate_zero, List.reduceReplicate, List.cons_append, List.nil_append, List.append_nil, ↓sRet, ↓sRetN, ↓sSeq, ↓sNil, ↓sIf, ↓sSet, ↓sPar, ↓sDrop, ↓sSetL, ↓eAnd, ↓eOr, ↓eNot, ↓eIf, ↓eNeg, ↓eCall, ↓eCallK, ↓eCallV, ↓lCons, ↓lNil, ↓eVar, ↓eC, ↓eTup, ↓eLst, ↓eLstC, ↓eOp, ↓eSl, ↓oNo, ↓oPart, ↓eBits, ↓tBool, ↓tAndA, ↓tOrA, ↓tNotA, ↓List.getElem?_cons_zero, ↓List.getElem?_cons_succ, ↓List.set_cons_zero, ↓List.set_cons_succ, ↓rInt, ↓rInt0, ↓rAddA, ↓rEqA, ↓rIsA, ↓rMax2A, ↓rMin2A, ↓rIntA, ↓rAbsA, bsel_true, bsel_false, wipeN, gNm, tYesA, ↓isNon, ↓isBlOf, ↓isI, ↓isB, ↓isS, ↓isT, ↓isL, Bool.or_false, Bool.or_true, Bool.false_or, Bool.true_or, ↓wList, ↓eLc, ↓rLenA, ↓sFor, ↓sWhile, ↓wRng1, ↓wRng2, ↓wTup, Bool.not_true, Bool.not_false, Bool.false_eq_true, ↓reduceIte, Bool.not_not])
    refine ⟨bb.divW b0, _, 0, hg, rfl, ?_⟩
    (try simp only [startN, List.map_cons, List.map_nil, List.length_cons, List.length_nil, Nat.reduceAdd, Nat.reduceSub, Nat.zero_add, Nat.sub_self, List.replicate_succ, List.replicate_zero, List.reduceReplicate, List.cons_append, List.nil_append, List.append_nil, ↓sRet, ↓sRetN, ↓sSeq, ↓sNil, ↓sIf, ↓sSet, ↓sPar, ↓sDrop, ↓sSetL, ↓eAnd, ↓eOr, ↓eNot, ↓eIf, ↓eNeg, ↓eCall, ↓eCallK, ↓eCallV, ↓lCons, ↓lNil, ↓eVar, ↓eC, ↓eTup, ↓eLst, ↓eLstC, ↓eOp, ↓eSl, ↓oNo, ↓oPart, ↓eBits, ↓tBool, ↓tAndA, ↓tOrA, ↓tNotA, ↓List.getElem?_cons_zero, ↓List.getElem?_cons_succ, ↓List.set_cons_zero, ↓List.set_cons_succ, ↓rInt, ↓rInt0, ↓rAddA, ↓rEqA, ↓rIsA, ↓rMax2A, ↓rMin2A, ↓rIntA, ↓rAbsA, bsel_true, bsel_false, wipeN, gNm, tYesA, ↓isNon, ↓isBlOf, ↓isI, ↓isB, ↓isS, ↓isT, ↓isL, Bool.or_false, Bool.or_true, Bool.false_or, Bool.true_or, ↓wList, ↓eLc, ↓rLenA, ↓sFor, ↓sWhile, ↓wRng1, ↓wRng2, ↓wTup, Bool.not_true, Bool.not_false, Bool.false_eq_true, ↓reduceIte, Bool.not_not])
    refine k _ _ (Int.emod_nonneg _ (by omega)) (Int.emod_lt_of_pos _ b0) ⟨a / b, s, i, rfl, Int.ediv_nonneg a0 (by omega), ab.of_le ?_, s0, s1, i0, by omega⟩
    have h1 := Int.ediv_nonneg a0 (show 0 ≤ b by omega)
    have h2 := Int.ediv_le_self b a0
    omega
  · have hbits : Builtin.Int.intBits b ≤ 1000 := PyProof.Rows.intBits_le bb
    have ht : (0 : Int) ≤ 1 + ((Builtin.Int.intBits b : Nat) : Int) / 30 ∧ 1 + ((Builtin.Int.intBits b : Nat) : Int) / 30 ≤ 34 := by omega
    refine ⟨⟨by omega, by decide⟩, ⟨by omega, by omega⟩, fun t nv S' => ∃ (d j : Int) (v : Option A), nv = [some (.ref g), some (.int b), some (.int d), v] ∧ S' = sup S g (.lst [.int a, .int s, .int j]) ∧ 0 ≤ j ∧ j ≤ (n : Int) + t ∧ Bd (32 * t + 32) d, ⟨0, i, none, rfl, (sup_id hg).symm, i0, by omega, .small _ (m := 0) (by decide) (Nat.two_pow_pos _)⟩, fun _ _ _ _ _ => trivial, ?_, ?_⟩
    · rintro t x nv S' hx ⟨d, j, v, rfl, rfl, j0, j1, bd⟩
      obtain ⟨ht1, rfl⟩ := rngA_at hx
      have ht2 : t < 34 := by omega
      (try simp only [startN, List.map_cons, List.map_nil, List.length_cons, List.length_nil, Nat.reduceAdd, Nat.reduceSub, Nat.zero_add, Nat.sub_self, List.replicate_succ, List.replicate_zero, List.reduceReplicate, List.cons_append, List.nil_append, List.append_nil, ↓sRet, ↓sRetN, ↓sSeq, ↓sNil, ↓sIf, ↓sSet, ↓sPar, ↓sDrop, ↓sSetL, ↓eAnd, ↓eOr, ↓eNot, ↓eIf, ↓eNeg, ↓eCall, ↓eCallK, ↓eCallV, ↓lCons, ↓lNil, ↓eVar, ↓eC, ↓eTup, ↓eLst, ↓eLstC, ↓eOp, ↓eSl, ↓oNo, ↓oPart, ↓eBits, ↓tBool, ↓tAndA, ↓tOrA, ↓tNotA, ↓List.getElem?_cons_zero, ↓List.getElem?_cons_succ, ↓List.set_cons_zero, ↓List.set_cons_succ, ↓rInt, ↓rInt0, ↓rAddA, ↓rEqA, ↓rIsA, ↓rMax2A, ↓rMin2A, ↓rIntA, ↓rAbsA, bsel_true, bsel_false, wipeN, gNm, tYesA, ↓isNon, ↓isBlOf, ↓isI, ↓isB, ↓isS, ↓isT, ↓isL, Bool.or_false, Bool.or_true, Bool.false_or, Bool.true_or, ↓wList, ↓eLc, ↓rLenA, ↓sFor, ↓sWhile, ↓wRng1, ↓wRng2, ↓wTup, Bool.not_true, Bool.not_false, Bool.false_eq_true, ↓reduceIte, Bool.not_not])
      refine ⟨_, _, lstr_ref sup_same, rfl, ?_⟩
      (try simp only [startN, List.map_cons, List.map_nil, List.length_cons, List.length_nil, Nat.reduceAdd, Nat.reduceSub, Nat.zero_add, Nat.sub_self, List.replicate_succ, List.replicate_zero, List.reduceReplicate, List.cons_append, List.nil_append, List.append_nil, ↓sRet, ↓sRetN, ↓sSeq, ↓sNil, ↓sIf, ↓sSet, ↓sPar, ↓sDrop, ↓sSetL, ↓eAnd, ↓eOr, ↓eNot, ↓eIf, ↓eNeg, ↓eCall, ↓eCallK, ↓eCallV, ↓lCons, ↓lNil, ↓eVar, ↓eC, ↓eTup, ↓eLst, ↓eLstC, ↓eOp, ↓eSl, ↓oNo, ↓oPart, ↓eBits, ↓tBool, ↓tAndA, ↓tOrA, ↓tNotA, ↓List.getElem?_cons_zero, ↓List.getElem?_cons_succ, ↓List.set_cons_zero, ↓List.set_cons_succ, ↓rInt, ↓rInt0, ↓rAddA, ↓rEqA, ↓rIsA, ↓rMax2A, ↓rMin2A, ↓rIntA, ↓rAbsA, bsel_true, bsel_false, wipeN, gNm, tYesA, ↓isNon, ↓isBlOf, ↓isI, ↓isB, ↓isS, ↓isT, ↓isL, Bool.or_false, Bool.or_true, Bool.false_or, Bool.true_or, ↓wList, ↓eLc, ↓rLenA, ↓sFor, ↓sWhile, ↓wRng1, ↓wRng2, ↓wTup, Bool.not_true, Bool.not_false, Bool.false_eq_true, ↓reduceIte, Bool.not_not])
      refine ⟨_, 2, sup_same, rfl, ?_⟩
      (try simp only [startN, List.map_cons, List.map_nil, List.length_cons, List.length_nil, Nat.reduceAdd, Nat.reduceSub, Nat.zero_add, Nat.sub_self, List.replicate_succ, List.replicate_zero, List.reduceReplicate, List.cons_append, List.nil_append, List.append_nil, ↓sRet, ↓sRetN, ↓sSeq, ↓sNil, ↓sIf, ↓sSet, ↓sPar, ↓sDrop, ↓sSetL, ↓eAnd, ↓eOr, ↓eNot, ↓eIf, ↓eNeg, ↓eCall, ↓eCallK, ↓eCallV, ↓lCons, ↓lNil, ↓eVar, ↓eC, ↓eTup, ↓eLst, ↓eLstC, ↓eOp, ↓eSl, ↓oNo, ↓oPart, ↓eBits, ↓tBool, ↓tAndA, ↓tOrA, ↓tNotA, ↓List.getElem?_cons_zero, ↓List.getElem?_cons_succ, ↓List.set_cons_zero, ↓List.set_cons_succ, ↓rInt, ↓rInt0, ↓rAddA, ↓rEqA, ↓rIsA, ↓rMax2A, ↓rMin2A, ↓rIntA, ↓rAbsA, bsel_true, bsel_false, wipeN, gNm, tYesA, ↓isNon, ↓isBlOf, ↓isI, ↓isB, ↓isS, ↓isT, ↓isL, Bool.or_false, Bool.or_true, Bool.false_or, Bool.true_or, ↓wList, ↓eLc, ↓rLenA, ↓sFor, ↓sWhile, ↓wRng1, ↓wRng2, ↓wTup, Bool.not_true, Bool.not_false, Bool.false_eq_true, ↓reduceIte, Bool.not_not])
      rw [sup_sup]
      refine ⟨bd.mulW (.small 32 (m := 2147483587) (by decide)) (by omega) (by decide) (by omega), _, _, lstr_ref sup_same, rfl, _, _, lstr_ref sup_same, rfl, s, j + 1, rfl, .small 31 (m := 2147483647) (by omega), .small 63 (m := 2000000000000) (by omega), fun r r0 r1 => ?_⟩
      (try simp only [startN, List.map_cons, List.map_nil, List.length_cons, List.length_nil, Nat.reduceAdd, Nat.reduceSub, Nat.zero_add, Nat.sub_self, List.replicate_succ, List.replicate_zero, List.reduceReplicate, List.cons_append, List.nil_append, List.append_nil, ↓sRet, ↓sRetN, ↓sSeq, ↓sNil, ↓sIf, ↓sSet, ↓sPar, ↓sDrop, ↓sSetL, ↓eAnd, ↓eOr, ↓eNot, ↓eIf, ↓eNeg, ↓eCall, ↓eCallK, ↓eCallV, ↓lCons, ↓lNil, ↓eVar, ↓eC, ↓eTup, ↓eLst, ↓eLstC, ↓eOp, ↓eSl, ↓oNo, ↓oPart, ↓eBits, ↓tBool, ↓tAndA, ↓tOrA, ↓tNotA, ↓List.getElem?_cons_zero, ↓List.getElem?_cons_succ, ↓List.set_cons_zero, ↓List.set_cons_succ, ↓rInt, ↓rInt0, ↓rAddA, ↓rEqA, ↓rIsA, ↓rMax2A, ↓rMin2A, ↓rIntA, ↓rAbsA, bsel_true, bsel_false, wipeN, gNm, tYesA, ↓isNon, ↓isBlOf, ↓isI, ↓isB, ↓isS, ↓isT, ↓isL, Bool.or_false, Bool.or_true, Bool.false_or, Bool.true_or, ↓wList, ↓eLc, ↓rLenA, ↓sFor, ↓sWhile, ↓wRng1, ↓wRng2, ↓wTup, Bool.not_true, Bool.not_false, Bool.false_eq_true, ↓reduceIte, Bool.not_not])
      refine ⟨_, j + 1, _, rfl, rfl, by omega, by omega, ?_⟩
      have e : 32 * (t + 1) + 32 = (32 * t + 32 + 31) + 1 := by omega
      rw [e]
      refine Bd.add ?_ (Bd.le (a := 31) (.small 31 (m := 2147483647) (by omega)) (by omega))
      have := bd.mul (show Bd 31 (2147483587 : Int) from .small 31 (m := 2147483587) (by decide))
      exact this
    · rintro nv S' ⟨d, j, v, rfl, rfl, j0, j1, bd⟩
      rw [rngA_len] at j1
      (try simp only [startN, List.map_cons, List.map_nil, List.length_cons, List.length_nil, Nat.reduceAdd, Nat.reduceSub, Nat.zero_add, Nat.sub_self, List.replicate_succ, List.replicate_zero, List.reduceReplicate, List.cons_append, List.nil_append, List.append_nil, ↓sRet, ↓sRetN, ↓sSeq, ↓sNil, ↓sIf, ↓sSet, ↓sPar, ↓sDrop, ↓sSetL, ↓eAnd, ↓eOr, ↓eNot, ↓eIf, ↓eNeg, ↓eCall, ↓eCallK, ↓eCallV, ↓lCons, ↓lNil, ↓eVar, ↓eC, ↓eTup, ↓eLst, ↓eLstC, ↓eOp, ↓eSl, ↓oNo, ↓oPart, ↓eBits, ↓tBool, ↓tAndA, ↓tOrA, ↓tNotA, ↓List.getElem?_cons_zero, ↓List.getElem?_cons_succ, ↓List.set_cons_zero, ↓List.set_cons_succ, ↓rInt, ↓rInt0, ↓rAddA, ↓rEqA, ↓rIsA, ↓rMax2A, ↓rMin2A, ↓rIntA, ↓rAbsA, bsel_true, bsel_false, wipeN, gNm, tYesA, ↓isNon, ↓isBlOf, ↓isI, ↓isB, ↓isS, ↓isT, ↓isL, Bool.or_false, Bool.or_true, Bool.false_or, Bool.true_or, ↓wList, ↓eLc, ↓rLenA, ↓sFor, ↓sWhile, ↓wRng1, ↓wRng2, ↓wTup, Bool.not_true, Bool.not_false, Bool.false_eq_true, ↓reduceIte, Bool.not_not])
      exact ⟨b0, k _ _ (Int.emod_nonneg _ (by omega)) (Int.emod_lt_of_pos _ b0) ⟨a, s, j, rfl, a0, ab, s0, s1, j0, by omega⟩⟩
/-! ### _law_cell -/
abbrev s__law_cell : Stmt := topS 12
theorem sc__law_cell : FnScope ["script", "index"] ["script", "index"] (defScope s__law_cell) := ⟨rfl, rfl, rfl, by decide +kernel, rfl, by decide +kernel, by decide +kernel⟩
theorem bd__law_cell (kV doc pm : Value) (an : Option Addr) (cdv ct : Value) (us : List Value) (hl : us.length = (["script", "index"] : List Str).length) : bindArgs (PySem.W.fnOf "_law_cell" "_law_cell" (defArgs s__law_cell) (defBody s__law_cell) (defScope s__law_cell) .none kV doc pm an cdv ct) ⟨us, []⟩ = pure ((["script", "index"] : List Str).zip us) :=
  match us, hl with | [_, _], _ => rfl
def sp__law_cell : SpA := fun as S P => ∃ (scr : Addr) (ns : List Int) (i : Int), as = [.ref scr, .int i] ∧ S scr = some (.frz (ns.map .int)) ∧ 0 ≤ i ∧ ∀ c : Int, P (.int c) S
--len by rintro as S P ⟨_, _, _, rfl, _⟩; rfl
theorem got__law_cell {P : Program} {w : World} {K : PySem.W.Frag} {mg : Str → Option Value} {base : Heap} {f__law_cell : Addr} (B : Bi mg) (D : Def K mg "_law_cell" s__law_cell f__law_cell) :
    Got P w K mg base (0 + 1) ["script", "index"] "_law_cell" s__law_cell f__law_cell sp__law_cell := by
  refine got_of D sc__law_cell (by rintro as S P ⟨_, _, _, rfl, _⟩; rfl) (bd__law_cell) (fun cdv A0 outer s0_ H E hr => ⟨_, (sb_cons (sa_if (tt_cmp oa_lt (ea_var 1) (ea_callB cx_len B.len_ (la_cons (ea_var 0) la_nil))) (sb_one (sa_ret (ea_ix (ea_var 0) (ea_var 1)))) sb_nil)
      (sb_one (sa_ret (ea_op oa_mod (ea_callB cx_sum B.sum_ (la_cons (ea_sl (ea_var 0) oa_no (oa_part ea_int)) la_nil)) ea_int)))), fun as S P h => ?_⟩)
  obtain ⟨scr, ns, i, rfl, hs, i0, k⟩ := h
  (try simp only [startN, List.map_cons, List.map_nil, List.length_cons, List.length_nil, Nat.reduceAdd, Nat.reduceSub, Nat.zero_add, Nat.sub_self, List.replicate_succ, List.replicate_zero, List.reduceReplicate, List.cons_append, List.nil_append, List.append_nil, ↓sRet, ↓sRetN, ↓sSeq, ↓sNil, ↓sIf, ↓sSet, ↓sPar, ↓sDrop, ↓sSetL, ↓eAnd, ↓eOr, ↓eNot, ↓eIf, ↓eNeg, ↓eCall, ↓eCallK, ↓eCallV, ↓lCons, ↓lNil, ↓eVar, ↓eC, ↓eTup, ↓eLst, ↓eLstC, ↓eOp, ↓eSl, ↓oNo, ↓oPart, ↓eBits, ↓tBool, ↓tAndA, ↓tOrA, ↓tNotA, ↓List.getElem?_cons_zero, ↓List.getElem?_cons_succ, ↓List.set_cons_zero, ↓List.set_cons_succ, ↓rInt, ↓rInt0, ↓rAddA, ↓rEqA, ↓rIsA, ↓rMax2A, ↓rMin2A, ↓rIntA, ↓rAbsA, bsel_true, bsel_false, wipeN, gNm, tYesA, ↓isNon, ↓isBlOf, ↓isI, ↓isB, ↓isS, ↓isT, ↓isL, Bool.or_false, Bool.or_true, Bool.false_or, Bool.true_or, ↓wList, ↓eLc, ↓rLenA, ↓sFor, ↓sWhile, ↓wRng1, ↓wRng2, ↓wTup, Bool.not_true, Bool.not_false, Bool.false_eq_true, ↓reduceIte, Bool.not_not])
  refine ⟨_, lstr_frz hs, ?_⟩
  (try simp only [startN, List.map_cons, List.map_nil, List.length_cons, List.length_nil, Nat.reduceAdd, Nat.reduceSub, Nat.zero_add, Nat.sub_self, List.replicate_succ, List.replicate_zero, List.reduceReplicate, List.cons_append, List.nil_append, List.append_nil, ↓sRet, ↓sRetN, ↓sSeq, ↓sNil, ↓sIf, ↓sSet, ↓sPar, ↓sDrop, ↓sSetL, ↓eAnd, ↓eOr, ↓eNot, ↓eIf, ↓eNeg, ↓eCall, ↓eCallK, ↓eCallV, ↓lCons, ↓lNil, ↓eVar, ↓eC, ↓eTup, ↓eLst, ↓eLstC, ↓eOp, ↓eSl, ↓oNo, ↓oPart, ↓eBits, ↓tBool, ↓tAndA, ↓tOrA, ↓tNotA, ↓List.getElem?_cons_zero, ↓List.getElem?_cons_succ, ↓List.set_cons_zero, ↓List.set_cons_succ, ↓rInt, ↓rInt0, ↓rAddA, ↓rEqA, ↓rIsA, ↓rMax2A, ↓rMin2A, ↓rIntA, ↓rAbsA, bsel_true, bsel_false, wipeN, gNm, tYesA, ↓isNon, ↓isBlOf, ↓isI, ↓isB, ↓isS, ↓isT, ↓isL, Bool.or_false, Bool.or_true, Bool.false_or, Bool.true_or, ↓wList, ↓eLc, ↓rLenA, ↓sFor, ↓sWhile, ↓wRng1, ↓wRng2, ↓wTup, Bool.not_true, Bool.not_false, Bool.false_eq_true, ↓reduceIte, Bool.not_not])
  refine bsel_i (fun h => ?_) fun h => ?_
  · have h1 := of_decide_eq_true h
    rw [List.length_map] at h1
    have h2 : i.toNat < ns.length := by omega
    refine ⟨_, .int ns[i.toNat], lstr_frz hs, atI_pos i0 ?_, k _⟩
    rw [List.getElem?_map, List.getElem?_eq_getElem h2]
    rfl
  · refine ⟨_, lstr_frz hs, ?_⟩
    obtain ⟨ms, e⟩ := cutA_ints ns none (some 1)
    exact ⟨ms, by rw [e]; rfl, by decide, k _⟩
/-! ### _law_generator -/
abbrev s__law_generator : Stmt := topS 13
theorem sc__law_generator : FnScope ["script", "index", "seed"] ["script", "index"] (defScope s__law_generator) := ⟨rfl, rfl, rfl, by decide +kernel, rfl, by decide +kernel, by decide +kernel⟩
theorem bd__law_generator (kV doc pm : Value) (an : Option Addr) (cdv ct : Value) (us : List Value) (hl : us.length = (["script", "index"] : List Str).length) : bindArgs (PySem.W.fnOf "_law_generator" "_law_generator" (defArgs s__law_generator) (defBody s__law_generator) (defScope s__law_generator) .none kV doc pm an cdv ct) ⟨us, []⟩ = pure ((["script", "index"] : List Str).zip us) :=
  match us, hl with | [_, _], _ => rfl
def sp__law_generator : SpA := fun as S P => ∃ (scr : Addr) (ns : List Int) (i : Nat), as = [.ref scr, .int (i : Int)] ∧ S scr = some (.frz (ns.map .int)) ∧ i ≤ 1000 ∧ ∀ (g : Addr) (l : List A), S g = none → GenL (1000 * i) l → P (.ref g) (sup S g (.lst l))
--len by rintro as S P ⟨_, _, _, rfl, _⟩; rfl
theorem got__law_generator {P : Program} {w : World} {K : PySem.W.Frag} {mg : Str → Option Value} {base : Heap} {f__law_cell f__law_generator : Addr} (B : Bi mg) (D : Def K mg "_law_generator" s__law_generator f__law_generator) (G__law_cell : Got P w K mg base 1 ["script", "index"] "_law_cell" s__law_cell f__law_cell sp__law_cell) :
    Got P w K mg base (1 + 1) ["script", "index"] "_law_generator" s__law_generator f__law_generator sp__law_generator := by
  refine got_of D sc__law_generator (by rintro as S P ⟨_, _, _, rfl, _⟩; rfl) (bd__law_generator) (fun cdv A0 outer s0_ H E hr => ⟨_, (sb_cons (sa_set 2 sc__law_generator.nd (ea_call G__law_cell (hr.mono (by omega)) (la_cons (ea_var 0) (la_cons (ea_var 1) la_nil))))
      (sb_one (sa_ret (ea_lstC (la_cons (ea_op oa_mod (ea_callTy cx_int B.int_ (la_cons (ea_callB cx_max2 B.max_ (la_cons (ea_op oa_sub (ea_var 2) (ea_op oa_pow ea_int ea_int)) (la_cons ea_int la_nil))) la_nil)) (ea_op oa_pow (ea_op oa_pow ea_int ea_int) ea_int)) (la_cons (ea_op oa_mod (ea_callTy cx_int B.int_ (la_cons (ea_var 2) la_nil)) ea_int) (la_cons (ea_op oa_mul ea_int (ea_var 1)) la_nil))))))), fun as S P h => ?_⟩)
  obtain ⟨scr, ns, i, rfl, hs, hi, k⟩ := h
  (try simp only [startN, List.map_cons, List.map_nil, List.length_cons, List.length_nil, Nat.reduceAdd, Nat.reduceSub, Nat.zero_add, Nat.sub_self, List.replicate_succ, List.replicate_zero, List.reduceReplicate, List.cons_append, List.nil_append, List.append_nil, ↓sRet, ↓sRetN, ↓sSeq, ↓sNil, ↓sIf, ↓sSet, ↓sPar, ↓sDrop, ↓sSetL, ↓eAnd, ↓eOr, ↓eNot, ↓eIf, ↓eNeg, ↓eCall, ↓eCallK, ↓eCallV, ↓lCons, ↓lNil, ↓eVar, ↓eC, ↓eTup, ↓eLst, ↓eLstC, ↓eOp, ↓eSl, ↓oNo, ↓oPart, ↓eBits, ↓tBool, ↓tAndA, ↓tOrA, ↓tNotA, ↓List.getElem?_cons_zero, ↓List.getElem?_cons_succ, ↓List.set_cons_zero, ↓List.set_cons_succ, ↓rInt, ↓rInt0, ↓rAddA, ↓rEqA, ↓rIsA, ↓rMax2A, ↓rMin2A, ↓rIntA, ↓rAbsA, bsel_true, bsel_false, wipeN, gNm, tYesA, ↓isNon, ↓isBlOf, ↓isI, ↓isB, ↓isS, ↓isT, ↓isL, Bool.or_false, Bool.or_true, Bool.false_or, Bool.true_or, ↓wList, ↓eLc, ↓rLenA, ↓sFor, ↓sWhile, ↓wRng1, ↓wRng2, ↓wTup, Bool.not_true, Bool.not_false, Bool.false_eq_true, ↓reduceIte, Bool.not_not])
  refine ⟨scr, ns, (i : Int), rfl, hs, by omega, fun c => ?_⟩
  (try simp only [startN, List.map_cons, List.map_nil, List.length_cons, List.length_nil, Nat.reduceAdd, Nat.reduceSub, Nat.zero_add, Nat.sub_self, List.replicate_succ, List.replicate_zero, List.reduceReplicate, List.cons_append, List.nil_append, List.append_nil, ↓sRet, ↓sRetN, ↓sSeq, ↓sNil, ↓sIf, ↓sSet, ↓sPar, ↓sDrop, ↓sSetL, ↓eAnd, ↓eOr, ↓eNot, ↓eIf, ↓eNeg, ↓eCall, ↓eCallK, ↓eCallV, ↓lCons, ↓lNil, ↓eVar, ↓eC, ↓eTup, ↓eLst, ↓eLstC, ↓eOp, ↓eSl, ↓oNo, ↓oPart, ↓eBits, ↓tBool, ↓tAndA, ↓tOrA, ↓tNotA, ↓List.getElem?_cons_zero, ↓List.getElem?_cons_succ, ↓List.set_cons_zero, ↓List.set_cons_succ, ↓rInt, ↓rInt0, ↓rAddA, ↓rEqA, ↓rIsA, ↓rMax2A, ↓rMin2A, ↓rIntA, ↓rAbsA, bsel_true, bsel_false, wipeN, gNm, tYesA, ↓isNon, ↓isBlOf, ↓isI, ↓isB, ↓isS, ↓isT, ↓isL, Bool.or_false, Bool.or_true, Bool.false_or, Bool.true_or, ↓wList, ↓eLc, ↓rLenA, ↓sFor, ↓sWhile, ↓wRng1, ↓wRng2, ↓wTup, Bool.not_true, Bool.not_false, Bool.false_eq_true, ↓reduceIte, Bool.not_not])
  have hp : (0 : Int) < ((10 : Int) ^ (60 : Int).toNat) ^ (10 : Int).toNat := by decide +kernel
  refine ⟨⟨by decide, by decide +kernel⟩, ⟨by decide, by decide +kernel⟩, ⟨by decide, by decide +kernel⟩, hp, by decide, ?_, ?_⟩
  · exact Bd.mulW (a := 10) (b := 10) (.small 10 (m := 1000) (by decide)) (.small 10 (m := 1000) (by omega))
  · intro p hp2
    refine k p _ hp2 ⟨_, _, _, rfl, Int.emod_nonneg _ (by omega), ?_, by omega, by omega, by omega, by omega⟩
    have h1 := Int.emod_nonneg (max (c - (10 : Int) ^ (18 : Int).toNat) 0) (show ((10 : Int) ^ (60 : Int).toNat) ^ (10 : Int).toNat ≠ 0 by omega)
    have h2 := Int.emod_lt_of_pos (max (c - (10 : Int) ^ (18 : Int).toNat) 0) hp
    have h3 : Bd 2200 (((10 : Int) ^ (60 : Int).toNat) ^ (10 : Int).toNat) := by unfold Bd; decide +kernel
    exact h3.of_le (by omega)
/-! ### _law_pick -/
abbrev s__law_pick : Stmt := topS 14
theorem sc__law_pick : FnScope ["generator", "things"] ["generator", "things"] (defScope s__law_pick) := ⟨rfl, rfl, rfl, by decide +kernel, rfl, by decide +kernel, by decide +kernel⟩
theorem bd__law_pick (kV doc pm : Value) (an : Option Addr) (cdv ct : Value) (us : List Value) (hl : us.length = (["generator", "things"] : List Str).length) : bindArgs (PySem.W.fnOf "_law_pick" "_law_pick" (defArgs s__law_pick) (defBody s__law_pick) (defScope s__law_pick) .none kV doc pm an cdv ct) ⟨us, []⟩ = pure ((["generator", "things"] : List Str).zip us) :=
  match us, hl with | [_, _], _ => rfl
def sp__law_pick : SpA := fun as S P => ∃ (g : Addr) (xs : List A) (n : Nat) (l : List A), as = [.ref g, .lst xs] ∧ S g = some (.lst l) ∧ GenL n l ∧ 0 < xs.length ∧ xs.length ≤ 1000000 ∧ n ≤ 1000000000000 ∧ ∀ (z : A) (l' : List A), z ∈ xs → GenL (n + 100) l' → P z (sup S g (.lst l'))
--len by rintro as S P ⟨_, _, _, _, rfl, _⟩; rfl
theorem got__law_pick {P : Program} {w : World} {K : PySem.W.Frag} {mg : Str → Option Value} {base : Heap} {f__law_pick f__law_random : Addr} (B : Bi mg) (D : Def K mg "_law_pick" s__law_pick f__law_pick) (G__law_random : Got P w K mg base 2 ["generator", "bound"] "_law_random" s__law_random f__law_random sp__law_random) :
    Got P w K mg base (2 + 1) ["generator", "things"] "_law_pick" s__law_pick f__law_pick sp__law_pick := by
  refine got_of D sc__law_pick (by rintro as S P ⟨_, _, _, _, rfl, _⟩; rfl) (bd__law_pick) (fun cdv A0 outer s0_ H E hr => ⟨_, (sb_one (sa_ret (ea_ix (ea_var 1) (ea_call G__law_random (hr.mono (by omega)) (la_cons (ea_var 0) (la_cons (ea_callB cx_len B.len_ (la_cons (ea_var 1) la_nil)) la_nil)))))), fun as S P h => ?_⟩)
  obtain ⟨g, xs, n, l, rfl, hg, gl, x0, x1, hn, k⟩ := h
  (try simp only [startN, List.map_cons, List.map_nil, List.length_cons, List.length_nil, Nat.reduceAdd, Nat.reduceSub, Nat.zero_add, Nat.sub_self, List.replicate_succ, List.replicate_zero, List.reduceReplicate, List.cons_append, List.nil_append, List.append_nil, ↓sRet, ↓sRetN, ↓sSeq, ↓sNil, ↓sIf, ↓sSet, ↓sPar, ↓sDrop, ↓sSetL, ↓eAnd, ↓eOr, ↓eNot, ↓eIf, ↓eNeg, ↓eCall, ↓eCallK, ↓eCallV, ↓lCons, ↓lNil, ↓eVar, ↓eC, ↓eTup, ↓eLst, ↓eLstC, ↓eOp, ↓eSl, ↓oNo, ↓oPart, ↓eBits, ↓tBool, ↓tAndA, ↓tOrA, ↓tNotA, ↓List.getElem?_cons_zero, ↓List.getElem?_cons_succ, ↓List.set_cons_zero, ↓List.set_cons_succ, ↓rInt, ↓rInt0, ↓rAddA, ↓rEqA, ↓rIsA, ↓rMax2A, ↓rMin2A, ↓rIntA, ↓rAbsA, bsel_true, bsel_false, wipeN, gNm, tYesA, ↓isNon, ↓isBlOf, ↓isI, ↓isB, ↓isS, ↓isT, ↓isL, Bool.or_false, Bool.or_true, Bool.false_or, Bool.true_or, ↓wList, ↓eLc, ↓rLenA, ↓sFor, ↓sWhile, ↓wRng1, ↓wRng2, ↓wTup, Bool.not_true, Bool.not_false, Bool.false_eq_true, ↓reduceIte, Bool.not_not])
  refine ⟨xs, rfl, g, _, n, l, rfl, hg, gl, by omega, .small 1000 (m := 1000000) (by omega) (by decide +kernel), hn, fun r l' r0 r1 gl' => ?_⟩
  (try simp only [startN, List.map_cons, List.map_nil, List.length_cons, List.length_nil, Nat.reduceAdd, Nat.reduceSub, Nat.zero_add, Nat.sub_self, List.replicate_succ, List.replicate_zero, List.reduceReplicate, List.cons_append, List.nil_append, List.append_nil, ↓sRet, ↓sRetN, ↓sSeq, ↓sNil, ↓sIf, ↓sSet, ↓sPar, ↓sDrop, ↓sSetL, ↓eAnd, ↓eOr, ↓eNot, ↓eIf, ↓eNeg, ↓eCall, ↓eCallK, ↓eCallV, ↓lCons, ↓lNil, ↓eVar, ↓eC, ↓eTup, ↓eLst, ↓eLstC, ↓eOp, ↓eSl, ↓oNo, ↓oPart, ↓eBits, ↓tBool, ↓tAndA, ↓tOrA, ↓tNotA, ↓List.getElem?_cons_zero, ↓List.getElem?_cons_succ, ↓List.set_cons_zero, ↓List.set_cons_succ, ↓rInt, ↓rInt0, ↓rAddA, ↓rEqA, ↓rIsA, ↓rMax2A, ↓rMin2A, ↓rIntA, ↓rAbsA, bsel_true, bsel_false, wipeN, gNm, tYesA, ↓isNon, ↓isBlOf, ↓isI, ↓isB, ↓isS, ↓isT, ↓isL, Bool.or_false, Bool.or_true, Bool.false_or, Bool.true_or, ↓wList, ↓eLc, ↓rLenA, ↓sFor, ↓sWhile, ↓wRng1, ↓wRng2, ↓wTup, Bool.not_true, Bool.not_false, Bool.false_eq_true, ↓reduceIte, Bool.not_not])
  have h2 : r.toNat < xs.length := by omega
  have z : atI xs ((r.toNat : Nat) : Int) = some xs[r.toNat] := atI_nat' (List.getElem?_eq_getElem h2)
  have e : ((r.toNat : Nat) : Int) = r := by omega
  rw [e] at z
  exact ⟨xs, xs[r.toNat], rfl, z, k _ _ (List.getElem_mem h2) gl'⟩
/-! ### _law_same -/
abbrev s__law_same : Stmt := topS 15
theorem sc__law_same : FnScope ["told", "due", "at"] ["told", "due"] (defScope s__law_same) := ⟨rfl, rfl, rfl, by decide +kernel, rfl, by decide +kernel, by decide +kernel⟩
theorem bd__law_same (kV doc pm : Value) (an : Option Addr) (cdv ct : Value) (us : List Value) (hl : us.length = (["told", "due"] : List Str).length) : bindArgs (PySem.W.fnOf "_law_same" "_law_same" (defArgs s__law_same) (defBody s__law_same) (defScope s__law_same) .none kV doc pm an cdv ct) ⟨us, []⟩ = pure ((["told", "due"] : List Str).zip us) :=
  match us, hl with | [_, _], _ => rfl
def sp__law_same (n : Nat) : SpA := fun as S P => ∃ t d : A, as = [t, d] ∧ nr t = true ∧ nr d = true ∧ dle n d = true ∧ ∀ b : Bool, (b = true ↔ t = d) → P (.bl b) S
theorem sp_none__law_same (as : List A) (S : Sto) (P : A → Sto → Prop) : ¬ sp__law_same 0 as S P := by
  rintro ⟨t, d, _, _, _, h, _⟩
  cases h
--len by rintro as S P ⟨_, _, rfl, _⟩; rfl
theorem got__law_same {P : Program} {w : World} {K : PySem.W.Frag} {mg : Str → Option Value} {base : Heap} {f__law_same : Addr} {k n : Nat} (B : Bi mg) (D : Def K mg "_law_same" s__law_same f__law_same) (G__law_same : Got P w K mg base k ["told", "due"] "_law_same" s__law_same f__law_same (sp__law_same n)) :
    Got P w K mg base (k + 1) ["told", "due"] "_law_same" s__law_same f__law_same (sp__law_same (n + 1)) := by
  refine got_of D sc__law_same (by rintro as S P ⟨_, _, rfl, _⟩; rfl) (bd__law_same) (fun cdv A0 outer s0_ H E hr => ⟨_, (sb_cons (sa_if (tt_w (tw_or (tt_cmp oa_is (ea_var 1) ea_non) (tw_or (tt_cmp oa_is (ea_var 1) ea_bl) (tw_or1 (tt_cmp oa_is (ea_var 1) ea_bl))))) (sb_one (sa_ret (ea_if (tt_cmp oa_is (ea_var 1) ea_non) (ea_cmp oa_is (ea_var 0) ea_non) (ea_if (tt_cmp oa_is (ea_var 1) ea_bl) (ea_cmp oa_is (ea_var 0) ea_bl) (ea_cmp oa_is (ea_var 0) ea_bl))))) sb_nil)
      (sb_cons (sa_if (tt_val (ea_callB cx_isiT B.isinstance_ (la_cons (ea_var 1) (la_cons (ea_tup (la_cons (ea_ty "list" B.list_) (la_cons (ea_ty "tuple" B.tuple_) la_nil))) la_nil)))) (sb_cons (sa_if (tt_w (tw_or (tt_w (tw_and (tt_not (tt_val (ea_callB cx_isi B.isinstance_ (la_cons (ea_var 0) (la_cons (ea_ty "list" B.list_) la_nil))))) (tw_and1 (tt_val (ea_callB cx_isi B.isinstance_ (la_cons (ea_var 1) (la_cons (ea_ty "list" B.list_) la_nil))))))) (tw_or1 (tt_w (tw_and (tt_not (tt_val (ea_callB cx_isi B.isinstance_ (la_cons (ea_var 0) (la_cons (ea_ty "tuple" B.tuple_) la_nil))))) (tw_and1 (tt_val (ea_callB cx_isi B.isinstance_ (la_cons (ea_var 1) (la_cons (ea_ty "tuple" B.tuple_) la_nil)))))))))) (sb_one (sa_ret ea_bl)) sb_nil)
      (sb_one (sa_ret (ea_and (ea_cmp (oa_eq hr.units) (ea_callB cx_len B.len_ (la_cons (ea_var 0) la_nil)) (ea_callB cx_len B.len_ (la_cons (ea_var 1) la_nil))) (ea_one (ea_cmp (oa_eq hr.units) (ea_lc [("at", 2)] sc__law_same.nd (ia_rng1 B.range_ (la_cons (ea_callB cx_len B.len_ (la_cons (ea_var 1) la_nil)) la_nil)) (by kernel_rfl) (fun _ _ _ _ _ => (ga_name 2 sc__law_same.nd)) (fun _ _ _ _ _ => (tsa_one (tt_not (tt_val (ea_call G__law_same (hr.mono (by omega)) (la_cons (ea_ix (ea_var 0) (ea_var 2)) (la_cons (ea_ix (ea_var 1) (ea_var 2)) la_nil))))))) (fun _ _ _ _ _ => (ea_var 2))) (ea_lst la_nil))))))) sb_nil)
      (sb_cons (sa_if (tt_val (ea_callB cx_isi B.isinstance_ (la_cons (ea_var 1) (la_cons (ea_ty "int" B.int_) la_nil)))) (sb_one (sa_ret (ea_and (ea_callB cx_isi B.isinstance_ (la_cons (ea_var 0) (la_cons (ea_ty "int" B.int_) la_nil))) (ea_and (ea_not (ea_callB cx_isi B.isinstance_ (la_cons (ea_var 0) (la_cons (ea_ty "bool" B.bool_) la_nil)))) (ea_one (ea_cmp (oa_eq hr.units) (ea_var 0) (ea_var 1))))))) sb_nil)
      (sb_one (sa_ret (ea_and (ea_callB cx_isi B.isinstance_ (la_cons (ea_var 0) (la_cons (ea_ty "str" B.str_) la_nil))) (ea_one (ea_cmp (oa_eq hr.units) (ea_var 0) (ea_var 1))))))))), fun as S P h => ?_⟩)
  obtain ⟨t, d, rfl, nt, nd, dd, k⟩ := h
  have kd : kn S d := kn_nr nd
  have kt : kn S t := kn_nr nt
  -- two rows of items
  have items : ∀ (xs ys : List A), nrs xs = true → nrs ys = true → ys.all (dle n) = true → ∀ (i : Nat) (x y : A) (Q : A → Sto → Prop), xs[i]? = some x → ys[i]? = some y → (∀ b : Bool, (b = true ↔ x = y) → Q (.bl b) S) → sp__law_same n [x, y] S Q := by
    intro xs ys hx hy hd i x y Q ex ey q
    exact ⟨x, y, rfl, nrs_mem hx (List.mem_of_getElem? ex), nrs_mem hy (List.mem_of_getElem? ey), List.all_eq_true.mp hd y (List.mem_of_getElem? ey), q⟩
  (try simp only [startN, List.map_cons, List.map_nil, List.length_cons, List.length_nil, Nat.reduceAdd, Nat.reduceSub, Nat.zero_add, Nat.sub_self, List.replicate_succ, List.replicate_zero, List.reduceReplicate, List.cons_append, List.nil_append, List.append_nil, ↓sRet, ↓sRetN, ↓sSeq, ↓sNil, ↓sIf, ↓sSet, ↓sPar, ↓sDrop, ↓sSetL, ↓eAnd, ↓eOr, ↓eNot, ↓eIf, ↓eNeg, ↓eCall, ↓eCallK, ↓eCallV, ↓lCons, ↓lNil, ↓eVar, ↓eC, ↓eTup, ↓eLst, ↓eLstC, ↓eOp, ↓eSl, ↓oNo, ↓oPart, ↓eBits, ↓tBool, ↓tAndA, ↓tOrA, ↓tNotA, ↓List.getElem?_cons_zero, ↓List.getElem?_cons_succ, ↓List.set_cons_zero, ↓List.set_cons_succ, ↓rInt, ↓rInt0, ↓rAddA, ↓rEqA, ↓rIsA, ↓rMax2A, ↓rMin2A, ↓rIntA, ↓rAbsA, bsel_true, bsel_false, wipeN, gNm, tYesA, ↓isNon, ↓isBlOf, ↓isI, ↓isB, ↓isS, ↓isT, ↓isL, Bool.or_false, Bool.or_true, Bool.false_or, Bool.true_or, ↓wList, ↓eLc, ↓rLenA, ↓sFor, ↓sWhile, ↓wRng1, ↓wRng2, ↓wTup, Bool.not_true, Bool.not_false, Bool.false_eq_true, ↓reduceIte, Bool.not_not])
  cases d with
  | non =>
    (try simp only [startN, List.map_cons, List.map_nil, List.length_cons, List.length_nil, Nat.reduceAdd, Nat.reduceSub, Nat.zero_add, Nat.sub_self, List.replicate_succ, List.replicate_zero, List.reduceReplicate, List.cons_append, List.nil_append, List.append_nil, ↓sRet, ↓sRetN, ↓sSeq, ↓sNil, ↓sIf, ↓sSet, ↓sPar, ↓sDrop, ↓sSetL, ↓eAnd, ↓eOr, ↓eNot, ↓eIf, ↓eNeg, ↓eCall, ↓eCallK, ↓eCallV, ↓lCons, ↓lNil, ↓eVar, ↓eC, ↓eTup, ↓eLst, ↓eLstC, ↓eOp, ↓eSl, ↓oNo, ↓oPart, ↓eBits, ↓tBool, ↓tAndA, ↓tOrA, ↓tNotA, ↓List.getElem?_cons_zero, ↓List.getElem?_cons_succ, ↓List.set_cons_zero, ↓List.set_cons_succ, ↓rInt, ↓rInt0, ↓rAddA, ↓rEqA, ↓rIsA, ↓rMax2A, ↓rMin2A, ↓rIntA, ↓rAbsA, bsel_true, bsel_false, wipeN, gNm, tYesA, ↓isNon, ↓isBlOf, ↓isI, ↓isB, ↓isS, ↓isT, ↓isL, Bool.or_false, Bool.or_true, Bool.false_or, Bool.true_or, ↓wList, ↓eLc, ↓rLenA, ↓sFor, ↓sWhile, ↓wRng1, ↓wRng2, ↓wTup, Bool.not_true, Bool.not_false, Bool.false_eq_true, ↓reduceIte, Bool.not_not])
    exact k _ (by cases t <;> simp [isNon])
  | bl c =>
    cases c
    · (try simp only [startN, List.map_cons, List.map_nil, List.length_cons, List.length_nil, Nat.reduceAdd, Nat.reduceSub, Nat.zero_add, Nat.sub_self, List.replicate_succ, List.replicate_zero, List.reduceReplicate, List.cons_append, List.nil_append, List.append_nil, ↓sRet, ↓sRetN, ↓sSeq, ↓sNil, ↓sIf, ↓sSet, ↓sPar, ↓sDrop, ↓sSetL, ↓eAnd, ↓eOr, ↓eNot, ↓eIf, ↓eNeg, ↓eCall, ↓eCallK, ↓eCallV, ↓lCons, ↓lNil, ↓eVar, ↓eC, ↓eTup, ↓eLst, ↓eLstC, ↓eOp, ↓eSl, ↓oNo, ↓oPart, ↓eBits, ↓tBool, ↓tAndA, ↓tOrA, ↓tNotA, ↓List.getElem?_cons_zero, ↓List.getElem?_cons_succ, ↓List.set_cons_zero, ↓List.set_cons_succ, ↓rInt, ↓rInt0, ↓rAddA, ↓rEqA, ↓rIsA, ↓rMax2A, ↓rMin2A, ↓rIntA, ↓rAbsA, bsel_true, bsel_false, wipeN, gNm, tYesA, ↓isNon, ↓isBlOf, ↓isI, ↓isB, ↓isS, ↓isT, ↓isL, Bool.or_false, Bool.or_true, Bool.false_or, Bool.true_or, ↓wList, ↓eLc, ↓rLenA, ↓sFor, ↓sWhile, ↓wRng1, ↓wRng2, ↓wTup, Bool.not_true, Bool.not_false, Bool.false_eq_true, ↓reduceIte, Bool.not_not])
      exact k _ (by cases t <;> simp [isBlOf])
    · (try simp only [startN, List.map_cons, List.map_nil, List.length_cons, List.length_nil, Nat.reduceAdd, Nat.reduceSub, Nat.zero_add, Nat.sub_self, List.replicate_succ, List.replicate_zero, List.reduceReplicate, List.cons_append, List.nil_append, List.append_nil, ↓sRet, ↓sRetN, ↓sSeq, ↓sNil, ↓sIf, ↓sSet, ↓sPar, ↓sDrop, ↓sSetL, ↓eAnd, ↓eOr, ↓eNot, ↓eIf, ↓eNeg, ↓eCall, ↓eCallK, ↓eCallV, ↓lCons, ↓lNil, ↓eVar, ↓eC, ↓eTup, ↓eLst, ↓eLstC, ↓eOp, ↓eSl, ↓oNo, ↓oPart, ↓eBits, ↓tBool, ↓tAndA, ↓tOrA, ↓tNotA, ↓List.getElem?_cons_zero, ↓List.getElem?_cons_succ, ↓List.set_cons_zero, ↓List.set_cons_succ, ↓rInt, ↓rInt0, ↓rAddA, ↓rEqA, ↓rIsA, ↓rMax2A, ↓rMin2A, ↓rIntA, ↓rAbsA, bsel_true, bsel_false, wipeN, gNm, tYesA, ↓isNon, ↓isBlOf, ↓isI, ↓isB, ↓isS, ↓isT, ↓isL, Bool.or_false, Bool.or_true, Bool.false_or, Bool.true_or, ↓wList, ↓eLc, ↓rLenA, ↓sFor, ↓sWhile, ↓wRng1, ↓wRng2, ↓wTup, Bool.not_true, Bool.not_false, Bool.false_eq_true, ↓reduceIte, Bool.not_not])
      exact k _ (by cases t <;> simp [isBlOf])
  | ref _ => cases nd
  | ty _ => cases nd
  | int i =>
    (try simp only [startN, List.map_cons, List.map_nil, List.length_cons, List.length_nil, Nat.reduceAdd, Nat.reduceSub, Nat.zero_add, Nat.sub_self, List.replicate_succ, List.replicate_zero, List.reduceReplicate, List.cons_append, List.nil_append, List.append_nil, ↓sRet, ↓sRetN, ↓sSeq, ↓sNil, ↓sIf, ↓sSet, ↓sPar, ↓sDrop, ↓sSetL, ↓eAnd, ↓eOr, ↓eNot, ↓eIf, ↓eNeg, ↓eCall, ↓eCallK, ↓eCallV, ↓lCons, ↓lNil, ↓eVar, ↓eC, ↓eTup, ↓eLst, ↓eLstC, ↓eOp, ↓eSl, ↓oNo, ↓oPart, ↓eBits, ↓tBool, ↓tAndA, ↓tOrA, ↓tNotA, ↓List.getElem?_cons_zero, ↓List.getElem?_cons_succ, ↓List.set_cons_zero, ↓List.set_cons_succ, ↓rInt, ↓rInt0, ↓rAddA, ↓rEqA, ↓rIsA, ↓rMax2A, ↓rMin2A, ↓rIntA, ↓rAbsA, bsel_true, bsel_false, wipeN, gNm, tYesA, ↓isNon, ↓isBlOf, ↓isI, ↓isB, ↓isS, ↓isT, ↓isL, Bool.or_false, Bool.or_true, Bool.false_or, Bool.true_or, ↓wList, ↓eLc, ↓rLenA, ↓sFor, ↓sWhile, ↓wRng1, ↓wRng2, ↓wTup, Bool.not_true, Bool.not_false, Bool.false_eq_true, ↓reduceIte, Bool.not_not])
    refine isi_lt kd ?_
    (try simp only [startN, List.map_cons, List.map_nil, List.length_cons, List.length_nil, Nat.reduceAdd, Nat.reduceSub, Nat.zero_add, Nat.sub_self, List.replicate_succ, List.replicate_zero, List.reduceReplicate, List.cons_append, List.nil_append, List.append_nil, ↓sRet, ↓sRetN, ↓sSeq, ↓sNil, ↓sIf, ↓sSet, ↓sPar, ↓sDrop, ↓sSetL, ↓eAnd, ↓eOr, ↓eNot, ↓eIf, ↓eNeg, ↓eCall, ↓eCallK, ↓eCallV, ↓lCons, ↓lNil, ↓eVar, ↓eC, ↓eTup, ↓eLst, ↓eLstC, ↓eOp, ↓eSl, ↓oNo, ↓oPart, ↓eBits, ↓tBool, ↓tAndA, ↓tOrA, ↓tNotA, ↓List.getElem?_cons_zero, ↓List.getElem?_cons_succ, ↓List.set_cons_zero, ↓List.set_cons_succ, ↓rInt, ↓rInt0, ↓rAddA, ↓rEqA, ↓rIsA, ↓rMax2A, ↓rMin2A, ↓rIntA, ↓rAbsA, bsel_true, bsel_false, wipeN, gNm, tYesA, ↓isNon, ↓isBlOf, ↓isI, ↓isB, ↓isS, ↓isT, ↓isL, Bool.or_false, Bool.or_true, Bool.false_or, Bool.true_or, ↓wList, ↓eLc, ↓rLenA, ↓sFor, ↓sWhile, ↓wRng1, ↓wRng2, ↓wTup, Bool.not_true, Bool.not_false, Bool.false_eq_true, ↓reduceIte, Bool.not_not])
    refine isi_int kd ?_
    (try simp only [startN, List.map_cons, List.map_nil, List.length_cons, List.length_nil, Nat.reduceAdd, Nat.reduceSub, Nat.zero_add, Nat.sub_self, List.replicate_succ, List.replicate_zero, List.reduceReplicate, List.cons_append, List.nil_append, List.append_nil, ↓sRet, ↓sRetN, ↓sSeq, ↓sNil, ↓sIf, ↓sSet, ↓sPar, ↓sDrop, ↓sSetL, ↓eAnd, ↓eOr, ↓eNot, ↓eIf, ↓eNeg, ↓eCall, ↓eCallK, ↓eCallV, ↓lCons, ↓lNil, ↓eVar, ↓eC, ↓eTup, ↓eLst, ↓eLstC, ↓eOp, ↓eSl, ↓oNo, ↓oPart, ↓eBits, ↓tBool, ↓tAndA, ↓tOrA, ↓tNotA, ↓List.getElem?_cons_zero, ↓List.getElem?_cons_succ, ↓List.set_cons_zero, ↓List.set_cons_succ, ↓rInt, ↓rInt0, ↓rAddA, ↓rEqA, ↓rIsA, ↓rMax2A, ↓rMin2A, ↓rIntA, ↓rAbsA, bsel_true, bsel_false, wipeN, gNm, tYesA, ↓isNon, ↓isBlOf, ↓isI, ↓isB, ↓isS, ↓isT, ↓isL, Bool.or_false, Bool.or_true, Bool.false_or, Bool.true_or, ↓wList, ↓eLc, ↓rLenA, ↓sFor, ↓sWhile, ↓wRng1, ↓wRng2, ↓wTup, Bool.not_true, Bool.not_false, Bool.false_eq_true, ↓reduceIte, Bool.not_not])
    refine isi_int kt ?_
    cases t with
    | int j =>
      (try simp only [startN, List.map_cons, List.map_nil, List.length_cons, List.length_nil, Nat.reduceAdd, Nat.reduceSub, Nat.zero_add, Nat.sub_self, List.replicate_succ, List.replicate_zero, List.reduceReplicate, List.cons_append, List.nil_append, List.append_nil, ↓sRet, ↓sRetN, ↓sSeq, ↓sNil, ↓sIf, ↓sSet, ↓sPar, ↓sDrop, ↓sSetL, ↓eAnd, ↓eOr, ↓eNot, ↓eIf, ↓eNeg, ↓eCall, ↓eCallK, ↓eCallV, ↓lCons, ↓lNil, ↓eVar, ↓eC, ↓eTup, ↓eLst, ↓eLstC, ↓eOp, ↓eSl, ↓oNo, ↓oPart, ↓eBits, ↓tBool, ↓tAndA, ↓tOrA, ↓tNotA, ↓List.getElem?_cons_zero, ↓List.getElem?_cons_succ, ↓List.set_cons_zero, ↓List.set_cons_succ, ↓rInt, ↓rInt0, ↓rAddA, ↓rEqA, ↓rIsA, ↓rMax2A, ↓rMin2A, ↓rIntA, ↓rAbsA, bsel_true, bsel_false, wipeN, gNm, tYesA, ↓isNon, ↓isBlOf, ↓isI, ↓isB, ↓isS, ↓isT, ↓isL, Bool.or_false, Bool.or_true, Bool.false_or, Bool.true_or, ↓wList, ↓eLc, ↓rLenA, ↓sFor, ↓sWhile, ↓wRng1, ↓wRng2, ↓wTup, Bool.not_true, Bool.not_false, Bool.false_eq_true, ↓reduceIte, Bool.not_not])
      refine isi_bool kt ?_
      (try simp only [startN, List.map_cons, List.map_nil, List.length_cons, List.length_nil, Nat.reduceAdd, Nat.reduceSub, Nat.zero_add, Nat.sub_self, List.replicate_succ, List.replicate_zero, List.reduceReplicate, List.cons_append, List.nil_append, List.append_nil, ↓sRet, ↓sRetN, ↓sSeq, ↓sNil, ↓sIf, ↓sSet, ↓sPar, ↓sDrop, ↓sSetL, ↓eAnd, ↓eOr, ↓eNot, ↓eIf, ↓eNeg, ↓eCall, ↓eCallK, ↓eCallV, ↓lCons, ↓lNil, ↓eVar, ↓eC, ↓eTup, ↓eLst, ↓eLstC, ↓eOp, ↓eSl, ↓oNo, ↓oPart, ↓eBits, ↓tBool, ↓tAndA, ↓tOrA, ↓tNotA, ↓List.getElem?_cons_zero, ↓List.getElem?_cons_succ, ↓List.set_cons_zero, ↓List.set_cons_succ, ↓rInt, ↓rInt0, ↓rAddA, ↓rEqA, ↓rIsA, ↓rMax2A, ↓rMin2A, ↓rIntA, ↓rAbsA, bsel_true, bsel_false, wipeN, gNm, tYesA, ↓isNon, ↓isBlOf, ↓isI, ↓isB, ↓isS, ↓isT, ↓isL, Bool.or_false, Bool.or_true, Bool.false_or, Bool.true_or, ↓wList, ↓eLc, ↓rLenA, ↓sFor, ↓sWhile, ↓wRng1, ↓wRng2, ↓wTup, Bool.not_true, Bool.not_false, Bool.false_eq_true, ↓reduceIte, Bool.not_not])
      exact k _ (by simp)
    | bl j =>
      (try simp only [startN, List.map_cons, List.map_nil, List.length_cons, List.length_nil, Nat.reduceAdd, Nat.reduceSub, Nat.zero_add, Nat.sub_self, List.replicate_succ, List.replicate_zero, List.reduceReplicate, List.cons_append, List.nil_append, List.append_nil, ↓sRet, ↓sRetN, ↓sSeq, ↓sNil, ↓sIf, ↓sSet, ↓sPar, ↓sDrop, ↓sSetL, ↓eAnd, ↓eOr, ↓eNot, ↓eIf, ↓eNeg, ↓eCall, ↓eCallK, ↓eCallV, ↓lCons, ↓lNil, ↓eVar, ↓eC, ↓eTup, ↓eLst, ↓eLstC, ↓eOp, ↓eSl, ↓oNo, ↓oPart, ↓eBits, ↓tBool, ↓tAndA, ↓tOrA, ↓tNotA, ↓List.getElem?_cons_zero, ↓List.getElem?_cons_succ, ↓List.set_cons_zero, ↓List.set_cons_succ, ↓rInt, ↓rInt0, ↓rAddA, ↓rEqA, ↓rIsA, ↓rMax2A, ↓rMin2A, ↓rIntA, ↓rAbsA, bsel_true, bsel_false, wipeN, gNm, tYesA, ↓isNon, ↓isBlOf, ↓isI, ↓isB, ↓isS, ↓isT, ↓isL, Bool.or_false, Bool.or_true, Bool.false_or, Bool.true_or, ↓wList, ↓eLc, ↓rLenA, ↓sFor, ↓sWhile, ↓wRng1, ↓wRng2, ↓wTup, Bool.not_true, Bool.not_false, Bool.false_eq_true, ↓reduceIte, Bool.not_not])
      refine isi_bool kt ?_
      (try simp only [startN, List.map_cons, List.map_nil, List.length_cons, List.length_nil, Nat.reduceAdd, Nat.reduceSub, Nat.zero_add, Nat.sub_self, List.replicate_succ, List.replicate_zero, List.reduceReplicate, List.cons_append, List.nil_append, List.append_nil, ↓sRet, ↓sRetN, ↓sSeq, ↓sNil, ↓sIf, ↓sSet, ↓sPar, ↓sDrop, ↓sSetL, ↓eAnd, ↓eOr, ↓eNot, ↓eIf, ↓eNeg, ↓eCall, ↓eCallK, ↓eCallV, ↓lCons, ↓lNil, ↓eVar, ↓eC, ↓eTup, ↓eLst, ↓eLstC, ↓eOp, ↓eSl, ↓oNo, ↓oPart, ↓eBits, ↓tBool, ↓tAndA, ↓tOrA, ↓tNotA, ↓List.getElem?_cons_zero, ↓List.getElem?_cons_succ, ↓List.set_cons_zero, ↓List.set_cons_succ, ↓rInt, ↓rInt0, ↓rAddA, ↓rEqA, ↓rIsA, ↓rMax2A, ↓rMin2A, ↓rIntA, ↓rAbsA, bsel_true, bsel_false, wipeN, gNm, tYesA, ↓isNon, ↓isBlOf, ↓isI, ↓isB, ↓isS, ↓isT, ↓isL, Bool.or_false, Bool.or_true, Bool.false_or, Bool.true_or, ↓wList, ↓eLc, ↓rLenA, ↓sFor, ↓sWhile, ↓wRng1, ↓wRng2, ↓wTup, Bool.not_true, Bool.not_false, Bool.false_eq_true, ↓reduceIte, Bool.not_not])
      exact k _ (by simp)
    | _ => (try simp only [startN, List.map_cons, List.map_nil, List.length_cons, List.length_nil, Nat.reduceAdd, Nat.reduceSub, Nat.zero_add, Nat.sub_self, List.replicate_succ, List.replicate_zero, List.reduceReplicate, List.cons_append, List.nil_append, List.append_nil, ↓sRet, ↓sRetN, ↓sSeq, ↓sNil, ↓sIf, ↓sSet, ↓sPar, ↓sDrop, ↓sSetL, ↓eAnd, ↓eOr, ↓eNot, ↓eIf, ↓eNeg, ↓eCall, ↓eCallK, ↓eCallV, ↓lCons, ↓lNil, ↓eVar, ↓eC, ↓eTup, ↓eLst, ↓eLstC, ↓eOp, ↓eSl, ↓oNo, ↓oPart, ↓eBits, ↓tBool, ↓tAndA, ↓tOrA, ↓tNotA, ↓List.getElem?_cons_zero, ↓List.getElem?_cons_succ, ↓List.set_cons_zero, ↓List.set_cons_succ, ↓rInt, ↓rInt0, ↓rAddA, ↓rEqA, ↓rIsA, ↓rMax2A, ↓rMin2A, ↓rIntA, ↓rAbsA, bsel_true, bsel_false, wipeN, gNm, tYesA, ↓isNon, ↓isBlOf, ↓isI, ↓isB, ↓isS, ↓isT, ↓isL, Bool.or_false, Bool.or_true, Bool.false_or, Bool.true_or, ↓wList, ↓eLc, ↓rLenA, ↓sFor, ↓sWhile, ↓wRng1, ↓wRng2, ↓wTup, Bool.not_true, Bool.not_false, Bool.false_eq_true, ↓reduceIte, Bool.not_not]); exact k _ (by simp)
  | str i =>
    (try simp only [startN, List.map_cons, List.map_nil, List.length_cons, List.length_nil, Nat.reduceAdd, Nat.reduceSub, Nat.zero_add, Nat.sub_self, List.replicate_succ, List.replicate_zero, List.reduceReplicate, List.cons_append, List.nil_append, List.append_nil, ↓sRet, ↓sRetN, ↓sSeq, ↓sNil, ↓sIf, ↓sSet, ↓sPar, ↓sDrop, ↓sSetL, ↓eAnd, ↓eOr, ↓eNot, ↓eIf, ↓eNeg, ↓eCall, ↓eCallK, ↓eCallV, ↓lCons, ↓lNil, ↓eVar, ↓eC, ↓eTup, ↓eLst, ↓eLstC, ↓eOp, ↓eSl, ↓oNo, ↓oPart, ↓eBits, ↓tBool, ↓tAndA, ↓tOrA, ↓tNotA, ↓List.getElem?_cons_zero, ↓List.getElem?_cons_succ, ↓List.set_cons_zero, ↓List.set_cons_succ, ↓rInt, ↓rInt0, ↓rAddA, ↓rEqA, ↓rIsA, ↓rMax2A, ↓rMin2A, ↓rIntA, ↓rAbsA, bsel_true, bsel_false, wipeN, gNm, tYesA, ↓isNon, ↓isBlOf, ↓isI, ↓isB, ↓isS, ↓isT, ↓isL, Bool.or_false, Bool.or_true, Bool.false_or, Bool.true_or, ↓wList, ↓eLc, ↓rLenA, ↓sFor, ↓sWhile, ↓wRng1, ↓wRng2, ↓wTup, Bool.not_true, Bool.not_false, Bool.false_eq_true, ↓reduceIte, Bool.not_not])
    refine isi_lt kd ?_
    (try simp only [startN, List.map_cons, List.map_nil, List.length_cons, List.length_nil, Nat.reduceAdd, Nat.reduceSub, Nat.zero_add, Nat.sub_self, List.replicate_succ, List.replicate_zero, List.reduceReplicate, List.cons_append, List.nil_append, List.append_nil, ↓sRet, ↓sRetN, ↓sSeq, ↓sNil, ↓sIf, ↓sSet, ↓sPar, ↓sDrop, ↓sSetL, ↓eAnd, ↓eOr, ↓eNot, ↓eIf, ↓eNeg, ↓eCall, ↓eCallK, ↓eCallV, ↓lCons, ↓lNil, ↓eVar, ↓eC, ↓eTup, ↓eLst, ↓eLstC, ↓eOp, ↓eSl, ↓oNo, ↓oPart, ↓eBits, ↓tBool, ↓tAndA, ↓tOrA, ↓tNotA, ↓List.getElem?_cons_zero, ↓List.getElem?_cons_succ, ↓List.set_cons_zero, ↓List.set_cons_succ, ↓rInt, ↓rInt0, ↓rAddA, ↓rEqA, ↓rIsA, ↓rMax2A, ↓rMin2A, ↓rIntA, ↓rAbsA, bsel_true, bsel_false, wipeN, gNm, tYesA, ↓isNon, ↓isBlOf, ↓isI, ↓isB, ↓isS, ↓isT, ↓isL, Bool.or_false, Bool.or_true, Bool.false_or, Bool.true_or, ↓wList, ↓eLc, ↓rLenA, ↓sFor, ↓sWhile, ↓wRng1, ↓wRng2, ↓wTup, Bool.not_true, Bool.not_false, Bool.false_eq_true, ↓reduceIte, Bool.not_not])
    refine isi_int kd ?_
    (try simp only [startN, List.map_cons, List.map_nil, List.length_cons, List.length_nil, Nat.reduceAdd, Nat.reduceSub, Nat.zero_add, Nat.sub_self, List.replicate_succ, List.replicate_zero, List.reduceReplicate, List.cons_append, List.nil_append, List.append_nil, ↓sRet, ↓sRetN, ↓sSeq, ↓sNil, ↓sIf, ↓sSet, ↓sPar, ↓sDrop, ↓sSetL, ↓eAnd, ↓eOr, ↓eNot, ↓eIf, ↓eNeg, ↓eCall, ↓eCallK, ↓eCallV, ↓lCons, ↓lNil, ↓eVar, ↓eC, ↓eTup, ↓eLst, ↓eLstC, ↓eOp, ↓eSl, ↓oNo, ↓oPart, ↓eBits, ↓tBool, ↓tAndA, ↓tOrA, ↓tNotA, ↓List.getElem?_cons_zero, ↓List.getElem?_cons_succ, ↓List.set_cons_zero, ↓List.set_cons_succ, ↓rInt, ↓rInt0, ↓rAddA, ↓rEqA, ↓rIsA, ↓rMax2A, ↓rMin2A, ↓rIntA, ↓rAbsA, bsel_true, bsel_false, wipeN, gNm, tYesA, ↓isNon, ↓isBlOf, ↓isI, ↓isB, ↓isS, ↓isT, ↓isL, Bool.or_false, Bool.or_true, Bool.false_or, Bool.true_or, ↓wList, ↓eLc, ↓rLenA, ↓sFor, ↓sWhile, ↓wRng1, ↓wRng2, ↓wTup, Bool.not_true, Bool.not_false, Bool.false_eq_true, ↓reduceIte, Bool.not_not])
    refine isi_str kt ?_
    cases t with
    | str j =>
      (try simp only [startN, List.map_cons, List.map_nil, List.length_cons, List.length_nil, Nat.reduceAdd, Nat.reduceSub, Nat.zero_add, Nat.sub_self, List.replicate_succ, List.replicate_zero, List.reduceReplicate, List.cons_append, List.nil_append, List.append_nil, ↓sRet, ↓sRetN, ↓sSeq, ↓sNil, ↓sIf, ↓sSet, ↓sPar, ↓sDrop, ↓sSetL, ↓eAnd, ↓eOr, ↓eNot, ↓eIf, ↓eNeg, ↓eCall, ↓eCallK, ↓eCallV, ↓lCons, ↓lNil, ↓eVar, ↓eC, ↓eTup, ↓eLst, ↓eLstC, ↓eOp, ↓eSl, ↓oNo, ↓oPart, ↓eBits, ↓tBool, ↓tAndA, ↓tOrA, ↓tNotA, ↓List.getElem?_cons_zero, ↓List.getElem?_cons_succ, ↓List.set_cons_zero, ↓List.set_cons_succ, ↓rInt, ↓rInt0, ↓rAddA, ↓rEqA, ↓rIsA, ↓rMax2A, ↓rMin2A, ↓rIntA, ↓rAbsA, bsel_true, bsel_false, wipeN, gNm, tYesA, ↓isNon, ↓isBlOf, ↓isI, ↓isB, ↓isS, ↓isT, ↓isL, Bool.or_false, Bool.or_true, Bool.false_or, Bool.true_or, ↓wList, ↓eLc, ↓rLenA, ↓sFor, ↓sWhile, ↓wRng1, ↓wRng2, ↓wTup, Bool.not_true, Bool.not_false, Bool.false_eq_true, ↓reduceIte, Bool.not_not])
      exact k _ (by simp)
    | _ => (try simp only [startN, List.map_cons, List.map_nil, List.length_cons, List.length_nil, Nat.reduceAdd, Nat.reduceSub, Nat.zero_add, Nat.sub_self, List.replicate_succ, List.replicate_zero, List.reduceReplicate, List.cons_append, List.nil_append, List.append_nil, ↓sRet, ↓sRetN, ↓sSeq, ↓sNil, ↓sIf, ↓sSet, ↓sPar, ↓sDrop, ↓sSetL, ↓eAnd, ↓eOr, ↓eNot, ↓eIf, ↓eNeg, ↓eCall, ↓eCallK, ↓eCallV, ↓lCons, ↓lNil, ↓eVar, ↓eC, ↓eTup, ↓eLst, ↓eLstC, ↓eOp, ↓eSl, ↓oNo, ↓oPart, ↓eBits, ↓tBool, ↓tAndA, ↓tOrA, ↓tNotA, ↓List.getElem?_cons_zero, ↓List.getElem?_cons_succ, ↓List.set_cons_zero, ↓List.set_cons_succ, ↓rInt, ↓rInt0, ↓rAddA, ↓rEqA, ↓rIsA, ↓rMax2A, ↓rMin2A, ↓rIntA, ↓rAbsA, bsel_true, bsel_false, wipeN, gNm, tYesA, ↓isNon, ↓isBlOf, ↓isI, ↓isB, ↓isS, ↓isT, ↓isL, Bool.or_false, Bool.or_true, Bool.false_or, Bool.true_or, ↓wList, ↓eLc, ↓rLenA, ↓sFor, ↓sWhile, ↓wRng1, ↓wRng2, ↓wTup, Bool.not_true, Bool.not_false, Bool.false_eq_true, ↓reduceIte, Bool.not_not]); exact k _ (by simp)
  | lst ys =>
    (try simp only [startN, List.map_cons, List.map_nil, List.length_cons, List.length_nil, Nat.reduceAdd, Nat.reduceSub, Nat.zero_add, Nat.sub_self, List.replicate_succ, List.replicate_zero, List.reduceReplicate, List.cons_append, List.nil_append, List.append_nil, ↓sRet, ↓sRetN, ↓sSeq, ↓sNil, ↓sIf, ↓sSet, ↓sPar, ↓sDrop, ↓sSetL, ↓eAnd, ↓eOr, ↓eNot, ↓eIf, ↓eNeg, ↓eCall, ↓eCallK, ↓eCallV, ↓lCons, ↓lNil, ↓eVar, ↓eC, ↓eTup, ↓eLst, ↓eLstC, ↓eOp, ↓eSl, ↓oNo, ↓oPart, ↓eBits, ↓tBool, ↓tAndA, ↓tOrA, ↓tNotA, ↓List.getElem?_cons_zero, ↓List.getElem?_cons_succ, ↓List.set_cons_zero, ↓List.set_cons_succ, ↓rInt, ↓rInt0, ↓rAddA, ↓rEqA, ↓rIsA, ↓rMax2A, ↓rMin2A, ↓rIntA, ↓rAbsA, bsel_true, bsel_false, wipeN, gNm, tYesA, ↓isNon, ↓isBlOf, ↓isI, ↓isB, ↓isS, ↓isT, ↓isL, Bool.or_false, Bool.or_true, Bool.false_or, Bool.true_or, ↓wList, ↓eLc, ↓rLenA, ↓sFor, ↓sWhile, ↓wRng1, ↓wRng2, ↓wTup, Bool.not_true, Bool.not_false, Bool.false_eq_true, ↓reduceIte, Bool.not_not])
    refine isi_lt kd ?_
    (try simp only [startN, List.map_cons, List.map_nil, List.length_cons, List.length_nil, Nat.reduceAdd, Nat.reduceSub, Nat.zero_add, Nat.sub_self, List.replicate_succ, List.replicate_zero, List.reduceReplicate, List.cons_append, List.nil_append, List.append_nil, ↓sRet, ↓sRetN, ↓sSeq, ↓sNil, ↓sIf, ↓sSet, ↓sPar, ↓sDrop, ↓sSetL, ↓eAnd, ↓eOr, ↓eNot, ↓eIf, ↓eNeg, ↓eCall, ↓eCallK, ↓eCallV, ↓lCons, ↓lNil, ↓eVar, ↓eC, ↓eTup, ↓eLst, ↓eLstC, ↓eOp, ↓eSl, ↓oNo, ↓oPart, ↓eBits, ↓tBool, ↓tAndA, ↓tOrA, ↓tNotA, ↓List.getElem?_cons_zero, ↓List.getElem?_cons_succ, ↓List.set_cons_zero, ↓List.set_cons_succ, ↓rInt, ↓rInt0, ↓rAddA, ↓rEqA, ↓rIsA, ↓rMax2A, ↓rMin2A, ↓rIntA, ↓rAbsA, bsel_true, bsel_false, wipeN, gNm, tYesA, ↓isNon, ↓isBlOf, ↓isI, ↓isB, ↓isS, ↓isT, ↓isL, Bool.or_false, Bool.or_true, Bool.false_or, Bool.true_or, ↓wList, ↓eLc, ↓rLenA, ↓sFor, ↓sWhile, ↓wRng1, ↓wRng2, ↓wTup, Bool.not_true, Bool.not_false, Bool.false_eq_true, ↓reduceIte, Bool.not_not])
    refine isi_list kt ?_
    cases t with
    | ref _ => cases nt
    | ty _ => cases nt
    | lst xs =>
      (try simp only [startN, List.map_cons, List.map_nil, List.length_cons, List.length_nil, Nat.reduceAdd, Nat.reduceSub, Nat.zero_add, Nat.sub_self, List.replicate_succ, List.replicate_zero, List.reduceReplicate, List.cons_append, List.nil_append, List.append_nil, ↓sRet, ↓sRetN, ↓sSeq, ↓sNil, ↓sIf, ↓sSet, ↓sPar, ↓sDrop, ↓sSetL, ↓eAnd, ↓eOr, ↓eNot, ↓eIf, ↓eNeg, ↓eCall, ↓eCallK, ↓eCallV, ↓lCons, ↓lNil, ↓eVar, ↓eC, ↓eTup, ↓eLst, ↓eLstC, ↓eOp, ↓eSl, ↓oNo, ↓oPart, ↓eBits, ↓tBool, ↓tAndA, ↓tOrA, ↓tNotA, ↓List.getElem?_cons_zero, ↓List.getElem?_cons_succ, ↓List.set_cons_zero, ↓List.set_cons_succ, ↓rInt, ↓rInt0, ↓rAddA, ↓rEqA, ↓rIsA, ↓rMax2A, ↓rMin2A, ↓rIntA, ↓rAbsA, bsel_true, bsel_false, wipeN, gNm, tYesA, ↓isNon, ↓isBlOf, ↓isI, ↓isB, ↓isS, ↓isT, ↓isL, Bool.or_false, Bool.or_true, Bool.false_or, Bool.true_or, ↓wList, ↓eLc, ↓rLenA, ↓sFor, ↓sWhile, ↓wRng1, ↓wRng2, ↓wTup, Bool.not_true, Bool.not_false, Bool.false_eq_true, ↓reduceIte, Bool.not_not])
      refine isi_tuple kt ?_
      (try simp only [startN, List.map_cons, List.map_nil, List.length_cons, List.length_nil, Nat.reduceAdd, Nat.reduceSub, Nat.zero_add, Nat.sub_self, List.replicate_succ, List.replicate_zero, List.reduceReplicate, List.cons_append, List.nil_append, List.append_nil, ↓sRet, ↓sRetN, ↓sSeq, ↓sNil, ↓sIf, ↓sSet, ↓sPar, ↓sDrop, ↓sSetL, ↓eAnd, ↓eOr, ↓eNot, ↓eIf, ↓eNeg, ↓eCall, ↓eCallK, ↓eCallV, ↓lCons, ↓lNil, ↓eVar, ↓eC, ↓eTup, ↓eLst, ↓eLstC, ↓eOp, ↓eSl, ↓oNo, ↓oPart, ↓eBits, ↓tBool, ↓tAndA, ↓tOrA, ↓tNotA, ↓List.getElem?_cons_zero, ↓List.getElem?_cons_succ, ↓List.set_cons_zero, ↓List.set_cons_succ, ↓rInt, ↓rInt0, ↓rAddA, ↓rEqA, ↓rIsA, ↓rMax2A, ↓rMin2A, ↓rIntA, ↓rAbsA, bsel_true, bsel_false, wipeN, gNm, tYesA, ↓isNon, ↓isBlOf, ↓isI, ↓isB, ↓isS, ↓isT, ↓isL, Bool.or_false, Bool.or_true, Bool.false_or, Bool.true_or, ↓wList, ↓eLc, ↓rLenA, ↓sFor, ↓sWhile, ↓wRng1, ↓wRng2, ↓wTup, Bool.not_true, Bool.not_false, Bool.false_eq_true, ↓reduceIte, Bool.not_not])
      refine isi_tuple kd ?_
      (try simp only [startN, List.map_cons, List.map_nil, List.length_cons, List.length_nil, Nat.reduceAdd, Nat.reduceSub, Nat.zero_add, Nat.sub_self, List.replicate_succ, List.replicate_zero, List.reduceReplicate, List.cons_append, List.nil_append, List.append_nil, ↓sRet, ↓sRetN, ↓sSeq, ↓sNil, ↓sIf, ↓sSet, ↓sPar, ↓sDrop, ↓sSetL, ↓eAnd, ↓eOr, ↓eNot, ↓eIf, ↓eNeg, ↓eCall, ↓eCallK, ↓eCallV, ↓lCons, ↓lNil, ↓eVar, ↓eC, ↓eTup, ↓eLst, ↓eLstC, ↓eOp, ↓eSl, ↓oNo, ↓oPart, ↓eBits, ↓tBool, ↓tAndA, ↓tOrA, ↓tNotA, ↓List.getElem?_cons_zero, ↓List.getElem?_cons_succ, ↓List.set_cons_zero, ↓List.set_cons_succ, ↓rInt, ↓rInt0, ↓rAddA, ↓rEqA, ↓rIsA, ↓rMax2A, ↓rMin2A, ↓rIntA, ↓rAbsA, bsel_true, bsel_false, wipeN, gNm, tYesA, ↓isNon, ↓isBlOf, ↓isI, ↓isB, ↓isS, ↓isT, ↓isL, Bool.or_false, Bool.or_true, Bool.false_or, Bool.true_or, ↓wList, ↓eLc, ↓rLenA, ↓sFor, ↓sWhile, ↓wRng1, ↓wRng2, ↓wTup, Bool.not_true, Bool.not_false, Bool.false_eq_true, ↓reduceIte, Bool.not_not])
      refine ⟨xs, rfl, ys, rfl, ?_⟩
      (try simp only [startN, List.map_cons, List.map_nil, List.length_cons, List.length_nil, Nat.reduceAdd, Nat.reduceSub, Nat.zero_add, Nat.sub_self, List.replicate_succ, List.replicate_zero, List.reduceReplicate, List.cons_append, List.nil_append, List.append_nil, ↓sRet, ↓sRetN, ↓sSeq, ↓sNil, ↓sIf, ↓sSet, ↓sPar, ↓sDrop, ↓sSetL, ↓eAnd, ↓eOr, ↓eNot, ↓eIf, ↓eNeg, ↓eCall, ↓eCallK, ↓eCallV, ↓lCons, ↓lNil, ↓eVar, ↓eC, ↓eTup, ↓eLst, ↓eLstC, ↓eOp, ↓eSl, ↓oNo, ↓oPart, ↓eBits, ↓tBool, ↓tAndA, ↓tOrA, ↓tNotA, ↓List.getElem?_cons_zero, ↓List.getElem?_cons_succ, ↓List.set_cons_zero, ↓List.set_cons_succ, ↓rInt, ↓rInt0, ↓rAddA, ↓rEqA, ↓rIsA, ↓rMax2A, ↓rMin2A, ↓rIntA, ↓rAbsA, bsel_true, bsel_false, wipeN, gNm, tYesA, ↓isNon, ↓isBlOf, ↓isI, ↓isB, ↓isS, ↓isT, ↓isL, Bool.or_false, Bool.or_true, Bool.false_or, Bool.true_or, ↓wList, ↓eLc, ↓rLenA, ↓sFor, ↓sWhile, ↓wRng1, ↓wRng2, ↓wTup, Bool.not_true, Bool.not_false, Bool.false_eq_true, ↓reduceIte, Bool.not_not])
      unfold dle at dd
      rw [Bool.and_eq_true] at dd
      have hy1 := of_decide_eq_true dd.2
      refine bsel_i (fun h => ?_) fun h => k _ ?_
      · have hl : xs.length = ys.length := by have := of_decide_eq_true h; omega
        refine ⟨ys, rfl, ⟨by omega, by omega⟩, by rw [rngA_len]; omega, fun i acc S' => S' = S ∧ ∃ ks : List Int, acc = ks.map .int ∧ (ks = [] ↔ ∀ j : Nat, j < i → xs[j]? = ys[j]?), ⟨rfl, [], rfl, by simp⟩, fun _ _ _ _ _ => trivial, ?_, ?_⟩
        · rintro i x acc S' hx ⟨rfl, ks, rfl, hk⟩
          obtain ⟨hi, rfl⟩ := rngA_at hx
          have hi2 : i < ys.length := by omega
          have ex : xs[i]? = some xs[i] := List.getElem?_eq_getElem (by omega)
          have ey : ys[i]? = some ys[i] := List.getElem?_eq_getElem hi2
          (try simp only [startN, List.map_cons, List.map_nil, List.length_cons, List.length_nil, Nat.reduceAdd, Nat.reduceSub, Nat.zero_add, Nat.sub_self, List.replicate_succ, List.replicate_zero, List.reduceReplicate, List.cons_append, List.nil_append, List.append_nil, ↓sRet, ↓sRetN, ↓sSeq, ↓sNil, ↓sIf, ↓sSet, ↓sPar, ↓sDrop, ↓sSetL, ↓eAnd, ↓eOr, ↓eNot, ↓eIf, ↓eNeg, ↓eCall, ↓eCallK, ↓eCallV, ↓lCons, ↓lNil, ↓eVar, ↓eC, ↓eTup, ↓eLst, ↓eLstC, ↓eOp, ↓eSl, ↓oNo, ↓oPart, ↓eBits, ↓tBool, ↓tAndA, ↓tOrA, ↓tNotA, ↓List.getElem?_cons_zero, ↓List.getElem?_cons_succ, ↓List.set_cons_zero, ↓List.set_cons_succ, ↓rInt, ↓rInt0, ↓rAddA, ↓rEqA, ↓rIsA, ↓rMax2A, ↓rMin2A, ↓rIntA, ↓rAbsA, bsel_true, bsel_false, wipeN, gNm, tYesA, ↓isNon, ↓isBlOf, ↓isI, ↓isB, ↓isS, ↓isT, ↓isL, Bool.or_false, Bool.or_true, Bool.false_or, Bool.true_or, ↓wList, ↓eLc, ↓rLenA, ↓sFor, ↓sWhile, ↓wRng1, ↓wRng2, ↓wTup, Bool.not_true, Bool.not_false, Bool.false_eq_true, ↓reduceIte, Bool.not_not])
          rw [Int.zero_add]
          refine ⟨xs, _, rfl, atI_nat' ex, ys, _, rfl, atI_nat' ey, items xs ys nt nd dd.1 i _ _ _ ex ey fun b hb => ?_⟩
          (try simp only [startN, List.map_cons, List.map_nil, List.length_cons, List.length_nil, Nat.reduceAdd, Nat.reduceSub, Nat.zero_add, Nat.sub_self, List.replicate_succ, List.replicate_zero, List.reduceReplicate, List.cons_append, List.nil_append, List.append_nil, ↓sRet, ↓sRetN, ↓sSeq, ↓sNil, ↓sIf, ↓sSet, ↓sPar, ↓sDrop, ↓sSetL, ↓eAnd, ↓eOr, ↓eNot, ↓eIf, ↓eNeg, ↓eCall, ↓eCallK, ↓eCallV, ↓lCons, ↓lNil, ↓eVar, ↓eC, ↓eTup, ↓eLst, ↓eLstC, ↓eOp, ↓eSl, ↓oNo, ↓oPart, ↓eBits, ↓tBool, ↓tAndA, ↓tOrA, ↓tNotA, ↓List.getElem?_cons_zero, ↓List.getElem?_cons_succ, ↓List.set_cons_zero, ↓List.set_cons_succ, ↓rInt, ↓rInt0, ↓rAddA, ↓rEqA, ↓rIsA, ↓rMax2A, ↓rMin2A, ↓rIntA, ↓rAbsA, bsel_true, bsel_false, wipeN, gNm, tYesA, ↓isNon, ↓isBlOf, ↓isI, ↓isB, ↓isS, ↓isT, ↓isL, Bool.or_false, Bool.or_true, Bool.false_or, Bool.true_or, ↓wList, ↓eLc, ↓rLenA, ↓sFor, ↓sWhile, ↓wRng1, ↓wRng2, ↓wTup, Bool.not_true, Bool.not_false, Bool.false_eq_true, ↓reduceIte, Bool.not_not])
          refine bsel_i (fun h => ?_) fun h => ?_
          · refine ⟨trivial, ks ++ [(i : Int)], by rw [List.map_append]; rfl, ?_⟩
            constructor
            · intro z
              exact absurd (List.append_eq_nil_iff.mp z).2 (by simp)
            · intro z
              have e := z i (by omega)
              rw [ex, ey] at e
              rw [hb.mpr (Option.some.inj e)] at h
              cases h
          · refine ⟨trivial, ks, rfl, hk.trans ⟨fun z j hj => ?_, fun z j hj => z j (by omega)⟩⟩
            by_cases hji : j < i
            · exact z j hji
            · have : j = i := by omega
              subst this
              rw [ex, ey, hb.mp (by simpa using h)]
        · rintro acc S' ⟨rfl, ks, rfl, hk⟩
          rw [rngA_len] at hk
          refine rEq_nil (fun _ => ⟨_, pyds_ints ks, shaped_ints ks⟩) (k _ ?_)
          show (ks.map A.int).isEmpty = true ↔ _
          rw [List.isEmpty_iff, List.map_eq_nil_iff, hk]
          constructor
          · intro z
            congr 1
            refine List.ext_getElem? fun j => ?_
            by_cases hj : j < ys.length
            · exact z j (by omega)
            · rw [List.getElem?_eq_none (by omega), List.getElem?_eq_none (by omega)]
          · intro z j hj
            cases z
            rfl
      · have hl := of_decide_eq_false h
        simp only [Bool.false_eq_true, false_iff]
        intro z
        cases z
        exact hl rfl
    | _ =>
      (try simp only [startN, List.map_cons, List.map_nil, List.length_cons, List.length_nil, Nat.reduceAdd, Nat.reduceSub, Nat.zero_add, Nat.sub_self, List.replicate_succ, List.replicate_zero, List.reduceReplicate, List.cons_append, List.nil_append, List.append_nil, ↓sRet, ↓sRetN, ↓sSeq, ↓sNil, ↓sIf, ↓sSet, ↓sPar, ↓sDrop, ↓sSetL, ↓eAnd, ↓eOr, ↓eNot, ↓eIf, ↓eNeg, ↓eCall, ↓eCallK, ↓eCallV, ↓lCons, ↓lNil, ↓eVar, ↓eC, ↓eTup, ↓eLst, ↓eLstC, ↓eOp, ↓eSl, ↓oNo, ↓oPart, ↓eBits, ↓tBool, ↓tAndA, ↓tOrA, ↓tNotA, ↓List.getElem?_cons_zero, ↓List.getElem?_cons_succ, ↓List.set_cons_zero, ↓List.set_cons_succ, ↓rInt, ↓rInt0, ↓rAddA, ↓rEqA, ↓rIsA, ↓rMax2A, ↓rMin2A, ↓rIntA, ↓rAbsA, bsel_true, bsel_false, wipeN, gNm, tYesA, ↓isNon, ↓isBlOf, ↓isI, ↓isB, ↓isS, ↓isT, ↓isL, Bool.or_false, Bool.or_true, Bool.false_or, Bool.true_or, ↓wList, ↓eLc, ↓rLenA, ↓sFor, ↓sWhile, ↓wRng1, ↓wRng2, ↓wTup, Bool.not_true, Bool.not_false, Bool.false_eq_true, ↓reduceIte, Bool.not_not])
      refine isi_list kd ?_
      (try simp only [startN, List.map_cons, List.map_nil, List.length_cons, List.length_nil, Nat.reduceAdd, Nat.reduceSub, Nat.zero_add, Nat.sub_self, List.replicate_succ, List.replicate_zero, List.reduceReplicate, List.cons_append, List.nil_append, List.append_nil, ↓sRet, ↓sRetN, ↓sSeq, ↓sNil, ↓sIf, ↓sSet, ↓sPar, ↓sDrop, ↓sSetL, ↓eAnd, ↓eOr, ↓eNot, ↓eIf, ↓eNeg, ↓eCall, ↓eCallK, ↓eCallV, ↓lCons, ↓lNil, ↓eVar, ↓eC, ↓eTup, ↓eLst, ↓eLstC, ↓eOp, ↓eSl, ↓oNo, ↓oPart, ↓eBits, ↓tBool, ↓tAndA, ↓tOrA, ↓tNotA, ↓List.getElem?_cons_zero, ↓List.getElem?_cons_succ, ↓List.set_cons_zero, ↓List.set_cons_succ, ↓rInt, ↓rInt0, ↓rAddA, ↓rEqA, ↓rIsA, ↓rMax2A, ↓rMin2A, ↓rIntA, ↓rAbsA, bsel_true, bsel_false, wipeN, gNm, tYesA, ↓isNon, ↓isBlOf, ↓isI, ↓isB, ↓isS, ↓isT, ↓isL, Bool.or_false, Bool.or_true, Bool.false_or, Bool.true_or, ↓wList, ↓eLc, ↓rLenA, ↓sFor, ↓sWhile, ↓wRng1, ↓wRng2, ↓wTup, Bool.not_true, Bool.not_false, Bool.false_eq_true, ↓reduceIte, Bool.not_not])
      exact k _ (by simp)
  | tup ys =>
    (try simp only [startN, List.map_cons, List.map_nil, List.length_cons, List.length_nil, Nat.reduceAdd, Nat.reduceSub, Nat.zero_add, Nat.sub_self, List.replicate_succ, List.replicate_zero, List.reduceReplicate, List.cons_append, List.nil_append, List.append_nil, ↓sRet, ↓sRetN, ↓sSeq, ↓sNil, ↓sIf, ↓sSet, ↓sPar, ↓sDrop, ↓sSetL, ↓eAnd, ↓eOr, ↓eNot, ↓eIf, ↓eNeg, ↓eCall, ↓eCallK, ↓eCallV, ↓lCons, ↓lNil, ↓eVar, ↓eC, ↓eTup, ↓eLst, ↓eLstC, ↓eOp, ↓eSl, ↓oNo, ↓oPart, ↓eBits, ↓tBool, ↓tAndA, ↓tOrA, ↓tNotA, ↓List.getElem?_cons_zero, ↓List.getElem?_cons_succ, ↓List.set_cons_zero, ↓List.set_cons_succ, ↓rInt, ↓rInt0, ↓rAddA, ↓rEqA, ↓rIsA, ↓rMax2A, ↓rMin2A, ↓rIntA, ↓rAbsA, bsel_true, bsel_false, wipeN, gNm, tYesA, ↓isNon, ↓isBlOf, ↓isI, ↓isB, ↓isS, ↓isT, ↓isL, Bool.or_false, Bool.or_true, Bool.false_or, Bool.true_or, ↓wList, ↓eLc, ↓rLenA, ↓sFor, ↓sWhile, ↓wRng1, ↓wRng2, ↓wTup, Bool.not_true, Bool.not_false, Bool.false_eq_true, ↓reduceIte, Bool.not_not])
    refine isi_lt kd ?_
    (try simp only [startN, List.map_cons, List.map_nil, List.length_cons, List.length_nil, Nat.reduceAdd, Nat.reduceSub, Nat.zero_add, Nat.sub_self, List.replicate_succ, List.replicate_zero, List.reduceReplicate, List.cons_append, List.nil_append, List.append_nil, ↓sRet, ↓sRetN, ↓sSeq, ↓sNil, ↓sIf, ↓sSet, ↓sPar, ↓sDrop, ↓sSetL, ↓eAnd, ↓eOr, ↓eNot, ↓eIf, ↓eNeg, ↓eCall, ↓eCallK, ↓eCallV, ↓lCons, ↓lNil, ↓eVar, ↓eC, ↓eTup, ↓eLst, ↓eLstC, ↓eOp, ↓eSl, ↓oNo, ↓oPart, ↓eBits, ↓tBool, ↓tAndA, ↓tOrA, ↓tNotA, ↓List.getElem?_cons_zero, ↓List.getElem?_cons_succ, ↓List.set_cons_zero, ↓List.set_cons_succ, ↓rInt, ↓rInt0, ↓rAddA, ↓rEqA, ↓rIsA, ↓rMax2A, ↓rMin2A, ↓rIntA, ↓rAbsA, bsel_true, bsel_false, wipeN, gNm, tYesA, ↓isNon, ↓isBlOf, ↓isI, ↓isB, ↓isS, ↓isT, ↓isL, Bool.or_false, Bool.or_true, Bool.false_or, Bool.true_or, ↓wList, ↓eLc, ↓rLenA, ↓sFor, ↓sWhile, ↓wRng1, ↓wRng2, ↓wTup, Bool.not_true, Bool.not_false, Bool.false_eq_true, ↓reduceIte, Bool.not_not])
    refine isi_list kt ?_
    cases t with
    | ref _ => cases nt
    | ty _ => cases nt
    | tup xs =>
      (try simp only [startN, List.map_cons, List.map_nil, List.length_cons, List.length_nil, Nat.reduceAdd, Nat.reduceSub, Nat.zero_add, Nat.sub_self, List.replicate_succ, List.replicate_zero, List.reduceReplicate, List.cons_append, List.nil_append, List.append_nil, ↓sRet, ↓sRetN, ↓sSeq, ↓sNil, ↓sIf, ↓sSet, ↓sPar, ↓sDrop, ↓sSetL, ↓eAnd, ↓eOr, ↓eNot, ↓eIf, ↓eNeg, ↓eCall, ↓eCallK, ↓eCallV, ↓lCons, ↓lNil, ↓eVar, ↓eC, ↓eTup, ↓eLst, ↓eLstC, ↓eOp, ↓eSl, ↓oNo, ↓oPart, ↓eBits, ↓tBool, ↓tAndA, ↓tOrA, ↓tNotA, ↓List.getElem?_cons_zero, ↓List.getElem?_cons_succ, ↓List.set_cons_zero, ↓List.set_cons_succ, ↓rInt, ↓rInt0, ↓rAddA, ↓rEqA, ↓rIsA, ↓rMax2A, ↓rMin2A, ↓rIntA, ↓rAbsA, bsel_true, bsel_false, wipeN, gNm, tYesA, ↓isNon, ↓isBlOf, ↓isI, ↓isB, ↓isS, ↓isT, ↓isL, Bool.or_false, Bool.or_true, Bool.false_or, Bool.true_or, ↓wList, ↓eLc, ↓rLenA, ↓sFor, ↓sWhile, ↓wRng1, ↓wRng2, ↓wTup, Bool.not_true, Bool.not_false, Bool.false_eq_true, ↓reduceIte, Bool.not_not])
      refine isi_list kd ?_
      (try simp only [startN, List.map_cons, List.map_nil, List.length_cons, List.length_nil, Nat.reduceAdd, Nat.reduceSub, Nat.zero_add, Nat.sub_self, List.replicate_succ, List.replicate_zero, List.reduceReplicate, List.cons_append, List.nil_append, List.append_nil, ↓sRet, ↓sRetN, ↓sSeq, ↓sNil, ↓sIf, ↓sSet, ↓sPar, ↓sDrop, ↓sSetL, ↓eAnd, ↓eOr, ↓eNot, ↓eIf, ↓eNeg, ↓eCall, ↓eCallK, ↓eCallV, ↓lCons, ↓lNil, ↓eVar, ↓eC, ↓eTup, ↓eLst, ↓eLstC, ↓eOp, ↓eSl, ↓oNo, ↓oPart, ↓eBits, ↓tBool, ↓tAndA, ↓tOrA, ↓tNotA, ↓List.getElem?_cons_zero, ↓List.getElem?_cons_succ, ↓List.set_cons_zero, ↓List.set_cons_succ, ↓rInt, ↓rInt0, ↓rAddA, ↓rEqA, ↓rIsA, ↓rMax2A, ↓rMin2A, ↓rIntA, ↓rAbsA, bsel_true, bsel_false, wipeN, gNm, tYesA, ↓isNon, ↓isBlOf, ↓isI, ↓isB, ↓isS, ↓isT, ↓isL, Bool.or_false, Bool.or_true, Bool.false_or, Bool.true_or, ↓wList, ↓eLc, ↓rLenA, ↓sFor, ↓sWhile, ↓wRng1, ↓wRng2, ↓wTup, Bool.not_true, Bool.not_false, Bool.false_eq_true, ↓reduceIte, Bool.not_not])
      refine isi_tuple kt ?_
      (try simp only [startN, List.map_cons, List.map_nil, List.length_cons, List.length_nil, Nat.reduceAdd, Nat.reduceSub, Nat.zero_add, Nat.sub_self, List.replicate_succ, List.replicate_zero, List.reduceReplicate, List.cons_append, List.nil_append, List.append_nil, ↓sRet, ↓sRetN, ↓sSeq, ↓sNil, ↓sIf, ↓sSet, ↓sPar, ↓sDrop, ↓sSetL, ↓eAnd, ↓eOr, ↓eNot, ↓eIf, ↓eNeg, ↓eCall, ↓eCallK, ↓eCallV, ↓lCons, ↓lNil, ↓eVar, ↓eC, ↓eTup, ↓eLst, ↓eLstC, ↓eOp, ↓eSl, ↓oNo, ↓oPart, ↓eBits, ↓tBool, ↓tAndA, ↓tOrA, ↓tNotA, ↓List.getElem?_cons_zero, ↓List.getElem?_cons_succ, ↓List.set_cons_zero, ↓List.set_cons_succ, ↓rInt, ↓rInt0, ↓rAddA, ↓rEqA, ↓rIsA, ↓rMax2A, ↓rMin2A, ↓rIntA, ↓rAbsA, bsel_true, bsel_false, wipeN, gNm, tYesA, ↓isNon, ↓isBlOf, ↓isI, ↓isB, ↓isS, ↓isT, ↓isL, Bool.or_false, Bool.or_true, Bool.false_or, Bool.true_or, ↓wList, ↓eLc, ↓rLenA, ↓sFor, ↓sWhile, ↓wRng1, ↓wRng2, ↓wTup, Bool.not_true, Bool.not_false, Bool.false_eq_true, ↓reduceIte, Bool.not_not])
      unfold dle at dd
      rw [Bool.and_eq_true] at dd
      have hy1 := of_decide_eq_true dd.2
      refine bsel_i (fun h => ?_) fun h => k _ ?_
      · have hl : xs.length = ys.length := by have := of_decide_eq_true h; omega
        refine ⟨⟨by omega, by omega⟩, by rw [rngA_len]; omega, fun i acc S' => S' = S ∧ ∃ ks : List Int, acc = ks.map .int ∧ (ks = [] ↔ ∀ j : Nat, j < i → xs[j]? = ys[j]?), ⟨rfl, [], rfl, by simp⟩, fun _ _ _ _ _ => trivial, ?_, ?_⟩
        · rintro i x acc S' hx ⟨rfl, ks, rfl, hk⟩
          obtain ⟨hi, rfl⟩ := rngA_at hx
          have hi2 : i < ys.length := by omega
          have ex : xs[i]? = some xs[i] := List.getElem?_eq_getElem (by omega)
          have ey : ys[i]? = some ys[i] := List.getElem?_eq_getElem hi2
          (try simp only [startN, List.map_cons, List.map_nil, List.length_cons, List.length_nil, Nat.reduceAdd, Nat.reduceSub, Nat.zero_add, Nat.sub_self, List.replicate_succ, List.replicate_zero, List.reduceReplicate, List.cons_append, List.nil_append, List.append_nil, ↓sRet, ↓sRetN, ↓sSeq, ↓sNil, ↓sIf, ↓sSet, ↓sPar, ↓sDrop, ↓sSetL, ↓eAnd, ↓eOr, ↓eNot, ↓eIf, ↓eNeg, ↓eCall, ↓eCallK, ↓eCallV, ↓lCons, ↓lNil, ↓eVar, ↓eC, ↓eTup, ↓eLst, ↓eLstC, ↓eOp, ↓eSl, ↓oNo, ↓oPart, ↓eBits, ↓tBool, ↓tAndA, ↓tOrA, ↓tNotA, ↓List.getElem?_cons_zero, ↓List.getElem?_cons_succ, ↓List.set_cons_zero, ↓List.set_cons_succ, ↓rInt, ↓rInt0, ↓rAddA, ↓rEqA, ↓rIsA, ↓rMax2A, ↓rMin2A, ↓rIntA, ↓rAbsA, bsel_true, bsel_false, wipeN, gNm, tYesA, ↓isNon, ↓isBlOf, ↓isI, ↓isB, ↓isS, ↓isT, ↓isL, Bool.or_false, Bool.or_true, Bool.false_or, Bool.true_or, ↓wList, ↓eLc, ↓rLenA, ↓sFor, ↓sWhile, ↓wRng1, ↓wRng2, ↓wTup, Bool.not_true, Bool.not_false, Bool.false_eq_true, ↓reduceIte, Bool.not_not])
          rw [Int.zero_add]
          refine ⟨_, atI_nat' ex, _, atI_nat' ey, items xs ys nt nd dd.1 i _ _ _ ex ey fun b hb => ?_⟩
          (try simp only [startN, List.map_cons, List.map_nil, List.length_cons, List.length_nil, Nat.reduceAdd, Nat.reduceSub, Nat.zero_add, Nat.sub_self, List.replicate_succ, List.replicate_zero, List.reduceReplicate, List.cons_append, List.nil_append, List.append_nil, ↓sRet, ↓sRetN, ↓sSeq, ↓sNil, ↓sIf, ↓sSet, ↓sPar, ↓sDrop, ↓sSetL, ↓eAnd, ↓eOr, ↓eNot, ↓eIf, ↓eNeg, ↓eCall, ↓eCallK, ↓eCallV, ↓lCons, ↓lNil, ↓eVar, ↓eC, ↓eTup, ↓eLst, ↓eLstC, ↓eOp, ↓eSl, ↓oNo, ↓oPart, ↓eBits, ↓tBool, ↓tAndA, ↓tOrA, ↓tNotA, ↓List.getElem?_cons_zero, ↓List.getElem?_cons_succ, ↓List.set_cons_zero, ↓List.set_cons_succ, ↓rInt, ↓rInt0, ↓rAddA, ↓rEqA, ↓rIsA, ↓rMax2A, ↓rMin2A, ↓rIntA, ↓rAbsA, bsel_true, bsel_false, wipeN, gNm, tYesA, ↓isNon, ↓isBlOf, ↓isI, ↓isB, ↓isS, ↓isT, ↓isL, Bool.or_false, Bool.or_true, Bool.false_or, Bool.true_or, ↓wList, ↓eLc, ↓rLenA, ↓sFor, ↓sWhile, ↓wRng1, ↓wRng2, ↓wTup, Bool.not_true, Bool.not_false, Bool.false_eq_true, ↓reduceIte, Bool.not_not])
          refine bsel_i (fun h => ?_) fun h => ?_
          · refine ⟨trivial, ks ++ [(i : Int)], by rw [List.map_append]; rfl, ?_⟩
            constructor
            · intro z
              exact absurd (List.append_eq_nil_iff.mp z).2 (by simp)
            · intro z
              have e := z i (by omega)
              rw [ex, ey] at e
              rw [hb.mpr (Option.some.inj e)] at h
              cases h
          · refine ⟨trivial, ks, rfl, hk.trans ⟨fun z j hj => ?_, fun z j hj => z j (by omega)⟩⟩
            by_cases hji : j < i
            · exact z j hji
            · have : j = i := by omega
              subst this
              rw [ex, ey, hb.mp (by simpa using h)]
        · rintro acc S' ⟨rfl, ks, rfl, hk⟩
          rw [rngA_len] at hk
          refine rEq_nil (fun _ => ⟨_, pyds_ints ks, shaped_ints ks⟩) (k _ ?_)
          show (ks.map A.int).isEmpty = true ↔ _
          rw [List.isEmpty_iff, List.map_eq_nil_iff, hk]
          constructor
          · intro z
            congr 1
            refine List.ext_getElem? fun j => ?_
            by_cases hj : j < ys.length
            · exact z j (by omega)
            · rw [List.getElem?_eq_none (by omega), List.getElem?_eq_none (by omega)]
          · intro z j hj
            cases z
            rfl
      · have hl := of_decide_eq_false h
        simp only [Bool.false_eq_true, false_iff]
        intro z
        cases z
        exact hl rfl
    | lst xs =>
      (try simp only [startN, List.map_cons, List.map_nil, List.length_cons, List.length_nil, Nat.reduceAdd, Nat.reduceSub, Nat.zero_add, Nat.sub_self, List.replicate_succ, List.replicate_zero, List.reduceReplicate, List.cons_append, List.nil_append, List.append_nil, ↓sRet, ↓sRetN, ↓sSeq, ↓sNil, ↓sIf, ↓sSet, ↓sPar, ↓sDrop, ↓sSetL, ↓eAnd, ↓eOr, ↓eNot, ↓eIf, ↓eNeg, ↓eCall, ↓eCallK, ↓eCallV, ↓lCons, ↓lNil, ↓eVar, ↓eC, ↓eTup, ↓eLst, ↓eLstC, ↓eOp, ↓eSl, ↓oNo, ↓oPart, ↓eBits, ↓tBool, ↓tAndA, ↓tOrA, ↓tNotA, ↓List.getElem?_cons_zero, ↓List.getElem?_cons_succ, ↓List.set_cons_zero, ↓List.set_cons_succ, ↓rInt, ↓rInt0, ↓rAddA, ↓rEqA, ↓rIsA, ↓rMax2A, ↓rMin2A, ↓rIntA, ↓rAbsA, bsel_true, bsel_false, wipeN, gNm, tYesA, ↓isNon, ↓isBlOf, ↓isI, ↓isB, ↓isS, ↓isT, ↓isL, Bool.or_false, Bool.or_true, Bool.false_or, Bool.true_or, ↓wList, ↓eLc, ↓rLenA, ↓sFor, ↓sWhile, ↓wRng1, ↓wRng2, ↓wTup, Bool.not_true, Bool.not_false, Bool.false_eq_true, ↓reduceIte, Bool.not_not])
      refine isi_tuple kt ?_
      (try simp only [startN, List.map_cons, List.map_nil, List.length_cons, List.length_nil, Nat.reduceAdd, Nat.reduceSub, Nat.zero_add, Nat.sub_self, List.replicate_succ, List.replicate_zero, List.reduceReplicate, List.cons_append, List.nil_append, List.append_nil, ↓sRet, ↓sRetN, ↓sSeq, ↓sNil, ↓sIf, ↓sSet, ↓sPar, ↓sDrop, ↓sSetL, ↓eAnd, ↓eOr, ↓eNot, ↓eIf, ↓eNeg, ↓eCall, ↓eCallK, ↓eCallV, ↓lCons, ↓lNil, ↓eVar, ↓eC, ↓eTup, ↓eLst, ↓eLstC, ↓eOp, ↓eSl, ↓oNo, ↓oPart, ↓eBits, ↓tBool, ↓tAndA, ↓tOrA, ↓tNotA, ↓List.getElem?_cons_zero, ↓List.getElem?_cons_succ, ↓List.set_cons_zero, ↓List.set_cons_succ, ↓rInt, ↓rInt0, ↓rAddA, ↓rEqA, ↓rIsA, ↓rMax2A, ↓rMin2A, ↓rIntA, ↓rAbsA, bsel_true, bsel_false, wipeN, gNm, tYesA, ↓isNon, ↓isBlOf, ↓isI, ↓isB, ↓isS, ↓isT, ↓isL, Bool.or_false, Bool.or_true, Bool.false_or, Bool.true_or, ↓wList, ↓eLc, ↓rLenA, ↓sFor, ↓sWhile, ↓wRng1, ↓wRng2, ↓wTup, Bool.not_true, Bool.not_false, Bool.false_eq_true, ↓reduceIte, Bool.not_not])
      refine isi_tuple kd ?_
      (try simp only [startN, List.map_cons, List.map_nil, List.length_cons, List.length_nil, Nat.reduceAdd, Nat.reduceSub, Nat.zero_add, Nat.sub_self, List.replicate_succ, List.replicate_zero, List.reduceReplicate, List.cons_append, List.nil_append, List.append_nil, ↓sRet, ↓sRetN, ↓sSeq, ↓sNil, ↓sIf, ↓sSet, ↓sPar, ↓sDrop, ↓sSetL, ↓eAnd, ↓eOr, ↓eNot, ↓eIf, ↓eNeg, ↓eCall, ↓eCallK, ↓eCallV, ↓lCons, ↓lNil, ↓eVar, ↓eC, ↓eTup, ↓eLst, ↓eLstC, ↓eOp, ↓eSl, ↓oNo, ↓oPart, ↓eBits, ↓tBool, ↓tAndA, ↓tOrA, ↓tNotA, ↓List.getElem?_cons_zero, ↓List.getElem?_cons_succ, ↓List.set_cons_zero, ↓List.set_cons_succ, ↓rInt, ↓rInt0, ↓rAddA, ↓rEqA, ↓rIsA, ↓rMax2A, ↓rMin2A, ↓rIntA, ↓rAbsA, bsel_true, bsel_false, wipeN, gNm, tYesA, ↓isNon, ↓isBlOf, ↓isI, ↓isB, ↓isS, ↓isT, ↓isL, Bool.or_false, Bool.or_true, Bool.false_or, Bool.true_or, ↓wList, ↓eLc, ↓rLenA, ↓sFor, ↓sWhile, ↓wRng1, ↓wRng2, ↓wTup, Bool.not_true, Bool.not_false, Bool.false_eq_true, ↓reduceIte, Bool.not_not])
      exact k _ (by simp)
    | _ =>
      (try simp only [startN, List.map_cons, List.map_nil, List.length_cons, List.length_nil, Nat.reduceAdd, Nat.reduceSub, Nat.zero_add, Nat.sub_self, List.replicate_succ, List.replicate_zero, List.reduceReplicate, List.cons_append, List.nil_append, List.append_nil, ↓sRet, ↓sRetN, ↓sSeq, ↓sNil, ↓sIf, ↓sSet, ↓sPar, ↓sDrop, ↓sSetL, ↓eAnd, ↓eOr, ↓eNot, ↓eIf, ↓eNeg, ↓eCall, ↓eCallK, ↓eCallV, ↓lCons, ↓lNil, ↓eVar, ↓eC, ↓eTup, ↓eLst, ↓eLstC, ↓eOp, ↓eSl, ↓oNo, ↓oPart, ↓eBits, ↓tBool, ↓tAndA, ↓tOrA, ↓tNotA, ↓List.getElem?_cons_zero, ↓List.getElem?_cons_succ, ↓List.set_cons_zero, ↓List.set_cons_succ, ↓rInt, ↓rInt0, ↓rAddA, ↓rEqA, ↓rIsA, ↓rMax2A, ↓rMin2A, ↓rIntA, ↓rAbsA, bsel_true, bsel_false, wipeN, gNm, tYesA, ↓isNon, ↓isBlOf, ↓isI, ↓isB, ↓isS, ↓isT, ↓isL, Bool.or_false, Bool.or_true, Bool.false_or, Bool.true_or, ↓wList, ↓eLc, ↓rLenA, ↓sFor, ↓sWhile, ↓wRng1, ↓wRng2, ↓wTup, Bool.not_true, Bool.not_false, Bool.false_eq_true, ↓reduceIte, Bool.not_not])
      refine isi_list kd ?_
      (try simp only [startN, List.map_cons, List.map_nil, List.length_cons, List.length_nil, Nat.reduceAdd, Nat.reduceSub, Nat.zero_add, Nat.sub_self, List.replicate_succ, List.replicate_zero, List.reduceReplicate, List.cons_append, List.nil_append, List.append_nil, ↓sRet, ↓sRetN, ↓sSeq, ↓sNil, ↓sIf, ↓sSet, ↓sPar, ↓sDrop, ↓sSetL, ↓eAnd, ↓eOr, ↓eNot, ↓eIf, ↓eNeg, ↓eCall, ↓eCallK, ↓eCallV, ↓lCons, ↓lNil, ↓eVar, ↓eC, ↓eTup, ↓eLst, ↓eLstC, ↓eOp, ↓eSl, ↓oNo, ↓oPart, ↓eBits, ↓tBool, ↓tAndA, ↓tOrA, ↓tNotA, ↓List.getElem?_cons_zero, ↓List.getElem?_cons_succ, ↓List.set_cons_zero, ↓List.set_cons_succ, ↓rInt, ↓rInt0, ↓rAddA, ↓rEqA, ↓rIsA, ↓rMax2A, ↓rMin2A, ↓rIntA, ↓rAbsA, bsel_true, bsel_false, wipeN, gNm, tYesA, ↓isNon, ↓isBlOf, ↓isI, ↓isB, ↓isS, ↓isT, ↓isL, Bool.or_false, Bool.or_true, Bool.false_or, Bool.true_or, ↓wList, ↓eLc, ↓rLenA, ↓sFor, ↓sWhile, ↓wRng1, ↓wRng2, ↓wTup, Bool.not_true, Bool.not_false, Bool.false_eq_true, ↓reduceIte, Bool.not_not])
      refine isi_tuple kt ?_
      (try simp only [startN, List.map_cons, List.map_nil, List.length_cons, List.length_nil, Nat.reduceAdd, Nat.reduceSub, Nat.zero_add, Nat.sub_self, List.replicate_succ, List.replicate_zero, List.reduceReplicate, List.cons_append, List.nil_append, List.append_nil, ↓sRet, ↓sRetN, ↓sSeq, ↓sNil, ↓sIf, ↓sSet, ↓sPar, ↓sDrop, ↓sSetL, ↓eAnd, ↓eOr, ↓eNot, ↓eIf, ↓eNeg, ↓eCall, ↓eCallK, ↓eCallV, ↓lCons, ↓lNil, ↓eVar, ↓eC, ↓eTup, ↓eLst, ↓eLstC, ↓eOp, ↓eSl, ↓oNo, ↓oPart, ↓eBits, ↓tBool, ↓tAndA, ↓tOrA, ↓tNotA, ↓List.getElem?_cons_zero, ↓List.getElem?_cons_succ, ↓List.set_cons_zero, ↓List.set_cons_succ, ↓rInt, ↓rInt0, ↓rAddA, ↓rEqA, ↓rIsA, ↓rMax2A, ↓rMin2A, ↓rIntA, ↓rAbsA, bsel_true, bsel_false, wipeN, gNm, tYesA, ↓isNon, ↓isBlOf, ↓isI, ↓isB, ↓isS, ↓isT, ↓isL, Bool.or_false, Bool.or_true, Bool.false_or, Bool.true_or, ↓wList, ↓eLc, ↓rLenA, ↓sFor, ↓sWhile, ↓wRng1, ↓wRng2, ↓wTup, Bool.not_true, Bool.not_false, Bool.false_eq_true, ↓reduceIte, Bool.not_not])
      refine isi_tuple kd ?_
      (try simp only [startN, List.map_cons, List.map_nil, List.length_cons, List.length_nil, Nat.reduceAdd, Nat.reduceSub, Nat.zero_add, Nat.sub_self, List.replicate_succ, List.replicate_zero, List.reduceReplicate, List.cons_append, List.nil_append, List.append_nil, ↓sRet, ↓sRetN, ↓sSeq, ↓sNil, ↓sIf, ↓sSet, ↓sPar, ↓sDrop, ↓sSetL, ↓eAnd, ↓eOr, ↓eNot, ↓eIf, ↓eNeg, ↓eCall, ↓eCallK, ↓eCallV, ↓lCons, ↓lNil, ↓eVar, ↓eC, ↓eTup, ↓eLst, ↓eLstC, ↓eOp, ↓eSl, ↓oNo, ↓oPart, ↓eBits, ↓tBool, ↓tAndA, ↓tOrA, ↓tNotA, ↓List.getElem?_cons_zero, ↓List.getElem?_cons_succ, ↓List.set_cons_zero, ↓List.set_cons_succ, ↓rInt, ↓rInt0, ↓rAddA, ↓rEqA, ↓rIsA, ↓rMax2A, ↓rMin2A, ↓rIntA, ↓rAbsA, bsel_true, bsel_false, wipeN, gNm, tYesA, ↓isNon, ↓isBlOf, ↓isI, ↓isB, ↓isS, ↓isT, ↓isL, Bool.or_false, Bool.or_true, Bool.false_or, Bool.true_or, ↓wList, ↓eLc, ↓rLenA, ↓sFor, ↓sWhile, ↓wRng1, ↓wRng2, ↓wTup, Bool.not_true, Bool.not_false, Bool.false_eq_true, ↓reduceIte, Bool.not_not])
      exact k _ (by simp)
/-! ### _law_is_whole -/
abbrev s__law_is_whole : Stmt := topS 16
theorem sc__law_is_whole : FnScope ["value"] ["value"] (defScope s__law_is_whole) := ⟨rfl, rfl, rfl, by decide +kernel, rfl, by decide +kernel, by decide +kernel⟩
theorem bd__law_is_whole (kV doc pm : Value) (an : Option Addr) (cdv ct : Value) (us : List Value) (hl : us.length = (["value"] : List Str).length) : bindArgs (PySem.W.fnOf "_law_is_whole" "_law_is_whole" (defArgs s__law_is_whole) (defBody s__law_is_whole) (defScope s__law_is_whole) .none kV doc pm an cdv ct) ⟨us, []⟩ = pure ((["value"] : List Str).zip us) :=
  match us, hl with | [_], _ => rfl
def sp__law_is_whole : SpA := fun as S P => ∃ x, as = [x] ∧ kn S x ∧ P (.bl (isWholeA x)) S
theorem got__law_is_whole {P : Program} {w : World} {K : PySem.W.Frag} {mg : Str → Option Value} {base : Heap} {f__law_is_whole : Addr} (B : Bi mg) (D : Def K mg "_law_is_whole" s__law_is_whole f__law_is_whole) :
    Got P w K mg base (0 + 1) ["value"] "_law_is_whole" s__law_is_whole f__law_is_whole sp__law_is_whole := by
  refine got_of D sc__law_is_whole (by rintro as S P ⟨x, rfl, _⟩; rfl) (bd__law_is_whole) (fun cdv A0 outer s0_ H E hr => ⟨_, (sb_one (sa_ret (ea_and (ea_callB cx_isi B.isinstance_ (la_cons (ea_var 0) (la_cons (ea_ty "int" B.int_) la_nil))) (ea_one (ea_not (ea_callB cx_isi B.isinstance_ (la_cons (ea_var 0) (la_cons (ea_ty "bool" B.bool_) la_nil)))))))), fun as S P h => ?_⟩)
  obtain ⟨x, rfl, hk, k⟩ := h
  (try simp only [startN, List.map_cons, List.map_nil, List.length_cons, List.length_nil, Nat.reduceAdd, Nat.reduceSub, Nat.zero_add, Nat.sub_self, List.replicate_succ, List.replicate_zero, List.reduceReplicate, List.cons_append, List.nil_append, List.append_nil, ↓sRet, ↓sRetN, ↓sSeq, ↓sNil, ↓sIf, ↓sSet, ↓sPar, ↓sDrop, ↓sSetL, ↓eAnd, ↓eOr, ↓eNot, ↓eIf, ↓eNeg, ↓eCall, ↓eCallK, ↓eCallV, ↓lCons, ↓lNil, ↓eVar, ↓eC, ↓eTup, ↓eLst, ↓eLstC, ↓eOp, ↓eSl, ↓oNo, ↓oPart, ↓eBits, ↓tBool, ↓tAndA, ↓tOrA, ↓tNotA, ↓List.getElem?_cons_zero, ↓List.getElem?_cons_succ, ↓List.set_cons_zero, ↓List.set_cons_succ, ↓rInt, ↓rInt0, ↓rAddA, ↓rEqA, ↓rIsA, ↓rMax2A, ↓rMin2A, ↓rIntA, ↓rAbsA, bsel_true, bsel_false, wipeN, gNm, tYesA, ↓isNon, ↓isBlOf, ↓isI, ↓isB, ↓isS, ↓isT, ↓isL, Bool.or_false, Bool.or_true, Bool.false_or, Bool.true_or, ↓wList, ↓eLc, ↓rLenA, ↓sFor, ↓sWhile, ↓wRng1, ↓wRng2, ↓wTup, Bool.not_true, Bool.not_false, Bool.false_eq_true, ↓reduceIte, Bool.not_not])
  refine isi_int hk ?_
  cases x <;> simp only [isI, bsel_true, bsel_false] <;> first | exact k | (refine isi_bool hk ?_; exact k)
/-! ### _law_common -/
abbrev s__law_common : Stmt := topS 19
theorem sc__law_common : FnScope ["one", "other"] ["one", "other"] (defScope s__law_common) := ⟨rfl, rfl, rfl, by decide +kernel, rfl, by decide +kernel, by decide +kernel⟩
theorem bd__law_common (kV doc pm : Value) (an : Option Addr) (cdv ct : Value) (us : List Value) (hl : us.length = (["one", "other"] : List Str).length) : bindArgs (PySem.W.fnOf "_law_common" "_law_common" (defArgs s__law_common) (defBody s__law_common) (defScope s__law_common) .none kV doc pm an cdv ct) ⟨us, []⟩ = pure ((["one", "other"] : List Str).zip us) :=
  match us, hl with | [_, _], _ => rfl
def sp__law_common : SpA := fun as S P => ∃ a b : Int, as = [.int a, .int b] ∧ Bd 4000 a ∧ Bd 4000 b ∧ P (.int (Int.gcd a b : Nat)) S
--len by rintro as S P ⟨a, b, rfl, _⟩; rfl
theorem got__law_common {P : Program} {w : World} {K : PySem.W.Frag} {mg : Str → Option Value} {base : Heap} {f__law_common : Addr} (B : Bi mg) (D : Def K mg "_law_common" s__law_common f__law_common) :
    Got P w K mg base (0 + 1) ["one", "other"] "_law_common" s__law_common f__law_common sp__law_common := by
  refine got_of D sc__law_common (by rintro as S P ⟨a, b, rfl, _⟩; rfl) (bd__law_common) (fun cdv A0 outer s0_ H E hr => ⟨_, (sb_cons (sa_while PassesOwn.never (tt_cmp (oa_ne hr.units) (ea_var 1) ea_int) (sb_one (sa_par 0 1 sc__law_common.nd (la_cons (ea_var 1) (la_cons (ea_op oa_sub (ea_var 0) (ea_op oa_mul (ea_var 1) (ea_op oa_fdivX (ea_var 0) (ea_var 1)))) la_nil)))))
      (sb_one (sa_ret (ea_callB cx_abs B.abs_ (la_cons (ea_var 0) la_nil))))), fun as S P h => ?_⟩)
  obtain ⟨a, b, rfl, ha, hb, k⟩ := h
  (try simp only [startN, List.map_cons, List.map_nil, List.length_cons, List.length_nil, Nat.reduceAdd, Nat.reduceSub, Nat.zero_add, Nat.sub_self, List.replicate_succ, List.replicate_zero, List.reduceReplicate, List.cons_append, List.nil_append, List.append_nil, ↓sRet, ↓sRetN, ↓sSeq, ↓sNil, ↓sIf, ↓sSet, ↓sPar, ↓sDrop, ↓sSetL, ↓eAnd, ↓eOr, ↓eNot, ↓eIf, ↓eNeg, ↓eCall, ↓eCallK, ↓eCallV, ↓lCons, ↓lNil, ↓eVar, ↓eC, ↓eTup, ↓eLst, ↓eLstC, ↓eOp, ↓eSl, ↓oNo, ↓oPart, ↓eBits, ↓tBool, ↓tAndA, ↓tOrA, ↓tNotA, ↓List.getElem?_cons_zero, ↓List.getElem?_cons_succ, ↓List.set_cons_zero, ↓List.set_cons_succ, ↓rInt, ↓rInt0, ↓rAddA, ↓rEqA, ↓rIsA, ↓rMax2A, ↓rMin2A, ↓rIntA, ↓rAbsA, bsel_true, bsel_false, wipeN, gNm, tYesA, ↓isNon, ↓isBlOf, ↓isI, ↓isB, ↓isS, ↓isT, ↓isL, Bool.or_false, Bool.or_true, Bool.false_or, Bool.true_or, ↓wList, ↓eLc, ↓rLenA, ↓sFor, ↓sWhile, ↓wRng1, ↓wRng2, ↓wTup, Bool.not_true, Bool.not_false, Bool.false_eq_true, ↓reduceIte, Bool.not_not])
  refine ⟨fun m nv S' => S' = S ∧ ∃ x y : Int, nv = [some (.int x), some (.int y)] ∧ Int.gcd x y = Int.gcd a b ∧ Bd 4000 x ∧ Bd 4000 y ∧ m = y.natAbs, ⟨_, rfl, _, _, rfl, rfl, ha, hb, rfl⟩, ?_⟩
  rintro m nv S' ⟨rfl, x, y, rfl, e, hx, hy, hm⟩
  (try simp only [startN, List.map_cons, List.map_nil, List.length_cons, List.length_nil, Nat.reduceAdd, Nat.reduceSub, Nat.zero_add, Nat.sub_self, List.replicate_succ, List.replicate_zero, List.reduceReplicate, List.cons_append, List.nil_append, List.append_nil, ↓sRet, ↓sRetN, ↓sSeq, ↓sNil, ↓sIf, ↓sSet, ↓sPar, ↓sDrop, ↓sSetL, ↓eAnd, ↓eOr, ↓eNot, ↓eIf, ↓eNeg, ↓eCall, ↓eCallK, ↓eCallV, ↓lCons, ↓lNil, ↓eVar, ↓eC, ↓eTup, ↓eLst, ↓eLstC, ↓eOp, ↓eSl, ↓oNo, ↓oPart, ↓eBits, ↓tBool, ↓tAndA, ↓tOrA, ↓tNotA, ↓List.getElem?_cons_zero, ↓List.getElem?_cons_succ, ↓List.set_cons_zero, ↓List.set_cons_succ, ↓rInt, ↓rInt0, ↓rAddA, ↓rEqA, ↓rIsA, ↓rMax2A, ↓rMin2A, ↓rIntA, ↓rAbsA, bsel_true, bsel_false, wipeN, gNm, tYesA, ↓isNon, ↓isBlOf, ↓isI, ↓isB, ↓isS, ↓isT, ↓isL, Bool.or_false, Bool.or_true, Bool.false_or, Bool.true_or, ↓wList, ↓eLc, ↓rLenA, ↓sFor, ↓sWhile, ↓wRng1, ↓wRng2, ↓wTup, Bool.not_true, Bool.not_false, Bool.false_eq_true, ↓reduceIte, Bool.not_not])
  refine bsel_i (fun h => ?_) fun h => ?_
  · have y0 : y ≠ 0 := by
      intro z
      rw [z] at h
      exact absurd h (by decide)
    have em : x - y * x.fdiv y = x.fmod y := by
      have := Int.mul_fdiv_add_fmod x y
      omega
    have fb : (x.fmod y).natAbs < y.natAbs := fmod_lt x y0
    refine ⟨hy.divX y0, ?_, ?_⟩
    · have q1 : Bd 4001 (x.fdiv y) := fdiv_bd hx
      exact hy.mulW q1
    · rw [em]
      exact ⟨(x.fmod y).natAbs, by rw [hm]; exact fb, trivial, y, x.fmod y, rfl, by rw [← e]; exact gcd_fmod x y, hy, hy.of_le (by omega), rfl⟩
  · have y0 : y = 0 := by
      have z := of_decide_eq_true (by simpa using h : decide (y = 0) = true)
      exact z
    rw [y0, Int.gcd_zero_right] at e
    rw [e]
    exact k
/-! ### _law_lowest -/
abbrev s__law_lowest : Stmt := topS 20
theorem sc__law_lowest : FnScope ["number", "bottom", "common"] ["number", "bottom"] (defScope s__law_lowest) := ⟨rfl, rfl, rfl, by decide +kernel, rfl, by decide +kernel, by decide +kernel⟩
theorem bd__law_lowest (kV doc pm : Value) (an : Option Addr) (cdv ct : Value) (us : List Value) (hl : us.length = (["number", "bottom"] : List Str).length) : bindArgs (PySem.W.fnOf "_law_lowest" "_law_lowest" (defArgs s__law_lowest) (defBody s__law_lowest) (defScope s__law_lowest) .none kV doc pm an cdv ct) ⟨us, []⟩ = pure ((["number", "bottom"] : List Str).zip us) :=
  match us, hl with | [_, _], _ => rfl
def sp__law_lowest : SpA := fun as S P => ∃ n d : Int, as = [.int n, .int d] ∧ d ≠ 0 ∧ Bd 4000 n ∧ Bd 4000 d ∧ P (lowA n d) S
--len by rintro as S P ⟨a, b, rfl, _⟩; rfl
theorem got__law_lowest {P : Program} {w : World} {K : PySem.W.Frag} {mg : Str → Option Value} {base : Heap} {f__law_common f__law_lowest : Addr} (B : Bi mg) (D : Def K mg "_law_lowest" s__law_lowest f__law_lowest) (G__law_common : Got P w K mg base 1 ["one", "other"] "_law_common" s__law_common f__law_common sp__law_common) :
    Got P w K mg base (1 + 1) ["number", "bottom"] "_law_lowest" s__law_lowest f__law_lowest sp__law_lowest := by
  refine got_of D sc__law_lowest (by rintro as S P ⟨a, b, rfl, _⟩; rfl) (bd__law_lowest) (fun cdv A0 outer s0_ H E hr => ⟨_, (sb_cons (sa_set 2 sc__law_lowest.nd (ea_call G__law_common (hr.mono (by omega)) (la_cons (ea_var 0) (la_cons (ea_var 1) la_nil))))
      (sb_cons (sa_if (tt_cmp oa_lt (ea_var 1) ea_int) (sb_one (sa_set 2 sc__law_lowest.nd (ea_op oa_sub ea_int (ea_var 2)))) sb_nil)
      (sb_one (sa_ret (ea_tup (la_cons (ea_op oa_fdivX (ea_var 0) (ea_var 2)) (la_cons (ea_op oa_fdivX (ea_var 1) (ea_var 2)) la_nil))))))), fun as S P h => ?_⟩)
  obtain ⟨n, d, rfl, hd, hn, hb, k⟩ := h
  (try simp only [startN, List.map_cons, List.map_nil, List.length_cons, List.length_nil, Nat.reduceAdd, Nat.reduceSub, Nat.zero_add, Nat.sub_self, List.replicate_succ, List.replicate_zero, List.reduceReplicate, List.cons_append, List.nil_append, List.append_nil, ↓sRet, ↓sRetN, ↓sSeq, ↓sNil, ↓sIf, ↓sSet, ↓sPar, ↓sDrop, ↓sSetL, ↓eAnd, ↓eOr, ↓eNot, ↓eIf, ↓eNeg, ↓eCall, ↓eCallK, ↓eCallV, ↓lCons, ↓lNil, ↓eVar, ↓eC, ↓eTup, ↓eLst, ↓eLstC, ↓eOp, ↓eSl, ↓oNo, ↓oPart, ↓eBits, ↓tBool, ↓tAndA, ↓tOrA, ↓tNotA, ↓List.getElem?_cons_zero, ↓List.getElem?_cons_succ, ↓List.set_cons_zero, ↓List.set_cons_succ, ↓rInt, ↓rInt0, ↓rAddA, ↓rEqA, ↓rIsA, ↓rMax2A, ↓rMin2A, ↓rIntA, ↓rAbsA, bsel_true, bsel_false, wipeN, gNm, tYesA, ↓isNon, ↓isBlOf, ↓isI, ↓isB, ↓isS, ↓isT, ↓isL, Bool.or_false, Bool.or_true, Bool.false_or, Bool.true_or, ↓wList, ↓eLc, ↓rLenA, ↓sFor, ↓sWhile, ↓wRng1, ↓wRng2, ↓wTup, Bool.not_true, Bool.not_false, Bool.false_eq_true, ↓reduceIte, Bool.not_not])
  refine ⟨n, d, rfl, hn, hb, ?_⟩
  (try simp only [startN, List.map_cons, List.map_nil, List.length_cons, List.length_nil, Nat.reduceAdd, Nat.reduceSub, Nat.zero_add, Nat.sub_self, List.replicate_succ, List.replicate_zero, List.reduceReplicate, List.cons_append, List.nil_append, List.append_nil, ↓sRet, ↓sRetN, ↓sSeq, ↓sNil, ↓sIf, ↓sSet, ↓sPar, ↓sDrop, ↓sSetL, ↓eAnd, ↓eOr, ↓eNot, ↓eIf, ↓eNeg, ↓eCall, ↓eCallK, ↓eCallV, ↓lCons, ↓lNil, ↓eVar, ↓eC, ↓eTup, ↓eLst, ↓eLstC, ↓eOp, ↓eSl, ↓oNo, ↓oPart, ↓eBits, ↓tBool, ↓tAndA, ↓tOrA, ↓tNotA, ↓List.getElem?_cons_zero, ↓List.getElem?_cons_succ, ↓List.set_cons_zero, ↓List.set_cons_succ, ↓rInt, ↓rInt0, ↓rAddA, ↓rEqA, ↓rIsA, ↓rMax2A, ↓rMin2A, ↓rIntA, ↓rAbsA, bsel_true, bsel_false, wipeN, gNm, tYesA, ↓isNon, ↓isBlOf, ↓isI, ↓isB, ↓isS, ↓isT, ↓isL, Bool.or_false, Bool.or_true, Bool.false_or, Bool.true_or, ↓wList, ↓eLc, ↓rLenA, ↓sFor, ↓sWhile, ↓wRng1, ↓wRng2, ↓wTup, Bool.not_true, Bool.not_false, Bool.false_eq_true, ↓reduceIte, Bool.not_not])
  have hc : ∀ i, CDivX i (lowC n d) := fun i => (lowC_bd (n := n) hd hb).divX (lowC_ne hd)
  unfold lowA at k
  refine bsel_i (fun h => ?_) fun h => ?_
  · have e : lowC n d = 0 - (Int.gcd n d : Int) := by
      have : lowC n d = -(Int.gcd n d : Int) := if_pos (of_decide_eq_true h)
      omega
    rw [e] at hc k
    exact ⟨hc n, hc d, k⟩
  · have e : lowC n d = (Int.gcd n d : Int) := if_neg (of_decide_eq_false h)
    rw [e] at hc k
    exact ⟨hc n, hc d, k⟩
/-! ### _law_is_fraction -/
abbrev s__law_is_fraction : Stmt := topS 21
theorem sc__law_is_fraction : FnScope ["value"] ["value"] (defScope s__law_is_fraction) := ⟨rfl, rfl, rfl, by decide +kernel, rfl, by decide +kernel, by decide +kernel⟩
theorem bd__law_is_fraction (kV doc pm : Value) (an : Option Addr) (cdv ct : Value) (us : List Value) (hl : us.length = (["value"] : List Str).length) : bindArgs (PySem.W.fnOf "_law_is_fraction" "_law_is_fraction" (defArgs s__law_is_fraction) (defBody s__law_is_fraction) (defScope s__law_is_fraction) .none kV doc pm an cdv ct) ⟨us, []⟩ = pure ((["value"] : List Str).zip us) :=
  match us, hl with | [_], _ => rfl
/-- its numbers have at most so many bits -/
def frB (k : Nat) : A → Prop
  | .tup [.int n, .int d] => Bd k n ∧ Bd k d
  | _ => True
def sp__law_is_fraction : SpA := fun as S P => ∃ x, as = [x] ∧ nr x = true ∧ frB 4000 x ∧ P (.bl (isFrA x)) S
theorem got__law_is_fraction {P : Program} {w : World} {K : PySem.W.Frag} {mg : Str → Option Value} {base : Heap} {f__law_common f__law_is_fraction f__law_is_whole : Addr} (B : Bi mg) (D : Def K mg "_law_is_fraction" s__law_is_fraction f__law_is_fraction) (G__law_common : Got P w K mg base 1 ["one", "other"] "_law_common" s__law_common f__law_common sp__law_common) (G__law_is_whole : Got P w K mg base 1 ["value"] "_law_is_whole" s__law_is_whole f__law_is_whole sp__law_is_whole) :
    Got P w K mg base (1 + 1) ["value"] "_law_is_fraction" s__law_is_fraction f__law_is_fraction sp__law_is_fraction := by
  refine got_of D sc__law_is_fraction (by rintro as S P ⟨x, rfl, _⟩; rfl) (bd__law_is_fraction) (fun cdv A0 outer s0_ H E hr => ⟨_, (sb_cons (sa_if (tt_w (tw_or (tt_not (tt_val (ea_callB cx_isi B.isinstance_ (la_cons (ea_var 0) (la_cons (ea_ty "tuple" B.tuple_) la_nil))))) (tw_or (tt_cmp (oa_ne hr.units) (ea_callB cx_len B.len_ (la_cons (ea_var 0) la_nil)) ea_int) (tw_or (tt_not (tt_val (ea_call G__law_is_whole (hr.mono (by omega)) (la_cons (ea_ix (ea_var 0) ea_int) la_nil)))) (tw_or1 (tt_not (tt_val (ea_call G__law_is_whole (hr.mono (by omega)) (la_cons (ea_ix (ea_var 0) ea_int) la_nil))))))))) (sb_one (sa_ret ea_bl)) sb_nil)
      (sb_one (sa_ret (ea_and (ea_cmp oa_gt (ea_ix (ea_var 0) ea_int) ea_int) (ea_one (ea_cmp (oa_eq hr.units) (ea_call G__law_common (hr.mono (by omega)) (la_cons (ea_ix (ea_var 0) ea_int) (la_cons (ea_ix (ea_var 0) ea_int) la_nil))) ea_int)))))), fun as S P h => ?_⟩)
  obtain ⟨x, rfl, hn, hB, k⟩ := h
  (try simp only [startN, List.map_cons, List.map_nil, List.length_cons, List.length_nil, Nat.reduceAdd, Nat.reduceSub, Nat.zero_add, Nat.sub_self, List.replicate_succ, List.replicate_zero, List.reduceReplicate, List.cons_append, List.nil_append, List.append_nil, ↓sRet, ↓sRetN, ↓sSeq, ↓sNil, ↓sIf, ↓sSet, ↓sPar, ↓sDrop, ↓sSetL, ↓eAnd, ↓eOr, ↓eNot, ↓eIf, ↓eNeg, ↓eCall, ↓eCallK, ↓eCallV, ↓lCons, ↓lNil, ↓eVar, ↓eC, ↓eTup, ↓eLst, ↓eLstC, ↓eOp, ↓eSl, ↓oNo, ↓oPart, ↓eBits, ↓tBool, ↓tAndA, ↓tOrA, ↓tNotA, ↓List.getElem?_cons_zero, ↓List.getElem?_cons_succ, ↓List.set_cons_zero, ↓List.set_cons_succ, ↓rInt, ↓rInt0, ↓rAddA, ↓rEqA, ↓rIsA, ↓rMax2A, ↓rMin2A, ↓rIntA, ↓rAbsA, bsel_true, bsel_false, wipeN, gNm, tYesA, ↓isNon, ↓isBlOf, ↓isI, ↓isB, ↓isS, ↓isT, ↓isL, Bool.or_false, Bool.or_true, Bool.false_or, Bool.true_or, ↓wList, ↓eLc, ↓rLenA, ↓sFor, ↓sWhile, ↓wRng1, ↓wRng2, ↓wTup, Bool.not_true, Bool.not_false, Bool.false_eq_true, ↓reduceIte, Bool.not_not])
  refine isi_tuple (kn_nr hn) ?_
  cases x with
  | tup xs =>
    simp only [isT, Bool.not_true, bsel_false]
    refine bsel_i (fun h => ?_) fun h => ?_
    · have hl : ¬ xs.length = 2 := by
        intro z
        have z2 : ((xs.length : Nat) : Int) = 2 := by omega
        simp [z2] at h
      have e : isFrA (.tup xs) = false := by
        unfold isFrA
        split
        · rename_i q
          cases q
          exact absurd rfl hl
        · rfl
      rw [e] at k
      exact k
    · have hl : xs.length = 2 := by
        have z := of_decide_eq_true (by simpa using h : decide (((xs.length : Nat) : Int) = 2) = true)
        omega
      match xs, hl with
      | [u, v], _ =>
        have hu : nr u = true := nrs_mem (xs := [u, v]) hn (by simp)
        have hv : nr v = true := nrs_mem (xs := [u, v]) hn (by simp)
        refine ⟨u, rfl, u, rfl, kn_nr hu, ?_⟩
        cases u with
        | int n =>
          simp only [isWholeA, Bool.not_true, bsel_false]
          refine ⟨v, rfl, v, rfl, kn_nr hv, ?_⟩
          cases v with
          | int d =>
            simp only [isWholeA, Bool.not_true, bsel_false]
            refine ⟨.int d, rfl, ?_⟩
            (try simp only [startN, List.map_cons, List.map_nil, List.length_cons, List.length_nil, Nat.reduceAdd, Nat.reduceSub, Nat.zero_add, Nat.sub_self, List.replicate_succ, List.replicate_zero, List.reduceReplicate, List.cons_append, List.nil_append, List.append_nil, ↓sRet, ↓sRetN, ↓sSeq, ↓sNil, ↓sIf, ↓sSet, ↓sPar, ↓sDrop, ↓sSetL, ↓eAnd, ↓eOr, ↓eNot, ↓eIf, ↓eNeg, ↓eCall, ↓eCallK, ↓eCallV, ↓lCons, ↓lNil, ↓eVar, ↓eC, ↓eTup, ↓eLst, ↓eLstC, ↓eOp, ↓eSl, ↓oNo, ↓oPart, ↓eBits, ↓tBool, ↓tAndA, ↓tOrA, ↓tNotA, ↓List.getElem?_cons_zero, ↓List.getElem?_cons_succ, ↓List.set_cons_zero, ↓List.set_cons_succ, ↓rInt, ↓rInt0, ↓rAddA, ↓rEqA, ↓rIsA, ↓rMax2A, ↓rMin2A, ↓rIntA, ↓rAbsA, bsel_true, bsel_false, wipeN, gNm, tYesA, ↓isNon, ↓isBlOf, ↓isI, ↓isB, ↓isS, ↓isT, ↓isL, Bool.or_false, Bool.or_true, Bool.false_or, Bool.true_or, ↓wList, ↓eLc, ↓rLenA, ↓sFor, ↓sWhile, ↓wRng1, ↓wRng2, ↓wTup, Bool.not_true, Bool.not_false, Bool.false_eq_true, ↓reduceIte, Bool.not_not])
            have e : isFrA (.tup [.int n, .int d]) = (decide (1 ≤ d) && decide ((Int.gcd n d : Int) = 1)) := rfl
            rw [e] at k
            have e2 : decide (0 < d) = decide (1 ≤ d) := by rw [decide_eq_decide]; omega
            rw [e2]
            refine bsel_i (fun h => ?_) fun h => ?_
            · refine ⟨.int n, rfl, .int d, rfl, n, d, rfl, hB.1, hB.2, ?_⟩
              rw [h, Bool.true_and] at k
              exact k
            · rw [h, Bool.false_and] at k
              exact k
          | _ => simp only [isWholeA, Bool.not_false, bsel_true]; exact k
        | _ => simp only [isWholeA, Bool.not_false, bsel_true]; exact k
  | _ => simp only [isT, Bool.not_false, bsel_true]; exact k
/-- the two defs that the law hands on -/
def tabOf (f g : Addr) : Tab := fun a => if a = f then some sp_is_fraction else if a = g then some sp__law_is_fraction else none
theorem tab_snd {f g : Addr} (h : f ≠ g) : tabOf f g g = some sp__law_is_fraction := by
  unfold tabOf
  rw [if_neg (Ne.symm h), if_pos rfl]
theorem tab_held {P : Program} {w : World} {K : PySem.W.Frag} {mg : Str → Option Value} {base : Heap} {f g : Addr} (G1 : Got P w K mg base 2 ["value"] "is_fraction" s_is_fraction f sp_is_fraction) (G2 : Got P w K mg base 2 ["value"] "_law_is_fraction" s__law_is_fraction g sp__law_is_fraction) :
    Held' P w K mg base 6 (tabOf f g) := ⟨fun a sp h => by
  unfold tabOf at h
  split at h
  · rename_i e
    cases h
    subst e
    obtain ⟨fd, F, F2, b⟩ := (G1.mono (by decide : 2 ≤ 6)).ex
    exact ⟨fd, _, F, F2.kp, b⟩
  · split at h
    · rename_i e
      cases h
      subst e
      obtain ⟨fd, F, F2, b⟩ := (G2.mono (by decide : 2 ≤ 6)).ex
      exact ⟨fd, _, F, F2.kp, b⟩
    · cases h⟩
/-! ### _law_call -/
abbrev s__law_call : Stmt := topS 17
theorem sc__law_call : FnScope ["deed", "args"] ["deed", "args"] (defScope s__law_call) := ⟨rfl, rfl, rfl, by decide +kernel, rfl, by decide +kernel, by decide +kernel⟩
theorem bd__law_call (kV doc pm : Value) (an : Option Addr) (cdv ct : Value) (us : List Value) (hl : us.length = (["deed", "args"] : List Str).length) : bindArgs (PySem.W.fnOf "_law_call" "_law_call" (defArgs s__law_call) (defBody s__law_call) (defScope s__law_call) .none kV doc pm an cdv ct) ⟨us, []⟩ = pure ((["deed", "args"] : List Str).zip us) :=
  match us, hl with | [_, _], _ => rfl
--feed HT
--have have HT : Held' P w K mg base 6 (tabOf f_is_fraction f__law_is_fraction) := tab_held G_is_fraction G__law_is_fraction
def sp__law_call (T : Tab) : SpA := fun as S P => ∃ (f : Addr) (xs : List A) (sp : SpA), as = [.ref f, .lst xs] ∧ 1 ≤ xs.length ∧ xs.length ≤ 6 ∧ T f = some sp ∧ sp xs S P
--len by rintro as S P ⟨_, _, _, rfl, _⟩; rfl
theorem got__law_call {P : Program} {w : World} {K : PySem.W.Frag} {mg : Str → Option Value} {base : Heap} {f__law_call : Addr} {T : Tab} (B : Bi mg) (D : Def K mg "_law_call" s__law_call f__law_call) (HT : Held' P w K mg base 6 T) :
    Got P w K mg base (6 + 1) ["deed", "args"] "_law_call" s__law_call f__law_call (sp__law_call T) := by
  refine got_of D sc__law_call (by rintro as S P ⟨_, _, _, rfl, _⟩; rfl) (bd__law_call) (fun cdv A0 outer s0_ H E hr => ⟨_, (sb_cons (sa_if (tt_cmp (oa_eq hr.units) (ea_callB cx_len B.len_ (la_cons (ea_var 1) la_nil)) ea_int) (sb_one (sa_ret (ea_callV 0 HT (hr.mono (by omega)) (la_cons (ea_ix (ea_var 1) ea_int) la_nil)))) sb_nil)
      (sb_cons (sa_if (tt_cmp (oa_eq hr.units) (ea_callB cx_len B.len_ (la_cons (ea_var 1) la_nil)) ea_int) (sb_one (sa_ret (ea_callV 0 HT (hr.mono (by omega)) (la_cons (ea_ix (ea_var 1) ea_int) (la_cons (ea_ix (ea_var 1) ea_int) la_nil))))) sb_nil)
      (sb_cons (sa_if (tt_cmp (oa_eq hr.units) (ea_callB cx_len B.len_ (la_cons (ea_var 1) la_nil)) ea_int) (sb_one (sa_ret (ea_callV 0 HT (hr.mono (by omega)) (la_cons (ea_ix (ea_var 1) ea_int) (la_cons (ea_ix (ea_var 1) ea_int) (la_cons (ea_ix (ea_var 1) ea_int) la_nil)))))) sb_nil)
      (sb_cons (sa_if (tt_cmp (oa_eq hr.units) (ea_callB cx_len B.len_ (la_cons (ea_var 1) la_nil)) ea_int) (sb_one (sa_ret (ea_callV 0 HT (hr.mono (by omega)) (la_cons (ea_ix (ea_var 1) ea_int) (la_cons (ea_ix (ea_var 1) ea_int) (la_cons (ea_ix (ea_var 1) ea_int) (la_cons (ea_ix (ea_var 1) ea_int) la_nil))))))) sb_nil)
      (sb_cons (sa_if (tt_cmp (oa_eq hr.units) (ea_callB cx_len B.len_ (la_cons (ea_var 1) la_nil)) ea_int) (sb_one (sa_ret (ea_callV 0 HT (hr.mono (by omega)) (la_cons (ea_ix (ea_var 1) ea_int) (la_cons (ea_ix (ea_var 1) ea_int) (la_cons (ea_ix (ea_var 1) ea_int) (la_cons (ea_ix (ea_var 1) ea_int) (la_cons (ea_ix (ea_var 1) ea_int) la_nil)))))))) sb_nil)
      (sb_one (sa_ret (ea_callV 0 HT (hr.mono (by omega)) (la_cons (ea_ix (ea_var 1) ea_int) (la_cons (ea_ix (ea_var 1) ea_int) (la_cons (ea_ix (ea_var 1) ea_int) (la_cons (ea_ix (ea_var 1) ea_int) (la_cons (ea_ix (ea_var 1) ea_int) (la_cons (ea_ix (ea_var 1) ea_int) la_nil)))))))))))))), fun as S P h => ?_⟩)
  obtain ⟨f, xs, sp, rfl, h1, h6, hT, k⟩ := h
  match xs, h1, h6 with
  | [a], _, _ =>
    (try simp only [startN, List.map_cons, List.map_nil, List.length_cons, List.length_nil, Nat.reduceAdd, Nat.reduceSub, Nat.zero_add, Nat.sub_self, List.replicate_succ, List.replicate_zero, List.reduceReplicate, List.cons_append, List.nil_append, List.append_nil, ↓sRet, ↓sRetN, ↓sSeq, ↓sNil, ↓sIf, ↓sSet, ↓sPar, ↓sDrop, ↓sSetL, ↓eAnd, ↓eOr, ↓eNot, ↓eIf, ↓eNeg, ↓eCall, ↓eCallK, ↓eCallV, ↓lCons, ↓lNil, ↓eVar, ↓eC, ↓eTup, ↓eLst, ↓eLstC, ↓eOp, ↓eSl, ↓oNo, ↓oPart, ↓eBits, ↓tBool, ↓tAndA, ↓tOrA, ↓tNotA, ↓List.getElem?_cons_zero, ↓List.getElem?_cons_succ, ↓List.set_cons_zero, ↓List.set_cons_succ, ↓rInt, ↓rInt0, ↓rAddA, ↓rEqA, ↓rIsA, ↓rMax2A, ↓rMin2A, ↓rIntA, ↓rAbsA, bsel_true, bsel_false, wipeN, gNm, tYesA, ↓isNon, ↓isBlOf, ↓isI, ↓isB, ↓isS, ↓isT, ↓isL, Bool.or_false, Bool.or_true, Bool.false_or, Bool.true_or, ↓wList, ↓eLc, ↓rLenA, ↓sFor, ↓sWhile, ↓wRng1, ↓wRng2, ↓wTup, Bool.not_true, Bool.not_false, Bool.false_eq_true, ↓reduceIte, Bool.not_not])
    exact ⟨_, rfl, bsel_t rfl ⟨sp, hT, _, _, rfl, rfl, k⟩⟩
  | [a, b], _, _ =>
    (try simp only [startN, List.map_cons, List.map_nil, List.length_cons, List.length_nil, Nat.reduceAdd, Nat.reduceSub, Nat.zero_add, Nat.sub_self, List.replicate_succ, List.replicate_zero, List.reduceReplicate, List.cons_append, List.nil_append, List.append_nil, ↓sRet, ↓sRetN, ↓sSeq, ↓sNil, ↓sIf, ↓sSet, ↓sPar, ↓sDrop, ↓sSetL, ↓eAnd, ↓eOr, ↓eNot, ↓eIf, ↓eNeg, ↓eCall, ↓eCallK, ↓eCallV, ↓lCons, ↓lNil, ↓eVar, ↓eC, ↓eTup, ↓eLst, ↓eLstC, ↓eOp, ↓eSl, ↓oNo, ↓oPart, ↓eBits, ↓tBool, ↓tAndA, ↓tOrA, ↓tNotA, ↓List.getElem?_cons_zero, ↓List.getElem?_cons_succ, ↓List.set_cons_zero, ↓List.set_cons_succ, ↓rInt, ↓rInt0, ↓rAddA, ↓rEqA, ↓rIsA, ↓rMax2A, ↓rMin2A, ↓rIntA, ↓rAbsA, bsel_true, bsel_false, wipeN, gNm, tYesA, ↓isNon, ↓isBlOf, ↓isI, ↓isB, ↓isS, ↓isT, ↓isL, Bool.or_false, Bool.or_true, Bool.false_or, Bool.true_or, ↓wList, ↓eLc, ↓rLenA, ↓sFor, ↓sWhile, ↓wRng1, ↓wRng2, ↓wTup, Bool.not_true, Bool.not_false, Bool.false_eq_true, ↓reduceIte, Bool.not_not])
    exact ⟨_, rfl, bsel_f rfl ⟨_, rfl, bsel_t rfl ⟨sp, hT, _, _, rfl, rfl, _, _, rfl, rfl, k⟩⟩⟩
  | [a, b, c], _, _ =>
    (try simp only [startN, List.map_cons, List.map_nil, List.length_cons, List.length_nil, Nat.reduceAdd, Nat.reduceSub, Nat.zero_add, Nat.sub_self, List.replicate_succ, List.replicate_zero, List.reduceReplicate, List.cons_append, List.nil_append, List.append_nil, ↓sRet, ↓sRetN, ↓sSeq, ↓sNil, ↓sIf, ↓sSet, ↓sPar, ↓sDrop, ↓sSetL, ↓eAnd, ↓eOr, ↓eNot, ↓eIf, ↓eNeg, ↓eCall, ↓eCallK, ↓eCallV, ↓lCons, ↓lNil, ↓eVar, ↓eC, ↓eTup, ↓eLst, ↓eLstC, ↓eOp, ↓eSl, ↓oNo, ↓oPart, ↓eBits, ↓tBool, ↓tAndA, ↓tOrA, ↓tNotA, ↓List.getElem?_cons_zero, ↓List.getElem?_cons_succ, ↓List.set_cons_zero, ↓List.set_cons_succ, ↓rInt, ↓rInt0, ↓rAddA, ↓rEqA, ↓rIsA, ↓rMax2A, ↓rMin2A, ↓rIntA, ↓rAbsA, bsel_true, bsel_false, wipeN, gNm, tYesA, ↓isNon, ↓isBlOf, ↓isI, ↓isB, ↓isS, ↓isT, ↓isL, Bool.or_false, Bool.or_true, Bool.false_or, Bool.true_or, ↓wList, ↓eLc, ↓rLenA, ↓sFor, ↓sWhile, ↓wRng1, ↓wRng2, ↓wTup, Bool.not_true, Bool.not_false, Bool.false_eq_true, ↓reduceIte, Bool.not_not])
    exact ⟨_, rfl, bsel_f rfl ⟨_, rfl, bsel_f rfl ⟨_, rfl, bsel_t rfl ⟨sp, hT, _, _, rfl, rfl, _, _, rfl, rfl, _, _, rfl, rfl, k⟩⟩⟩⟩
  | [a, b, c, d], _, _ =>
    (try simp only [startN, List.map_cons, List.map_nil, List.length_cons, List.length_nil, Nat.reduceAdd, Nat.reduceSub, Nat.zero_add, Nat.sub_self, List.replicate_succ, List.replicate_zero, List.reduceReplicate, List.cons_append, List.nil_append, List.append_nil, ↓sRet, ↓sRetN, ↓sSeq, ↓sNil, ↓sIf, ↓sSet, ↓sPar, ↓sDrop, ↓sSetL, ↓eAnd, ↓eOr, ↓eNot, ↓eIf, ↓eNeg, ↓eCall, ↓eCallK, ↓eCallV, ↓lCons, ↓lNil, ↓eVar, ↓eC, ↓eTup, ↓eLst, ↓eLstC, ↓eOp, ↓eSl, ↓oNo, ↓oPart, ↓eBits, ↓tBool, ↓tAndA, ↓tOrA, ↓tNotA, ↓List.getElem?_cons_zero, ↓List.getElem?_cons_succ, ↓List.set_cons_zero, ↓List.set_cons_succ, ↓rInt, ↓rInt0, ↓rAddA, ↓rEqA, ↓rIsA, ↓rMax2A, ↓rMin2A, ↓rIntA, ↓rAbsA, bsel_true, bsel_false, wipeN, gNm, tYesA, ↓isNon, ↓isBlOf, ↓isI, ↓isB, ↓isS, ↓isT, ↓isL, Bool.or_false, Bool.or_true, Bool.false_or, Bool.true_or, ↓wList, ↓eLc, ↓rLenA, ↓sFor, ↓sWhile, ↓wRng1, ↓wRng2, ↓wTup, Bool.not_true, Bool.not_false, Bool.false_eq_true, ↓reduceIte, Bool.not_not])
    exact ⟨_, rfl, bsel_f rfl ⟨_, rfl, bsel_f rfl ⟨_, rfl, bsel_f rfl ⟨_, rfl, bsel_t rfl ⟨sp, hT, _, _, rfl, rfl, _, _, rfl, rfl, _, _, rfl, rfl, _, _, rfl, rfl, k⟩⟩⟩⟩⟩
  | [a, b, c, d, e], _, _ =>
    (try simp only [startN, List.map_cons, List.map_nil, List.length_cons, List.length_nil, Nat.reduceAdd, Nat.reduceSub, Nat.zero_add, Nat.sub_self, List.replicate_succ, List.replicate_zero, List.reduceReplicate, List.cons_append, List.nil_append, List.append_nil, ↓sRet, ↓sRetN, ↓sSeq, ↓sNil, ↓sIf, ↓sSet, ↓sPar, ↓sDrop, ↓sSetL, ↓eAnd, ↓eOr, ↓eNot, ↓eIf, ↓eNeg, ↓eCall, ↓eCallK, ↓eCallV, ↓lCons, ↓lNil, ↓eVar, ↓eC, ↓eTup, ↓eLst, ↓eLstC, ↓eOp, ↓eSl, ↓oNo, ↓oPart, ↓eBits, ↓tBool, ↓tAndA, ↓tOrA, ↓tNotA, ↓List.getElem?_cons_zero, ↓List.getElem?_cons_succ, ↓List.set_cons_zero, ↓List.set_cons_succ, ↓rInt, ↓rInt0, ↓rAddA, ↓rEqA, ↓rIsA, ↓rMax2A, ↓rMin2A, ↓rIntA, ↓rAbsA, bsel_true, bsel_false, wipeN, gNm, tYesA, ↓isNon, ↓isBlOf, ↓isI, ↓isB, ↓isS, ↓isT, ↓isL, Bool.or_false, Bool.or_true, Bool.false_or, Bool.true_or, ↓wList, ↓eLc, ↓rLenA, ↓sFor, ↓sWhile, ↓wRng1, ↓wRng2, ↓wTup, Bool.not_true, Bool.not_false, Bool.false_eq_true, ↓reduceIte, Bool.not_not])
    exact ⟨_, rfl, bsel_f rfl ⟨_, rfl, bsel_f rfl ⟨_, rfl, bsel_f rfl ⟨_, rfl, bsel_f rfl ⟨_, rfl, bsel_t rfl ⟨sp, hT, _, _, rfl, rfl, _, _, rfl, rfl, _, _, rfl, rfl, _, _, rfl, rfl, _, _, rfl, rfl, k⟩⟩⟩⟩⟩⟩
  | [a, b, c, d, e, g], _, _ =>
    (try simp only [startN, List.map_cons, List.map_nil, List.length_cons, List.length_nil, Nat.reduceAdd, Nat.reduceSub, Nat.zero_add, Nat.sub_self, List.replicate_succ, List.replicate_zero, List.reduceReplicate, List.cons_append, List.nil_append, List.append_nil, ↓sRet, ↓sRetN, ↓sSeq, ↓sNil, ↓sIf, ↓sSet, ↓sPar, ↓sDrop, ↓sSetL, ↓eAnd, ↓eOr, ↓eNot, ↓eIf, ↓eNeg, ↓eCall, ↓eCallK, ↓eCallV, ↓lCons, ↓lNil, ↓eVar, ↓eC, ↓eTup, ↓eLst, ↓eLstC, ↓eOp, ↓eSl, ↓oNo, ↓oPart, ↓eBits, ↓tBool, ↓tAndA, ↓tOrA, ↓tNotA, ↓List.getElem?_cons_zero, ↓List.getElem?_cons_succ, ↓List.set_cons_zero, ↓List.set_cons_succ, ↓rInt, ↓rInt0, ↓rAddA, ↓rEqA, ↓rIsA, ↓rMax2A, ↓rMin2A, ↓rIntA, ↓rAbsA, bsel_true, bsel_false, wipeN, gNm, tYesA, ↓isNon, ↓isBlOf, ↓isI, ↓isB, ↓isS, ↓isT, ↓isL, Bool.or_false, Bool.or_true, Bool.false_or, Bool.true_or, ↓wList, ↓eLc, ↓rLenA, ↓sFor, ↓sWhile, ↓wRng1, ↓wRng2, ↓wTup, Bool.not_true, Bool.not_false, Bool.false_eq_true, ↓reduceIte, Bool.not_not])
    exact ⟨_, rfl, bsel_f rfl ⟨_, rfl, bsel_f rfl ⟨_, rfl, bsel_f rfl ⟨_, rfl, bsel_f rfl ⟨_, rfl, bsel_f rfl ⟨sp, hT, _, _, rfl, rfl, _, _, rfl, rfl, _, _, rfl, rfl, _, _, rfl, rfl, _, _, rfl, rfl, _, _, rfl, rfl, k⟩⟩⟩⟩⟩⟩
/-! ### _law_judged -/
abbrev s__law_judged : Stmt := topS 18
theorem sc__law_judged : FnScope ["deed", "args", "values", "due", "value"] ["deed", "args", "values", "due"] (defScope s__law_judged) := ⟨rfl, rfl, rfl, by decide +kernel, rfl, by decide +kernel, by decide +kernel⟩
theorem bd__law_judged (kV doc pm : Value) (an : Option Addr) (cdv ct : Value) (us : List Value) (hl : us.length = (["deed", "args", "values", "due"] : List Str).length) : bindArgs (PySem.W.fnOf "_law_judged" "_law_judged" (defArgs s__law_judged) (defBody s__law_judged) (defScope s__law_judged) .none kV doc pm an cdv ct) ⟨us, []⟩ = pure ((["deed", "args", "values", "due"] : List Str).zip us) :=
  match us, hl with | [_, _, _, _], _ => rfl
--feed HT
def sp__law_judged (T : Tab) : SpA := fun as S P => ∃ (f g : Addr) (xs vs : List A) (s1 s2 : SpA), as = [.ref f, .lst xs, .lst vs, .ref g] ∧ xs.length ≤ 5 ∧ T f = some s1 ∧ T g = some s2 ∧
  (∀ v ∈ vs, ∃ r, nr r = true ∧ dle 8 r = true ∧ ∀ Q : A → Sto → Prop, Q r S → s1 (xs ++ [v]) S Q ∧ s2 [v] S Q) ∧ P (.bl true) S
--len by rintro as S P ⟨_, _, _, _, _, _, rfl, _⟩; rfl
theorem got__law_judged {P : Program} {w : World} {K : PySem.W.Frag} {mg : Str → Option Value} {base : Heap} {f__law_call f__law_judged f__law_same : Addr} {T : Tab} (B : Bi mg) (D : Def K mg "_law_judged" s__law_judged f__law_judged) (G__law_same : Got P w K mg base 8 ["told", "due"] "_law_same" s__law_same f__law_same (sp__law_same 8)) (G__law_call : Got P w K mg base 7 ["deed", "args"] "_law_call" s__law_call f__law_call (sp__law_call T)) (HT : Held' P w K mg base 6 T) :
    Got P w K mg base (8 + 1) ["deed", "args", "values", "due"] "_law_judged" s__law_judged f__law_judged (sp__law_judged T) := by
  refine got_of D sc__law_judged (by rintro as S P ⟨_, _, _, _, _, _, rfl, _⟩; rfl) (bd__law_judged) (fun cdv A0 outer s0_ H E hr => ⟨_, (sb_cons (sa_for PassesOwn.never (ia_list (ea_var 2)) (ga_name 4 sc__law_judged.nd) (sb_one (sa_if (tt_not (tt_val (ea_call G__law_same (hr.mono (by omega)) (la_cons (ea_call G__law_call (hr.mono (by omega)) (la_cons (ea_var 0) (la_cons (ea_op oa_add (ea_var 1) (ea_lst (la_cons (ea_var 4) la_nil))) la_nil))) (la_cons (ea_callV 3 HT (hr.mono (by omega)) (la_cons (ea_var 4) la_nil)) la_nil))))) (sb_one (sa_ret ea_bl)) sb_nil)))
      (sb_one (sa_ret ea_bl))), fun as S P h => ?_⟩)
  obtain ⟨f, g, xs, vs, s1, s2, rfl, h5, h1, h2, hv, k⟩ := h
  (try simp only [startN, List.map_cons, List.map_nil, List.length_cons, List.length_nil, Nat.reduceAdd, Nat.reduceSub, Nat.zero_add, Nat.sub_self, List.replicate_succ, List.replicate_zero, List.reduceReplicate, List.cons_append, List.nil_append, List.append_nil, ↓sRet, ↓sRetN, ↓sSeq, ↓sNil, ↓sIf, ↓sSet, ↓sPar, ↓sDrop, ↓sSetL, ↓eAnd, ↓eOr, ↓eNot, ↓eIf, ↓eNeg, ↓eCall, ↓eCallK, ↓eCallV, ↓lCons, ↓lNil, ↓eVar, ↓eC, ↓eTup, ↓eLst, ↓eLstC, ↓eOp, ↓eSl, ↓oNo, ↓oPart, ↓eBits, ↓tBool, ↓tAndA, ↓tOrA, ↓tNotA, ↓List.getElem?_cons_zero, ↓List.getElem?_cons_succ, ↓List.set_cons_zero, ↓List.set_cons_succ, ↓rInt, ↓rInt0, ↓rAddA, ↓rEqA, ↓rIsA, ↓rMax2A, ↓rMin2A, ↓rIntA, ↓rAbsA, bsel_true, bsel_false, wipeN, gNm, tYesA, ↓isNon, ↓isBlOf, ↓isI, ↓isB, ↓isS, ↓isT, ↓isL, Bool.or_false, Bool.or_true, Bool.false_or, Bool.true_or, ↓wList, ↓eLc, ↓rLenA, ↓sFor, ↓sWhile, ↓wRng1, ↓wRng2, ↓wTup, Bool.not_true, Bool.not_false, Bool.false_eq_true, ↓reduceIte, Bool.not_not])
  refine ⟨vs, rfl, fun i nv S' => S' = S ∧ ∃ v : Option A, nv = [some (.ref f), some (.lst xs), some (.lst vs), some (.ref g), v], ⟨rfl, none, rfl⟩, fun _ _ _ _ _ => rfl, ?_, ?_⟩
  · rintro i x nv S' hx ⟨rfl, v, rfl⟩
    obtain ⟨r, r1, r2, hr3⟩ := hv x (List.mem_of_getElem? hx)
    (try simp only [startN, List.map_cons, List.map_nil, List.length_cons, List.length_nil, Nat.reduceAdd, Nat.reduceSub, Nat.zero_add, Nat.sub_self, List.replicate_succ, List.replicate_zero, List.reduceReplicate, List.cons_append, List.nil_append, List.append_nil, ↓sRet, ↓sRetN, ↓sSeq, ↓sNil, ↓sIf, ↓sSet, ↓sPar, ↓sDrop, ↓sSetL, ↓eAnd, ↓eOr, ↓eNot, ↓eIf, ↓eNeg, ↓eCall, ↓eCallK, ↓eCallV, ↓lCons, ↓lNil, ↓eVar, ↓eC, ↓eTup, ↓eLst, ↓eLstC, ↓eOp, ↓eSl, ↓oNo, ↓oPart, ↓eBits, ↓tBool, ↓tAndA, ↓tOrA, ↓tNotA, ↓List.getElem?_cons_zero, ↓List.getElem?_cons_succ, ↓List.set_cons_zero, ↓List.set_cons_succ, ↓rInt, ↓rInt0, ↓rAddA, ↓rEqA, ↓rIsA, ↓rMax2A, ↓rMin2A, ↓rIntA, ↓rAbsA, bsel_true, bsel_false, wipeN, gNm, tYesA, ↓isNon, ↓isBlOf, ↓isI, ↓isB, ↓isS, ↓isT, ↓isL, Bool.or_false, Bool.or_true, Bool.false_or, Bool.true_or, ↓wList, ↓eLc, ↓rLenA, ↓sFor, ↓sWhile, ↓wRng1, ↓wRng2, ↓wTup, Bool.not_true, Bool.not_false, Bool.false_eq_true, ↓reduceIte, Bool.not_not])
    refine ⟨_, _, rfl, rfl, by rw [PySem.sizeLine_eq]; simp only [List.length_cons, List.length_nil]; omega, ?_⟩
    refine ⟨f, _, s1, rfl, by rw [List.length_append]; simp, by rw [List.length_append]; simp only [List.length_cons, List.length_nil]; omega, h1, (hr3 _ ?_).1⟩
    refine ⟨s2, h2, (hr3 _ ?_).2⟩
    refine ⟨r, r, rfl, r1, r1, r2, fun b hb => ?_⟩
    (try simp only [startN, List.map_cons, List.map_nil, List.length_cons, List.length_nil, Nat.reduceAdd, Nat.reduceSub, Nat.zero_add, Nat.sub_self, List.replicate_succ, List.replicate_zero, List.reduceReplicate, List.cons_append, List.nil_append, List.append_nil, ↓sRet, ↓sRetN, ↓sSeq, ↓sNil, ↓sIf, ↓sSet, ↓sPar, ↓sDrop, ↓sSetL, ↓eAnd, ↓eOr, ↓eNot, ↓eIf, ↓eNeg, ↓eCall, ↓eCallK, ↓eCallV, ↓lCons, ↓lNil, ↓eVar, ↓eC, ↓eTup, ↓eLst, ↓eLstC, ↓eOp, ↓eSl, ↓oNo, ↓oPart, ↓eBits, ↓tBool, ↓tAndA, ↓tOrA, ↓tNotA, ↓List.getElem?_cons_zero, ↓List.getElem?_cons_succ, ↓List.set_cons_zero, ↓List.set_cons_succ, ↓rInt, ↓rInt0, ↓rAddA, ↓rEqA, ↓rIsA, ↓rMax2A, ↓rMin2A, ↓rIntA, ↓rAbsA, bsel_true, bsel_false, wipeN, gNm, tYesA, ↓isNon, ↓isBlOf, ↓isI, ↓isB, ↓isS, ↓isT, ↓isL, Bool.or_false, Bool.or_true, Bool.false_or, Bool.true_or, ↓wList, ↓eLc, ↓rLenA, ↓sFor, ↓sWhile, ↓wRng1, ↓wRng2, ↓wTup, Bool.not_true, Bool.not_false, Bool.false_eq_true, ↓reduceIte, Bool.not_not])
    refine bsel_f (by rw [hb.mpr rfl]; rfl) ?_
    exact ⟨trivial, _, rfl⟩
  · rintro nv S' ⟨rfl, v, rfl⟩
    (try simp only [startN, List.map_cons, List.map_nil, List.length_cons, List.length_nil, Nat.reduceAdd, Nat.reduceSub, Nat.zero_add, Nat.sub_self, List.replicate_succ, List.replicate_zero, List.reduceReplicate, List.cons_append, List.nil_append, List.append_nil, ↓sRet, ↓sRetN, ↓sSeq, ↓sNil, ↓sIf, ↓sSet, ↓sPar, ↓sDrop, ↓sSetL, ↓eAnd, ↓eOr, ↓eNot, ↓eIf, ↓eNeg, ↓eCall, ↓eCallK, ↓eCallV, ↓lCons, ↓lNil, ↓eVar, ↓eC, ↓eTup, ↓eLst, ↓eLstC, ↓eOp, ↓eSl, ↓oNo, ↓oPart, ↓eBits, ↓tBool, ↓tAndA, ↓tOrA, ↓tNotA, ↓List.getElem?_cons_zero, ↓List.getElem?_cons_succ, ↓List.set_cons_zero, ↓List.set_cons_succ, ↓rInt, ↓rInt0, ↓rAddA, ↓rEqA, ↓rIsA, ↓rMax2A, ↓rMin2A, ↓rIntA, ↓rAbsA, bsel_true, bsel_false, wipeN, gNm, tYesA, ↓isNon, ↓isBlOf, ↓isI, ↓isB, ↓isS, ↓isT, ↓isL, Bool.or_false, Bool.or_true, Bool.false_or, Bool.true_or, ↓wList, ↓eLc, ↓rLenA, ↓sFor, ↓sWhile, ↓wRng1, ↓wRng2, ↓wTup, Bool.not_true, Bool.not_false, Bool.false_eq_true, ↓reduceIte, Bool.not_not])
    exact k
/-! ### _law_plus -/
abbrev s__law_plus : Stmt := topS 22
theorem sc__law_plus : FnScope ["one", "other"] ["one", "other"] (defScope s__law_plus) := ⟨rfl, rfl, rfl, by decide +kernel, rfl, by decide +kernel, by decide +kernel⟩
theorem bd__law_plus (kV doc pm : Value) (an : Option Addr) (cdv ct : Value) (us : List Value) (hl : us.length = (["one", "other"] : List Str).length) : bindArgs (PySem.W.fnOf "_law_plus" "_law_plus" (defArgs s__law_plus) (defBody s__law_plus) (defScope s__law_plus) .none kV doc pm an cdv ct) ⟨us, []⟩ = pure ((["one", "other"] : List Str).zip us) :=
  match us, hl with | [_, _], _ => rfl
--len len_two
theorem got__law_plus {P : Program} {w : World} {K : PySem.W.Frag} {mg : Str → Option Value} {base : Heap} {f__law_lowest f__law_plus : Addr} (B : Bi mg) (D : Def K mg "_law_plus" s__law_plus f__law_plus) (G__law_lowest : Got P w K mg base 2 ["number", "bottom"] "_law_lowest" s__law_lowest f__law_lowest sp__law_lowest) :
    Got P w K mg base (2 + 1) ["one", "other"] "_law_plus" s__law_plus f__law_plus (sp_two plusA) := by
  refine got_of D sc__law_plus (len_two) (bd__law_plus) (fun cdv A0 outer s0_ H E hr => ⟨_, (sb_one (sa_ret (ea_call G__law_lowest (hr.mono (by omega)) (la_cons (ea_op oa_add (ea_op oa_mul (ea_ix (ea_var 0) ea_int) (ea_ix (ea_var 1) ea_int)) (ea_op oa_mul (ea_ix (ea_var 1) ea_int) (ea_ix (ea_var 0) ea_int))) (la_cons (ea_op oa_mul (ea_ix (ea_var 0) ea_int) (ea_ix (ea_var 1) ea_int)) la_nil))))), fun as S P h => ?_⟩)
  obtain ⟨a, b, c, d, rfl, ha, hb, hc, hd, nb, nd, k⟩ := h
  (try simp only [startN, List.map_cons, List.map_nil, List.length_cons, List.length_nil, Nat.reduceAdd, Nat.reduceSub, Nat.zero_add, Nat.sub_self, List.replicate_succ, List.replicate_zero, List.reduceReplicate, List.cons_append, List.nil_append, List.append_nil, ↓sRet, ↓sRetN, ↓sSeq, ↓sNil, ↓sIf, ↓sSet, ↓sPar, ↓sDrop, ↓sSetL, ↓eAnd, ↓eOr, ↓eNot, ↓eIf, ↓eNeg, ↓eCall, ↓eCallK, ↓eCallV, ↓lCons, ↓lNil, ↓eVar, ↓eC, ↓eTup, ↓eLst, ↓eLstC, ↓eOp, ↓eSl, ↓oNo, ↓oPart, ↓eBits, ↓tBool, ↓tAndA, ↓tOrA, ↓tNotA, ↓List.getElem?_cons_zero, ↓List.getElem?_cons_succ, ↓List.set_cons_zero, ↓List.set_cons_succ, ↓rInt, ↓rInt0, ↓rAddA, ↓rEqA, ↓rIsA, ↓rMax2A, ↓rMin2A, ↓rIntA, ↓rAbsA, bsel_true, bsel_false, wipeN, gNm, tYesA, ↓isNon, ↓isBlOf, ↓isI, ↓isB, ↓isS, ↓isT, ↓isL, Bool.or_false, Bool.or_true, Bool.false_or, Bool.true_or, ↓wList, ↓eLc, ↓rLenA, ↓sFor, ↓sWhile, ↓wRng1, ↓wRng2, ↓wTup, Bool.not_true, Bool.not_false, Bool.false_eq_true, ↓reduceIte, Bool.not_not])
  refine ⟨.int a, rfl, .int d, rfl, ?_⟩
  (try simp only [startN, List.map_cons, List.map_nil, List.length_cons, List.length_nil, Nat.reduceAdd, Nat.reduceSub, Nat.zero_add, Nat.sub_self, List.replicate_succ, List.replicate_zero, List.reduceReplicate, List.cons_append, List.nil_append, List.append_nil, ↓sRet, ↓sRetN, ↓sSeq, ↓sNil, ↓sIf, ↓sSet, ↓sPar, ↓sDrop, ↓sSetL, ↓eAnd, ↓eOr, ↓eNot, ↓eIf, ↓eNeg, ↓eCall, ↓eCallK, ↓eCallV, ↓lCons, ↓lNil, ↓eVar, ↓eC, ↓eTup, ↓eLst, ↓eLstC, ↓eOp, ↓eSl, ↓oNo, ↓oPart, ↓eBits, ↓tBool, ↓tAndA, ↓tOrA, ↓tNotA, ↓List.getElem?_cons_zero, ↓List.getElem?_cons_succ, ↓List.set_cons_zero, ↓List.set_cons_succ, ↓rInt, ↓rInt0, ↓rAddA, ↓rEqA, ↓rIsA, ↓rMax2A, ↓rMin2A, ↓rIntA, ↓rAbsA, bsel_true, bsel_false, wipeN, gNm, tYesA, ↓isNon, ↓isBlOf, ↓isI, ↓isB, ↓isS, ↓isT, ↓isL, Bool.or_false, Bool.or_true, Bool.false_or, Bool.true_or, ↓wList, ↓eLc, ↓rLenA, ↓sFor, ↓sWhile, ↓wRng1, ↓wRng2, ↓wTup, Bool.not_true, Bool.not_false, Bool.false_eq_true, ↓reduceIte, Bool.not_not])
  refine ⟨ha.mulW hd, .int c, rfl, .int b, rfl, ?_⟩
  (try simp only [startN, List.map_cons, List.map_nil, List.length_cons, List.length_nil, Nat.reduceAdd, Nat.reduceSub, Nat.zero_add, Nat.sub_self, List.replicate_succ, List.replicate_zero, List.reduceReplicate, List.cons_append, List.nil_append, List.append_nil, ↓sRet, ↓sRetN, ↓sSeq, ↓sNil, ↓sIf, ↓sSet, ↓sPar, ↓sDrop, ↓sSetL, ↓eAnd, ↓eOr, ↓eNot, ↓eIf, ↓eNeg, ↓eCall, ↓eCallK, ↓eCallV, ↓lCons, ↓lNil, ↓eVar, ↓eC, ↓eTup, ↓eLst, ↓eLstC, ↓eOp, ↓eSl, ↓oNo, ↓oPart, ↓eBits, ↓tBool, ↓tAndA, ↓tOrA, ↓tNotA, ↓List.getElem?_cons_zero, ↓List.getElem?_cons_succ, ↓List.set_cons_zero, ↓List.set_cons_succ, ↓rInt, ↓rInt0, ↓rAddA, ↓rEqA, ↓rIsA, ↓rMax2A, ↓rMin2A, ↓rIntA, ↓rAbsA, bsel_true, bsel_false, wipeN, gNm, tYesA, ↓isNon, ↓isBlOf, ↓isI, ↓isB, ↓isS, ↓isT, ↓isL, Bool.or_false, Bool.or_true, Bool.false_or, Bool.true_or, ↓wList, ↓eLc, ↓rLenA, ↓sFor, ↓sWhile, ↓wRng1, ↓wRng2, ↓wTup, Bool.not_true, Bool.not_false, Bool.false_eq_true, ↓reduceIte, Bool.not_not])
  refine ⟨hc.mulW hb, .int b, rfl, .int d, rfl, ?_⟩
  (try simp only [startN, List.map_cons, List.map_nil, List.length_cons, List.length_nil, Nat.reduceAdd, Nat.reduceSub, Nat.zero_add, Nat.sub_self, List.replicate_succ, List.replicate_zero, List.reduceReplicate, List.cons_append, List.nil_append, List.append_nil, ↓sRet, ↓sRetN, ↓sSeq, ↓sNil, ↓sIf, ↓sSet, ↓sPar, ↓sDrop, ↓sSetL, ↓eAnd, ↓eOr, ↓eNot, ↓eIf, ↓eNeg, ↓eCall, ↓eCallK, ↓eCallV, ↓lCons, ↓lNil, ↓eVar, ↓eC, ↓eTup, ↓eLst, ↓eLstC, ↓eOp, ↓eSl, ↓oNo, ↓oPart, ↓eBits, ↓tBool, ↓tAndA, ↓tOrA, ↓tNotA, ↓List.getElem?_cons_zero, ↓List.getElem?_cons_succ, ↓List.set_cons_zero, ↓List.set_cons_succ, ↓rInt, ↓rInt0, ↓rAddA, ↓rEqA, ↓rIsA, ↓rMax2A, ↓rMin2A, ↓rIntA, ↓rAbsA, bsel_true, bsel_false, wipeN, gNm, tYesA, ↓isNon, ↓isBlOf, ↓isI, ↓isB, ↓isS, ↓isT, ↓isL, Bool.or_false, Bool.or_true, Bool.false_or, Bool.true_or, ↓wList, ↓eLc, ↓rLenA, ↓sFor, ↓sWhile, ↓wRng1, ↓wRng2, ↓wTup, Bool.not_true, Bool.not_false, Bool.false_eq_true, ↓reduceIte, Bool.not_not])
  exact ⟨hb.mulW hd, _, _, rfl, Int.mul_ne_zero nb nd, ((ha.mul hd).add (hc.mul hb)).le, (hb.mul hd).le, k⟩
/-! ### _law_minus -/
abbrev s__law_minus : Stmt := topS 23
theorem sc__law_minus : FnScope ["one", "other"] ["one", "other"] (defScope s__law_minus) := ⟨rfl, rfl, rfl, by decide +kernel, rfl, by decide +kernel, by decide +kernel⟩
theorem bd__law_minus (kV doc pm : Value) (an : Option Addr) (cdv ct : Value) (us : List Value) (hl : us.length = (["one", "other"] : List Str).length) : bindArgs (PySem.W.fnOf "_law_minus" "_law_minus" (defArgs s__law_minus) (defBody s__law_minus) (defScope s__law_minus) .none kV doc pm an cdv ct) ⟨us, []⟩ = pure ((["one", "other"] : List Str).zip us) :=
  match us, hl with | [_, _], _ => rfl
--len len_two
theorem got__law_minus {P : Program} {w : World} {K : PySem.W.Frag} {mg : Str → Option Value} {base : Heap} {f__law_lowest f__law_minus : Addr} (B : Bi mg) (D : Def K mg "_law_minus" s__law_minus f__law_minus) (G__law_lowest : Got P w K mg base 2 ["number", "bottom"] "_law_lowest" s__law_lowest f__law_lowest sp__law_lowest) :
    Got P w K mg base (2 + 1) ["one", "other"] "_law_minus" s__law_minus f__law_minus (sp_two minusA) := by
  refine got_of D sc__law_minus (len_two) (bd__law_minus) (fun cdv A0 outer s0_ H E hr => ⟨_, (sb_one (sa_ret (ea_call G__law_lowest (hr.mono (by omega)) (la_cons (ea_op oa_sub (ea_op oa_mul (ea_ix (ea_var 0) ea_int) (ea_ix (ea_var 1) ea_int)) (ea_op oa_mul (ea_ix (ea_var 1) ea_int) (ea_ix (ea_var 0) ea_int))) (la_cons (ea_op oa_mul (ea_ix (ea_var 0) ea_int) (ea_ix (ea_var 1) ea_int)) la_nil))))), fun as S P h => ?_⟩)
  obtain ⟨a, b, c, d, rfl, ha, hb, hc, hd, nb, nd, k⟩ := h
  (try simp only [startN, List.map_cons, List.map_nil, List.length_cons, List.length_nil, Nat.reduceAdd, Nat.reduceSub, Nat.zero_add, Nat.sub_self, List.replicate_succ, List.replicate_zero, List.reduceReplicate, List.cons_append, List.nil_append, List.append_nil, ↓sRet, ↓sRetN, ↓sSeq, ↓sNil, ↓sIf, ↓sSet, ↓sPar, ↓sDrop, ↓sSetL, ↓eAnd, ↓eOr, ↓eNot, ↓eIf, ↓eNeg, ↓eCall, ↓eCallK, ↓eCallV, ↓lCons, ↓lNil, ↓eVar, ↓eC, ↓eTup, ↓eLst, ↓eLstC, ↓eOp, ↓eSl, ↓oNo, ↓oPart, ↓eBits, ↓tBool, ↓tAndA, ↓tOrA, ↓tNotA, ↓List.getElem?_cons_zero, ↓List.getElem?_cons_succ, ↓List.set_cons_zero, ↓List.set_cons_succ, ↓rInt, ↓rInt0, ↓rAddA, ↓rEqA, ↓rIsA, ↓rMax2A, ↓rMin2A, ↓rIntA, ↓rAbsA, bsel_true, bsel_false, wipeN, gNm, tYesA, ↓isNon, ↓isBlOf, ↓isI, ↓isB, ↓isS, ↓isT, ↓isL, Bool.or_false, Bool.or_true, Bool.false_or, Bool.true_or, ↓wList, ↓eLc, ↓rLenA, ↓sFor, ↓sWhile, ↓wRng1, ↓wRng2, ↓wTup, Bool.not_true, Bool.not_false, Bool.false_eq_true, ↓reduceIte, Bool.not_not])
  refine ⟨.int a, rfl, .int d, rfl, ?_⟩
  (try simp only [startN, List.map_cons, List.map_nil, List.length_cons, List.length_nil, Nat.reduceAdd, Nat.reduceSub, Nat.zero_add, Nat.sub_self, List.replicate_succ, List.replicate_zero, List.reduceReplicate, List.cons_append, List.nil_append, List.append_nil, ↓sRet, ↓sRetN, ↓sSeq, ↓sNil, ↓sIf, ↓sSet, ↓sPar, ↓sDrop, ↓sSetL, ↓eAnd, ↓eOr, ↓eNot, ↓eIf, ↓eNeg, ↓eCall, ↓eCallK, ↓eCallV, ↓lCons, ↓lNil, ↓eVar, ↓eC, ↓eTup, ↓eLst, ↓eLstC, ↓eOp, ↓eSl, ↓oNo, ↓oPart, ↓eBits, ↓tBool, ↓tAndA, ↓tOrA, ↓tNotA, ↓List.getElem?_cons_zero, ↓List.getElem?_cons_succ, ↓List.set_cons_zero, ↓List.set_cons_succ, ↓rInt, ↓rInt0, ↓rAddA, ↓rEqA, ↓rIsA, ↓rMax2A, ↓rMin2A, ↓rIntA, ↓rAbsA, bsel_true, bsel_false, wipeN, gNm, tYesA, ↓isNon, ↓isBlOf, ↓isI, ↓isB, ↓isS, ↓isT, ↓isL, Bool.or_false, Bool.or_true, Bool.false_or, Bool.true_or, ↓wList, ↓eLc, ↓rLenA, ↓sFor, ↓sWhile, ↓wRng1, ↓wRng2, ↓wTup, Bool.not_true, Bool.not_false, Bool.false_eq_true, ↓reduceIte, Bool.not_not])
  refine ⟨ha.mulW hd, .int c, rfl, .int b, rfl, ?_⟩
  (try simp only [startN, List.map_cons, List.map_nil, List.length_cons, List.length_nil, Nat.reduceAdd, Nat.reduceSub, Nat.zero_add, Nat.sub_self, List.replicate_succ, List.replicate_zero, List.reduceReplicate, List.cons_append, List.nil_append, List.append_nil, ↓sRet, ↓sRetN, ↓sSeq, ↓sNil, ↓sIf, ↓sSet, ↓sPar, ↓sDrop, ↓sSetL, ↓eAnd, ↓eOr, ↓eNot, ↓eIf, ↓eNeg, ↓eCall, ↓eCallK, ↓eCallV, ↓lCons, ↓lNil, ↓eVar, ↓eC, ↓eTup, ↓eLst, ↓eLstC, ↓eOp, ↓eSl, ↓oNo, ↓oPart, ↓eBits, ↓tBool, ↓tAndA, ↓tOrA, ↓tNotA, ↓List.getElem?_cons_zero, ↓List.getElem?_cons_succ, ↓List.set_cons_zero, ↓List.set_cons_succ, ↓rInt, ↓rInt0, ↓rAddA, ↓rEqA, ↓rIsA, ↓rMax2A, ↓rMin2A, ↓rIntA, ↓rAbsA, bsel_true, bsel_false, wipeN, gNm, tYesA, ↓isNon, ↓isBlOf, ↓isI, ↓isB, ↓isS, ↓isT, ↓isL, Bool.or_false, Bool.or_true, Bool.false_or, Bool.true_or, ↓wList, ↓eLc, ↓rLenA, ↓sFor, ↓sWhile, ↓wRng1, ↓wRng2, ↓wTup, Bool.not_true, Bool.not_false, Bool.false_eq_true, ↓reduceIte, Bool.not_not])
  refine ⟨hc.mulW hb, .int b, rfl, .int d, rfl, ?_⟩
  (try simp only [startN, List.map_cons, List.map_nil, List.length_cons, List.length_nil, Nat.reduceAdd, Nat.reduceSub, Nat.zero_add, Nat.sub_self, List.replicate_succ, List.replicate_zero, List.reduceReplicate, List.cons_append, List.nil_append, List.append_nil, ↓sRet, ↓sRetN, ↓sSeq, ↓sNil, ↓sIf, ↓sSet, ↓sPar, ↓sDrop, ↓sSetL, ↓eAnd, ↓eOr, ↓eNot, ↓eIf, ↓eNeg, ↓eCall, ↓eCallK, ↓eCallV, ↓lCons, ↓lNil, ↓eVar, ↓eC, ↓eTup, ↓eLst, ↓eLstC, ↓eOp, ↓eSl, ↓oNo, ↓oPart, ↓eBits, ↓tBool, ↓tAndA, ↓tOrA, ↓tNotA, ↓List.getElem?_cons_zero, ↓List.getElem?_cons_succ, ↓List.set_cons_zero, ↓List.set_cons_succ, ↓rInt, ↓rInt0, ↓rAddA, ↓rEqA, ↓rIsA, ↓rMax2A, ↓rMin2A, ↓rIntA, ↓rAbsA, bsel_true, bsel_false, wipeN, gNm, tYesA, ↓isNon, ↓isBlOf, ↓isI, ↓isB, ↓isS, ↓isT, ↓isL, Bool.or_false, Bool.or_true, Bool.false_or, Bool.true_or, ↓wList, ↓eLc, ↓rLenA, ↓sFor, ↓sWhile, ↓wRng1, ↓wRng2, ↓wTup, Bool.not_true, Bool.not_false, Bool.false_eq_true, ↓reduceIte, Bool.not_not])
  exact ⟨hb.mulW hd, _, _, rfl, Int.mul_ne_zero nb nd, ((ha.mul hd).sub (hc.mul hb)).le, (hb.mul hd).le, k⟩
/-! ### _law_less -/
abbrev s__law_less : Stmt := topS 24
theorem sc__law_less : FnScope ["one", "other"] ["one", "other"] (defScope s__law_less) := ⟨rfl, rfl, rfl, by decide +kernel, rfl, by decide +kernel, by decide +kernel⟩
theorem bd__law_less (kV doc pm : Value) (an : Option Addr) (cdv ct : Value) (us : List Value) (hl : us.length = (["one", "other"] : List Str).length) : bindArgs (PySem.W.fnOf "_law_less" "_law_less" (defArgs s__law_less) (defBody s__law_less) (defScope s__law_less) .none kV doc pm an cdv ct) ⟨us, []⟩ = pure ((["one", "other"] : List Str).zip us) :=
  match us, hl with | [_, _], _ => rfl
def lessA (a b c d : Int) : A := .bl (decide (a * d < c * b))
--len len_two
theorem got__law_less {P : Program} {w : World} {K : PySem.W.Frag} {mg : Str → Option Value} {base : Heap} {f__law_less : Addr} (B : Bi mg) (D : Def K mg "_law_less" s__law_less f__law_less) :
    Got P w K mg base (0 + 1) ["one", "other"] "_law_less" s__law_less f__law_less (sp_two lessA) := by
  refine got_of D sc__law_less (len_two) (bd__law_less) (fun cdv A0 outer s0_ H E hr => ⟨_, (sb_one (sa_ret (ea_cmp oa_lt (ea_op oa_mul (ea_ix (ea_var 0) ea_int) (ea_ix (ea_var 1) ea_int)) (ea_op oa_mul (ea_ix (ea_var 1) ea_int) (ea_ix (ea_var 0) ea_int))))), fun as S P h => ?_⟩)
  obtain ⟨a, b, c, d, rfl, ha, hb, hc, hd, nb, nd, k⟩ := h
  (try simp only [startN, List.map_cons, List.map_nil, List.length_cons, List.length_nil, Nat.reduceAdd, Nat.reduceSub, Nat.zero_add, Nat.sub_self, List.replicate_succ, List.replicate_zero, List.reduceReplicate, List.cons_append, List.nil_append, List.append_nil, ↓sRet, ↓sRetN, ↓sSeq, ↓sNil, ↓sIf, ↓sSet, ↓sPar, ↓sDrop, ↓sSetL, ↓eAnd, ↓eOr, ↓eNot, ↓eIf, ↓eNeg, ↓eCall, ↓eCallK, ↓eCallV, ↓lCons, ↓lNil, ↓eVar, ↓eC, ↓eTup, ↓eLst, ↓eLstC, ↓eOp, ↓eSl, ↓oNo, ↓oPart, ↓eBits, ↓tBool, ↓tAndA, ↓tOrA, ↓tNotA, ↓List.getElem?_cons_zero, ↓List.getElem?_cons_succ, ↓List.set_cons_zero, ↓List.set_cons_succ, ↓rInt, ↓rInt0, ↓rAddA, ↓rEqA, ↓rIsA, ↓rMax2A, ↓rMin2A, ↓rIntA, ↓rAbsA, bsel_true, bsel_false, wipeN, gNm, tYesA, ↓isNon, ↓isBlOf, ↓isI, ↓isB, ↓isS, ↓isT, ↓isL, Bool.or_false, Bool.or_true, Bool.false_or, Bool.true_or, ↓wList, ↓eLc, ↓rLenA, ↓sFor, ↓sWhile, ↓wRng1, ↓wRng2, ↓wTup, Bool.not_true, Bool.not_false, Bool.false_eq_true, ↓reduceIte, Bool.not_not])
  refine ⟨.int a, rfl, .int d, rfl, ?_⟩
  (try simp only [startN, List.map_cons, List.map_nil, List.length_cons, List.length_nil, Nat.reduceAdd, Nat.reduceSub, Nat.zero_add, Nat.sub_self, List.replicate_succ, List.replicate_zero, List.reduceReplicate, List.cons_append, List.nil_append, List.append_nil, ↓sRet, ↓sRetN, ↓sSeq, ↓sNil, ↓sIf, ↓sSet, ↓sPar, ↓sDrop, ↓sSetL, ↓eAnd, ↓eOr, ↓eNot, ↓eIf, ↓eNeg, ↓eCall, ↓eCallK, ↓eCallV, ↓lCons, ↓lNil, ↓eVar, ↓eC, ↓eTup, ↓eLst, ↓eLstC, ↓eOp, ↓eSl, ↓oNo, ↓oPart, ↓eBits, ↓tBool, ↓tAndA, ↓tOrA, ↓tNotA, ↓List.getElem?_cons_zero, ↓List.getElem?_cons_succ, ↓List.set_cons_zero, ↓List.set_cons_succ, ↓rInt, ↓rInt0, ↓rAddA, ↓rEqA, ↓rIsA, ↓rMax2A, ↓rMin2A, ↓rIntA, ↓rAbsA, bsel_true, bsel_false, wipeN, gNm, tYesA, ↓isNon, ↓isBlOf, ↓isI, ↓isB, ↓isS, ↓isT, ↓isL, Bool.or_false, Bool.or_true, Bool.false_or, Bool.true_or, ↓wList, ↓eLc, ↓rLenA, ↓sFor, ↓sWhile, ↓wRng1, ↓wRng2, ↓wTup, Bool.not_true, Bool.not_false, Bool.false_eq_true, ↓reduceIte, Bool.not_not])
  refine ⟨ha.mulW hd, .int c, rfl, .int b, rfl, ?_⟩
  (try simp only [startN, List.map_cons, List.map_nil, List.length_cons, List.length_nil, Nat.reduceAdd, Nat.reduceSub, Nat.zero_add, Nat.sub_self, List.replicate_succ, List.replicate_zero, List.reduceReplicate, List.cons_append, List.nil_append, List.append_nil, ↓sRet, ↓sRetN, ↓sSeq, ↓sNil, ↓sIf, ↓sSet, ↓sPar, ↓sDrop, ↓sSetL, ↓eAnd, ↓eOr, ↓eNot, ↓eIf, ↓eNeg, ↓eCall, ↓eCallK, ↓eCallV, ↓lCons, ↓lNil, ↓eVar, ↓eC, ↓eTup, ↓eLst, ↓eLstC, ↓eOp, ↓eSl, ↓oNo, ↓oPart, ↓eBits, ↓tBool, ↓tAndA, ↓tOrA, ↓tNotA, ↓List.getElem?_cons_zero, ↓List.getElem?_cons_succ, ↓List.set_cons_zero, ↓List.set_cons_succ, ↓rInt, ↓rInt0, ↓rAddA, ↓rEqA, ↓rIsA, ↓rMax2A, ↓rMin2A, ↓rIntA, ↓rAbsA, bsel_true, bsel_false, wipeN, gNm, tYesA, ↓isNon, ↓isBlOf, ↓isI, ↓isB, ↓isS, ↓isT, ↓isL, Bool.or_false, Bool.or_true, Bool.false_or, Bool.true_or, ↓wList, ↓eLc, ↓rLenA, ↓sFor, ↓sWhile, ↓wRng1, ↓wRng2, ↓wTup, Bool.not_true, Bool.not_false, Bool.false_eq_true, ↓reduceIte, Bool.not_not])
  exact ⟨hc.mulW hb, k⟩
theorem low_pos {n d : Int} (h : 0 < d) : ∃ a b : Int, lowA n d = .tup [.int a, .int b] ∧ 0 < b ∧ Int.gcd a b = 1 ∧ a.natAbs ≤ n.natAbs ∧ b.natAbs ≤ d.natAbs := by
  have hc : lowC n d = (Int.gcd n d : Int) := if_neg (by omega)
  have hg : 0 < Int.gcd n d := Int.gcd_pos_of_ne_zero_right n (by omega)
  have hg2 : (0 : Int) < (Int.gcd n d : Int) := by omega
  have hb : 0 < d / (Int.gcd n d : Int) := by
    obtain ⟨q, hq⟩ := Int.gcd_dvd_right n d
    have : d / (Int.gcd n d : Int) = q := by
      conv => lhs; lhs; rw [hq]
      exact Int.mul_ediv_cancel_left q (by omega)
    rw [this]
    rcases Int.lt_or_le 0 q with z | z
    · exact z
    · have := Int.mul_nonpos_of_nonneg_of_nonpos (show 0 ≤ (Int.gcd n d : Int) by omega) z
      omega
  refine ⟨n / (Int.gcd n d : Int), d / (Int.gcd n d : Int), ?_, hb, Int.gcd_ediv_gcd_ediv_gcd hg, Int.natAbs_ediv_le_natAbs _ _, Int.natAbs_ediv_le_natAbs _ _⟩
  unfold lowA
  rw [hc, Int.fdiv_eq_ediv_of_nonneg _ (by omega), Int.fdiv_eq_ediv_of_nonneg _ (by omega)]
theorem fr_eq {a b c d : Int} (hb : 0 < b) (hd : 0 < d) (g1 : Int.gcd a b = 1) (g2 : Int.gcd c d = 1) (h : a * d = c * b) : a = c ∧ b = d := by
  have h1 : b ∣ d := by
    exact int_dvd g1 ⟨c, by rw [h, Int.mul_comm]⟩
  have h2 : d ∣ b := by
    exact int_dvd g2 ⟨a, by rw [← h, Int.mul_comm]⟩
  have e : b = d := Int.dvd_antisymm (by omega) (by omega) h1 h2
  subst e
  exact ⟨Int.eq_of_mul_eq_mul_right (by omega) h, rfl⟩
/-! ### _law_drawn_fraction -/
abbrev s__law_drawn_fraction : Stmt := topS 25
theorem sc__law_drawn_fraction : FnScope ["generator", "most"] ["generator", "most"] (defScope s__law_drawn_fraction) := ⟨rfl, rfl, rfl, by decide +kernel, rfl, by decide +kernel, by decide +kernel⟩
theorem bd__law_drawn_fraction (kV doc pm : Value) (an : Option Addr) (cdv ct : Value) (us : List Value) (hl : us.length = (["generator", "most"] : List Str).length) : bindArgs (PySem.W.fnOf "_law_drawn_fraction" "_law_drawn_fraction" (defArgs s__law_drawn_fraction) (defBody s__law_drawn_fraction) (defScope s__law_drawn_fraction) .none kV doc pm an cdv ct) ⟨us, []⟩ = pure ((["generator", "most"] : List Str).zip us) :=
  match us, hl with | [_, _], _ => rfl
def sp__law_drawn_fraction : SpA := fun as S P => ∃ (g : Addr) (m : Int) (n : Nat) (l : List A), as = [.ref g, .int m] ∧ S g = some (.lst l) ∧ GenL n l ∧ 0 ≤ m ∧ Bd 200 m ∧ n ≤ 100000000000 ∧
  ∀ (a b : Int) (l' : List A), 0 < b → Int.gcd a b = 1 → Bd 202 a → Bd 202 b → GenL (n + 300) l' → P (.tup [.int a, .int b]) (sup S g (.lst l'))
--len by rintro as S P ⟨_, _, _, _, rfl, _⟩; rfl
theorem got__law_drawn_fraction {P : Program} {w : World} {K : PySem.W.Frag} {mg : Str → Option Value} {base : Heap} {f__law_drawn_fraction f__law_lowest f__law_pick f__law_random : Addr} (B : Bi mg) (D : Def K mg "_law_drawn_fraction" s__law_drawn_fraction f__law_drawn_fraction) (G__law_lowest : Got P w K mg base 2 ["number", "bottom"] "_law_lowest" s__law_lowest f__law_lowest sp__law_lowest) (G__law_random : Got P w K mg base 2 ["generator", "bound"] "_law_random" s__law_random f__law_random sp__law_random) (G__law_pick : Got P w K mg base 3 ["generator", "things"] "_law_pick" s__law_pick f__law_pick sp__law_pick) :
    Got P w K mg base (3 + 1) ["generator", "most"] "_law_drawn_fraction" s__law_drawn_fraction f__law_drawn_fraction sp__law_drawn_fraction := by
  refine got_of D sc__law_drawn_fraction (by rintro as S P ⟨_, _, _, _, rfl, _⟩; rfl) (bd__law_drawn_fraction) (fun cdv A0 outer s0_ H E hr => ⟨_, (sb_one (sa_ret (ea_call G__law_lowest (hr.mono (by omega)) (la_cons (ea_op oa_sub (ea_call G__law_random (hr.mono (by omega)) (la_cons (ea_var 0) (la_cons (ea_op oa_add (ea_op oa_mul ea_int (ea_var 1)) ea_int) la_nil))) (ea_var 1)) (la_cons (ea_op oa_add ea_int (ea_call G__law_random (hr.mono (by omega)) (la_cons (ea_var 0) (la_cons (ea_call G__law_pick (hr.mono (by omega)) (la_cons (ea_var 0) (la_cons (ea_lst (la_cons ea_int (la_cons ea_int (la_cons ea_int (la_cons ea_int la_nil))))) la_nil))) la_nil)))) la_nil))))), fun as S P h => ?_⟩)
  obtain ⟨g, m, n, l, rfl, hg, gl, m0, mb, hn, k⟩ := h
  (try simp only [startN, List.map_cons, List.map_nil, List.length_cons, List.length_nil, Nat.reduceAdd, Nat.reduceSub, Nat.zero_add, Nat.sub_self, List.replicate_succ, List.replicate_zero, List.reduceReplicate, List.cons_append, List.nil_append, List.append_nil, ↓sRet, ↓sRetN, ↓sSeq, ↓sNil, ↓sIf, ↓sSet, ↓sPar, ↓sDrop, ↓sSetL, ↓eAnd, ↓eOr, ↓eNot, ↓eIf, ↓eNeg, ↓eCall, ↓eCallK, ↓eCallV, ↓lCons, ↓lNil, ↓eVar, ↓eC, ↓eTup, ↓eLst, ↓eLstC, ↓eOp, ↓eSl, ↓oNo, ↓oPart, ↓eBits, ↓tBool, ↓tAndA, ↓tOrA, ↓tNotA, ↓List.getElem?_cons_zero, ↓List.getElem?_cons_succ, ↓List.set_cons_zero, ↓List.set_cons_succ, ↓rInt, ↓rInt0, ↓rAddA, ↓rEqA, ↓rIsA, ↓rMax2A, ↓rMin2A, ↓rIntA, ↓rAbsA, bsel_true, bsel_false, wipeN, gNm, tYesA, ↓isNon, ↓isBlOf, ↓isI, ↓isB, ↓isS, ↓isT, ↓isL, Bool.or_false, Bool.or_true, Bool.false_or, Bool.true_or, ↓wList, ↓eLc, ↓rLenA, ↓sFor, ↓sWhile, ↓wRng1, ↓wRng2, ↓wTup, Bool.not_true, Bool.not_false, Bool.false_eq_true, ↓reduceIte, Bool.not_not])
  have h2m : Bd 202 (2 * m + 1) := by
    have := (Bd.mul (a := 2) (i := 2) (.small 2 (m := 2) (by decide)) mb)
    unfold Bd at *
    omega
  refine ⟨(Bd.mulW (a := 2) (i := 2) (.small 2 (m := 2) (by decide)) mb), g, _, n, l, rfl, hg, gl, by omega, h2m.le, by omega, fun r l1 r0 r1 gl1 => ?_⟩
  (try simp only [startN, List.map_cons, List.map_nil, List.length_cons, List.length_nil, Nat.reduceAdd, Nat.reduceSub, Nat.zero_add, Nat.sub_self, List.replicate_succ, List.replicate_zero, List.reduceReplicate, List.cons_append, List.nil_append, List.append_nil, ↓sRet, ↓sRetN, ↓sSeq, ↓sNil, ↓sIf, ↓sSet, ↓sPar, ↓sDrop, ↓sSetL, ↓eAnd, ↓eOr, ↓eNot, ↓eIf, ↓eNeg, ↓eCall, ↓eCallK, ↓eCallV, ↓lCons, ↓lNil, ↓eVar, ↓eC, ↓eTup, ↓eLst, ↓eLstC, ↓eOp, ↓eSl, ↓oNo, ↓oPart, ↓eBits, ↓tBool, ↓tAndA, ↓tOrA, ↓tNotA, ↓List.getElem?_cons_zero, ↓List.getElem?_cons_succ, ↓List.set_cons_zero, ↓List.set_cons_succ, ↓rInt, ↓rInt0, ↓rAddA, ↓rEqA, ↓rIsA, ↓rMax2A, ↓rMin2A, ↓rIntA, ↓rAbsA, bsel_true, bsel_false, wipeN, gNm, tYesA, ↓isNon, ↓isBlOf, ↓isI, ↓isB, ↓isS, ↓isT, ↓isL, Bool.or_false, Bool.or_true, Bool.false_or, Bool.true_or, ↓wList, ↓eLc, ↓rLenA, ↓sFor, ↓sWhile, ↓wRng1, ↓wRng2, ↓wTup, Bool.not_true, Bool.not_false, Bool.false_eq_true, ↓reduceIte, Bool.not_not])
  refine ⟨g, _, n + 100, l1, rfl, sup_same, gl1, by decide, by decide, by omega, fun z l2 hz gl2 => ?_⟩
  obtain ⟨zi, rfl, z0, z1⟩ : ∃ zi : Int, z = .int zi ∧ 0 < zi ∧ zi ≤ 12 := by
    simp only [List.mem_cons, List.not_mem_nil, or_false] at hz
    rcases hz with rfl | rfl | rfl | rfl <;> exact ⟨_, rfl, by decide, by decide⟩
  refine ⟨g, zi, n + 200, l2, rfl, by rw [sup_same], gl2, z0, .small 1000 (m := 12) (by omega) (Nat.lt_of_lt_of_le (by decide) (Nat.pow_le_pow_right (n := 2) (i := 10) (by decide) (by decide))), by omega, fun q l3 q0 q1 gl3 => ?_⟩
  (try simp only [startN, List.map_cons, List.map_nil, List.length_cons, List.length_nil, Nat.reduceAdd, Nat.reduceSub, Nat.zero_add, Nat.sub_self, List.replicate_succ, List.replicate_zero, List.reduceReplicate, List.cons_append, List.nil_append, List.append_nil, ↓sRet, ↓sRetN, ↓sSeq, ↓sNil, ↓sIf, ↓sSet, ↓sPar, ↓sDrop, ↓sSetL, ↓eAnd, ↓eOr, ↓eNot, ↓eIf, ↓eNeg, ↓eCall, ↓eCallK, ↓eCallV, ↓lCons, ↓lNil, ↓eVar, ↓eC, ↓eTup, ↓eLst, ↓eLstC, ↓eOp, ↓eSl, ↓oNo, ↓oPart, ↓eBits, ↓tBool, ↓tAndA, ↓tOrA, ↓tNotA, ↓List.getElem?_cons_zero, ↓List.getElem?_cons_succ, ↓List.set_cons_zero, ↓List.set_cons_succ, ↓rInt, ↓rInt0, ↓rAddA, ↓rEqA, ↓rIsA, ↓rMax2A, ↓rMin2A, ↓rIntA, ↓rAbsA, bsel_true, bsel_false, wipeN, gNm, tYesA, ↓isNon, ↓isBlOf, ↓isI, ↓isB, ↓isS, ↓isT, ↓isL, Bool.or_false, Bool.or_true, Bool.false_or, Bool.true_or, ↓wList, ↓eLc, ↓rLenA, ↓sFor, ↓sWhile, ↓wRng1, ↓wRng2, ↓wTup, Bool.not_true, Bool.not_false, Bool.false_eq_true, ↓reduceIte, Bool.not_not])
  obtain ⟨a, b, e, hb, hgcd, ha1, hb1⟩ := low_pos (n := r - m) (d := 1 + q) (by omega)
  have b1 : Bd 202 (r - m) := by
    unfold Bd at *
    omega
  have b2 : Bd 202 (1 + q) := by
    have : Bd 10 (1 + q) := .small 10 (m := 20) (by omega)
    exact this.le
  refine ⟨_, _, rfl, by omega, b1.le, b2.le, ?_⟩
  rw [e, sup_sup, sup_sup]
  exact k a b l3 hb hgcd (b1.of_le ha1) (b2.of_le hb1) gl3
theorem rEq_fr {S : Sto} {a b c d : Int} {P : A → Sto → Prop} (p : P (.bl (decide (a = c ∧ b = d))) S) : rEqDA false (.tup [.int a, .int b]) (.tup [.int c, .int d]) S P := by
  refine ⟨.tuple [.int a, .int b], .tuple [.int c, .int d], rfl, rfl, rfl, rfl, ?_⟩
  have e : PyData.eqv (.tuple [.int a, .int b]) (.tuple [.int c, .int d]) = decide (a = c ∧ b = d) := by
    simp only [PyData.eqv, PyData.eqvAll, Bool.and_true]
    rw [Bool.eq_iff_iff]
    simp
  rw [e]
  exact p
theorem kb_lowest_1_0 (kV doc pm : Value) (an : Option Addr) (cdv ct : Value) (us : List Value) (hl : us.length = (["bottom", "number"] : List Str).length) : bindArgs (PySem.W.fnOf "lowest" "lowest" (defArgs s_lowest) (defBody s_lowest) (defScope s_lowest) .none kV doc pm an cdv ct) ⟨[], (["bottom", "number"] : List Str).zip us⟩ = pure ((["number", "bottom"] : List Str).zip (byPl [1, 0] us)) :=
  match us, hl with | [_, _], _ => rfl
theorem kb_plus_1_0 (kV doc pm : Value) (an : Option Addr) (cdv ct : Value) (us : List Value) (hl : us.length = (["other", "one"] : List Str).length) : bindArgs (PySem.W.fnOf "plus" "plus" (defArgs s_plus) (defBody s_plus) (defScope s_plus) .none kV doc pm an cdv ct) ⟨[], (["other", "one"] : List Str).zip us⟩ = pure ((["one", "other"] : List Str).zip (byPl [1, 0] us)) :=
  match us, hl with | [_, _], _ => rfl
theorem kb_minus_1_0 (kV doc pm : Value) (an : Option Addr) (cdv ct : Value) (us : List Value) (hl : us.length = (["other", "one"] : List Str).length) : bindArgs (PySem.W.fnOf "minus" "minus" (defArgs s_minus) (defBody s_minus) (defScope s_minus) .none kV doc pm an cdv ct) ⟨[], (["other", "one"] : List Str).zip us⟩ = pure ((["one", "other"] : List Str).zip (byPl [1, 0] us)) :=
  match us, hl with | [_, _], _ => rfl
theorem kb_times_1_0 (kV doc pm : Value) (an : Option Addr) (cdv ct : Value) (us : List Value) (hl : us.length = (["other", "one"] : List Str).length) : bindArgs (PySem.W.fnOf "times" "times" (defArgs s_times) (defBody s_times) (defScope s_times) .none kV doc pm an cdv ct) ⟨[], (["other", "one"] : List Str).zip us⟩ = pure ((["one", "other"] : List Str).zip (byPl [1, 0] us)) :=
  match us, hl with | [_, _], _ => rfl
theorem kb_compared_1_0 (kV doc pm : Value) (an : Option Addr) (cdv ct : Value) (us : List Value) (hl : us.length = (["other", "one"] : List Str).length) : bindArgs (PySem.W.fnOf "compared" "compared" (defArgs s_compared) (defBody s_compared) (defScope s_compared) .none kV doc pm an cdv ct) ⟨[], (["other", "one"] : List Str).zip us⟩ = pure ((["one", "other"] : List Str).zip (byPl [1, 0] us)) :=
  match us, hl with | [_, _], _ => rfl
/-! ### _law_pair_right -/
abbrev s__law_pair_right : Stmt := topS 26
theorem sc__law_pair_right : FnScope ["generator", "most", "one", "other", "due", "told", "sign", "number", "bottom"] ["generator"] (defScope s__law_pair_right) := ⟨rfl, rfl, rfl, by decide +kernel, rfl, by decide +kernel, by decide +kernel⟩
theorem bd__law_pair_right (kV doc pm : Value) (an : Option Addr) (cdv ct : Value) (us : List Value) (hl : us.length = (["generator"] : List Str).length) : bindArgs (PySem.W.fnOf "_law_pair_right" "_law_pair_right" (defArgs s__law_pair_right) (defBody s__law_pair_right) (defScope s__law_pair_right) .none kV doc pm an cdv ct) ⟨us, []⟩ = pure ((["generator"] : List Str).zip us) :=
  match us, hl with | [_], _ => rfl
def sp__law_pair_right : SpA := fun as S P => ∃ (g : Addr) (n : Nat) (l : List A), as = [.ref g] ∧ S g = some (.lst l) ∧ GenL n l ∧ n ≤ 10000000000 ∧ ∀ l' : List A, GenL (n + 1000) l' → P (.bl true) (sup S g (.lst l'))
--len by rintro as S P ⟨_, _, _, rfl, _⟩; rfl
theorem got__law_pair_right {P : Program} {w : World} {K : PySem.W.Frag} {mg : Str → Option Value} {base : Heap} {f__law_drawn_fraction f__law_less f__law_lowest f__law_minus f__law_pair_right f__law_pick f__law_plus f__law_random f__law_same f_compared f_lowest f_minus f_plus f_times : Addr} (B : Bi mg) (D : Def K mg "_law_pair_right" s__law_pair_right f__law_pair_right) (G__law_same : Got P w K mg base 8 ["told", "due"] "_law_same" s__law_same f__law_same (sp__law_same 8)) (G_lowest : Got P w K mg base 2 ["number", "bottom"] "lowest" s_lowest f_lowest sp_lowest) (G__law_lowest : Got P w K mg base 2 ["number", "bottom"] "_law_lowest" s__law_lowest f__law_lowest sp__law_lowest) (G__law_pick : Got P w K mg base 3 ["generator", "things"] "_law_pick" s__law_pick f__law_pick sp__law_pick) (G__law_drawn_fraction : Got P w K mg base 4 ["generator", "most"] "_law_drawn_fraction" s__law_drawn_fraction f__law_drawn_fraction sp__law_drawn_fraction) (G__law_plus : Got P w K mg base 3 ["one", "other"] "_law_plus" s__law_plus f__law_plus (sp_two plusA)) (G__law_minus : Got P w K mg base 3 ["one", "other"] "_law_minus" s__law_minus f__law_minus (sp_two minusA)) (G_plus : Got P w K mg base 3 ["one", "other"] "plus" s_plus f_plus (sp_two plusA)) (G_minus : Got P w K mg base 3 ["one", "other"] "minus" s_minus f_minus (sp_two minusA)) (G_times : Got P w K mg base 3 ["one", "other"] "times" s_times f_times (sp_two timesA)) (G__law_less : Got P w K mg base 1 ["one", "other"] "_law_less" s__law_less f__law_less (sp_two lessA)) (G_compared : Got P w K mg base 1 ["one", "other"] "compared" s_compared f_compared (sp_two cmpA)) (G__law_random : Got P w K mg base 2 ["generator", "bound"] "_law_random" s__law_random f__law_random sp__law_random) :
    Got P w K mg base (8 + 1) ["generator"] "_law_pair_right" s__law_pair_right f__law_pair_right sp__law_pair_right := by
  refine got_of D sc__law_pair_right (by rintro as S P ⟨_, _, _, rfl, _⟩; rfl) (bd__law_pair_right) (fun cdv A0 outer s0_ H E hr => ⟨_, (sb_cons (sa_set 1 sc__law_pair_right.nd (ea_call G__law_pick (hr.mono (by omega)) (la_cons (ea_var 0) (la_cons (ea_lst (la_cons ea_int (la_cons ea_int (la_cons (ea_op oa_pow ea_int ea_int) (la_cons (ea_op oa_pow ea_int ea_int) la_nil))))) la_nil))))
      (sb_cons (sa_par 2 3 sc__law_pair_right.nd (la_cons (ea_call G__law_drawn_fraction (hr.mono (by omega)) (la_cons (ea_var 0) (la_cons (ea_var 1) la_nil))) (la_cons (ea_call G__law_drawn_fraction (hr.mono (by omega)) (la_cons (ea_var 0) (la_cons (ea_var 1) la_nil))) la_nil)))
      (sb_cons (sa_set 4 sc__law_pair_right.nd (ea_lst (la_cons (ea_call G__law_plus (hr.mono (by omega)) (la_cons (ea_var 2) (la_cons (ea_var 3) la_nil))) (la_cons (ea_call G__law_minus (hr.mono (by omega)) (la_cons (ea_var 2) (la_cons (ea_var 3) la_nil))) (la_cons (ea_call G__law_lowest (hr.mono (by omega)) (la_cons (ea_op oa_mul (ea_ix (ea_var 2) ea_int) (ea_ix (ea_var 3) ea_int)) (la_cons (ea_op oa_mul (ea_ix (ea_var 2) ea_int) (ea_ix (ea_var 3) ea_int)) la_nil))) la_nil)))))
      (sb_cons (sa_set 5 sc__law_pair_right.nd (ea_lst (la_cons (ea_call G_plus (hr.mono (by omega)) (la_cons (ea_var 2) (la_cons (ea_var 3) la_nil))) (la_cons (ea_call G_minus (hr.mono (by omega)) (la_cons (ea_var 2) (la_cons (ea_var 3) la_nil))) (la_cons (ea_call G_times (hr.mono (by omega)) (la_cons (ea_var 2) (la_cons (ea_var 3) la_nil))) (la_cons (ea_callK (ks := ["other", "one"]) [1, 0] G_plus (hr.mono (by omega)) (ka_cons (ea_var 3) (ka_cons (ea_var 2) ka_nil)) kb_plus_1_0) (la_cons (ea_callK (ks := ["other", "one"]) [1, 0] G_minus (hr.mono (by omega)) (ka_cons (ea_var 3) (ka_cons (ea_var 2) ka_nil)) kb_minus_1_0) (la_cons (ea_callK (ks := ["other", "one"]) [1, 0] G_times (hr.mono (by omega)) (ka_cons (ea_var 3) (ka_cons (ea_var 2) ka_nil)) kb_times_1_0) la_nil))))))))
      (sb_cut (sa_set 6 sc__law_pair_right.nd (ea_if (tt_val (ea_call G__law_less (hr.mono (by omega)) (la_cons (ea_var 2) (la_cons (ea_var 3) la_nil)))) (ea_op oa_sub ea_int ea_int) (ea_if (tt_cmp (oa_eq hr.units) (ea_var 2) (ea_var 3)) ea_int ea_int)))
      (sb_cons (sa_if (tt_w (tw_or (tt_not (tt_val (ea_call G__law_same (hr.mono (by omega)) (la_cons (ea_var 5) (la_cons (ea_op oa_add (ea_var 4) (ea_var 4)) la_nil))))) (tw_or1 (tt_not (tt_val (ea_call G__law_same (hr.mono (by omega)) (la_cons (ea_lst (la_cons (ea_call G_compared (hr.mono (by omega)) (la_cons (ea_var 2) (la_cons (ea_var 3) la_nil))) (la_cons (ea_callK (ks := ["other", "one"]) [1, 0] G_compared (hr.mono (by omega)) (ka_cons (ea_var 3) (ka_cons (ea_var 2) ka_nil)) kb_compared_1_0) (la_cons (ea_call G_compared (hr.mono (by omega)) (la_cons (ea_var 3) (la_cons (ea_var 2) la_nil))) la_nil)))) (la_cons (ea_lst (la_cons (ea_var 6) (la_cons (ea_var 6) (la_cons (ea_op oa_sub ea_int (ea_var 6)) la_nil)))) la_nil)))))))) (sb_one (sa_ret ea_bl)) sb_nil)
      (sb_cons (sa_par 7 8 sc__law_pair_right.nd (la_cons (ea_op oa_sub (ea_call G__law_random (hr.mono (by omega)) (la_cons (ea_var 0) (la_cons (ea_op oa_add (ea_op oa_mul ea_int (ea_var 1)) ea_int) la_nil))) (ea_var 1)) (la_cons (ea_op oa_add ea_int (ea_call G__law_random (hr.mono (by omega)) (la_cons (ea_var 0) (la_cons (ea_var 1) la_nil)))) la_nil)))
      (sb_one (sa_ret (ea_call G__law_same (hr.mono (by omega)) (la_cons (ea_lst (la_cons (ea_call G_lowest (hr.mono (by omega)) (la_cons (ea_var 7) (la_cons (ea_var 8) la_nil))) (la_cons (ea_callK (ks := ["bottom", "number"]) [1, 0] G_lowest (hr.mono (by omega)) (ka_cons (ea_op oa_sub ea_int (ea_var 8)) (ka_cons (ea_var 7) ka_nil)) kb_lowest_1_0) la_nil))) (la_cons (ea_lst (la_cons (ea_call G__law_lowest (hr.mono (by omega)) (la_cons (ea_var 7) (la_cons (ea_var 8) la_nil))) (la_cons (ea_call G__law_lowest (hr.mono (by omega)) (la_cons (ea_var 7) (la_cons (ea_op oa_sub ea_int (ea_var 8)) la_nil))) la_nil))) la_nil)))))))))))), fun as S P h => ?_⟩)
  obtain ⟨g, n, l, rfl, hg, gl, hn, k⟩ := h
  (try simp only [startN, List.map_cons, List.map_nil, List.length_cons, List.length_nil, Nat.reduceAdd, Nat.reduceSub, Nat.zero_add, Nat.sub_self, List.replicate_succ, List.replicate_zero, List.reduceReplicate, List.cons_append, List.nil_append, List.append_nil, ↓sRet, ↓sRetN, ↓sSeq, ↓sNil, ↓sIf, ↓sSet, ↓sPar, ↓sDrop, ↓sSetL, ↓eAnd, ↓eOr, ↓eNot, ↓eIf, ↓eNeg, ↓eCall, ↓eCallK, ↓eCallV, ↓lCons, ↓lNil, ↓eVar, ↓eC, ↓eTup, ↓eLst, ↓eLstC, ↓eOp, ↓eSl, ↓oNo, ↓oPart, ↓eBits, ↓tBool, ↓tAndA, ↓tOrA, ↓tNotA, ↓List.getElem?_cons_zero, ↓List.getElem?_cons_succ, ↓List.set_cons_zero, ↓List.set_cons_succ, ↓rInt, ↓rInt0, ↓rAddA, ↓rEqA, ↓rIsA, ↓rMax2A, ↓rMin2A, ↓rIntA, ↓rAbsA, bsel_true, bsel_false, wipeN, gNm, tYesA, ↓isNon, ↓isBlOf, ↓isI, ↓isB, ↓isS, ↓isT, ↓isL, Bool.or_false, Bool.or_true, Bool.false_or, Bool.true_or, ↓wList, ↓eLc, ↓rLenA, ↓sFor, ↓sWhile, ↓wRng1, ↓wRng2, ↓wTup, Bool.not_true, Bool.not_false, Bool.false_eq_true, ↓reduceIte, Bool.not_not])
  refine ⟨⟨by decide, by decide +kernel⟩, ⟨by decide, by decide +kernel⟩, g, _, n, l, rfl, hg, gl, by decide, by decide, by omega, fun z l1 hz gl1 => ?_⟩
  obtain ⟨m, rfl, m0, mb⟩ : ∃ m : Int, z = .int m ∧ 0 < m ∧ Bd 200 m := by
    simp only [List.mem_cons, List.not_mem_nil, or_false] at hz
    rcases hz with rfl | rfl | rfl | rfl <;> exact ⟨_, rfl, by decide +kernel, by unfold Bd; decide +kernel⟩
  (try simp only [startN, List.map_cons, List.map_nil, List.length_cons, List.length_nil, Nat.reduceAdd, Nat.reduceSub, Nat.zero_add, Nat.sub_self, List.replicate_succ, List.replicate_zero, List.reduceReplicate, List.cons_append, List.nil_append, List.append_nil, ↓sRet, ↓sRetN, ↓sSeq, ↓sNil, ↓sIf, ↓sSet, ↓sPar, ↓sDrop, ↓sSetL, ↓eAnd, ↓eOr, ↓eNot, ↓eIf, ↓eNeg, ↓eCall, ↓eCallK, ↓eCallV, ↓lCons, ↓lNil, ↓eVar, ↓eC, ↓eTup, ↓eLst, ↓eLstC, ↓eOp, ↓eSl, ↓oNo, ↓oPart, ↓eBits, ↓tBool, ↓tAndA, ↓tOrA, ↓tNotA, ↓List.getElem?_cons_zero, ↓List.getElem?_cons_succ, ↓List.set_cons_zero, ↓List.set_cons_succ, ↓rInt, ↓rInt0, ↓rAddA, ↓rEqA, ↓rIsA, ↓rMax2A, ↓rMin2A, ↓rIntA, ↓rAbsA, bsel_true, bsel_false, wipeN, gNm, tYesA, ↓isNon, ↓isBlOf, ↓isI, ↓isB, ↓isS, ↓isT, ↓isL, Bool.or_false, Bool.or_true, Bool.false_or, Bool.true_or, ↓wList, ↓eLc, ↓rLenA, ↓sFor, ↓sWhile, ↓wRng1, ↓wRng2, ↓wTup, Bool.not_true, Bool.not_false, Bool.false_eq_true, ↓reduceIte, Bool.not_not])
  refine ⟨g, m, n + 100, l1, rfl, sup_same, gl1, by omega, mb, by omega, fun a b l2 hb hab Ba Bb gl2 => ?_⟩
  rw [sup_sup]
  refine ⟨g, m, n + 400, l2, rfl, sup_same, gl2, by omega, mb, by omega, fun c d l3 hd hcd Bc Bd' gl3 => ?_⟩
  rw [sup_sup]
  have two : ∀ (f : Int → Int → Int → Int → A) (Q : A → Sto → Prop), Q (f a b c d) (sup S g (.lst l3)) → sp_two f [.tup [.int a, .int b], .tup [.int c, .int d]] (sup S g (.lst l3)) Q := fun f Q q =>
    ⟨a, b, c, d, rfl, Ba.le, Bb.le, Bc.le, Bd'.le, by omega, by omega, q⟩
  (try simp only [startN, List.map_cons, List.map_nil, List.length_cons, List.length_nil, Nat.reduceAdd, Nat.reduceSub, Nat.zero_add, Nat.sub_self, List.replicate_succ, List.replicate_zero, List.reduceReplicate, List.cons_append, List.nil_append, List.append_nil, ↓sRet, ↓sRetN, ↓sSeq, ↓sNil, ↓sIf, ↓sSet, ↓sPar, ↓sDrop, ↓sSetL, ↓eAnd, ↓eOr, ↓eNot, ↓eIf, ↓eNeg, ↓eCall, ↓eCallK, ↓eCallV, ↓lCons, ↓lNil, ↓eVar, ↓eC, ↓eTup, ↓eLst, ↓eLstC, ↓eOp, ↓eSl, ↓oNo, ↓oPart, ↓eBits, ↓tBool, ↓tAndA, ↓tOrA, ↓tNotA, ↓List.getElem?_cons_zero, ↓List.getElem?_cons_succ, ↓List.set_cons_zero, ↓List.set_cons_succ, ↓rInt, ↓rInt0, ↓rAddA, ↓rEqA, ↓rIsA, ↓rMax2A, ↓rMin2A, ↓rIntA, ↓rAbsA, bsel_true, bsel_false, wipeN, gNm, tYesA, ↓isNon, ↓isBlOf, ↓isI, ↓isB, ↓isS, ↓isT, ↓isL, Bool.or_false, Bool.or_true, Bool.false_or, Bool.true_or, ↓wList, ↓eLc, ↓rLenA, ↓sFor, ↓sWhile, ↓wRng1, ↓wRng2, ↓wTup, Bool.not_true, Bool.not_false, Bool.false_eq_true, ↓reduceIte, Bool.not_not])
  refine two plusA _ (two minusA _ ?_)
  refine ⟨_, rfl, _, rfl, ?_⟩
  (try simp only [startN, List.map_cons, List.map_nil, List.length_cons, List.length_nil, Nat.reduceAdd, Nat.reduceSub, Nat.zero_add, Nat.sub_self, List.replicate_succ, List.replicate_zero, List.reduceReplicate, List.cons_append, List.nil_append, List.append_nil, ↓sRet, ↓sRetN, ↓sSeq, ↓sNil, ↓sIf, ↓sSet, ↓sPar, ↓sDrop, ↓sSetL, ↓eAnd, ↓eOr, ↓eNot, ↓eIf, ↓eNeg, ↓eCall, ↓eCallK, ↓eCallV, ↓lCons, ↓lNil, ↓eVar, ↓eC, ↓eTup, ↓eLst, ↓eLstC, ↓eOp, ↓eSl, ↓oNo, ↓oPart, ↓eBits, ↓tBool, ↓tAndA, ↓tOrA, ↓tNotA, ↓List.getElem?_cons_zero, ↓List.getElem?_cons_succ, ↓List.set_cons_zero, ↓List.set_cons_succ, ↓rInt, ↓rInt0, ↓rAddA, ↓rEqA, ↓rIsA, ↓rMax2A, ↓rMin2A, ↓rIntA, ↓rAbsA, bsel_true, bsel_false, wipeN, gNm, tYesA, ↓isNon, ↓isBlOf, ↓isI, ↓isB, ↓isS, ↓isT, ↓isL, Bool.or_false, Bool.or_true, Bool.false_or, Bool.true_or, ↓wList, ↓eLc, ↓rLenA, ↓sFor, ↓sWhile, ↓wRng1, ↓wRng2, ↓wTup, Bool.not_true, Bool.not_false, Bool.false_eq_true, ↓reduceIte, Bool.not_not])
  refine ⟨Ba.mulW Bc, _, rfl, _, rfl, ?_⟩
  (try simp only [startN, List.map_cons, List.map_nil, List.length_cons, List.length_nil, Nat.reduceAdd, Nat.reduceSub, Nat.zero_add, Nat.sub_self, List.replicate_succ, List.replicate_zero, List.reduceReplicate, List.cons_append, List.nil_append, List.append_nil, ↓sRet, ↓sRetN, ↓sSeq, ↓sNil, ↓sIf, ↓sSet, ↓sPar, ↓sDrop, ↓sSetL, ↓eAnd, ↓eOr, ↓eNot, ↓eIf, ↓eNeg, ↓eCall, ↓eCallK, ↓eCallV, ↓lCons, ↓lNil, ↓eVar, ↓eC, ↓eTup, ↓eLst, ↓eLstC, ↓eOp, ↓eSl, ↓oNo, ↓oPart, ↓eBits, ↓tBool, ↓tAndA, ↓tOrA, ↓tNotA, ↓List.getElem?_cons_zero, ↓List.getElem?_cons_succ, ↓List.set_cons_zero, ↓List.set_cons_succ, ↓rInt, ↓rInt0, ↓rAddA, ↓rEqA, ↓rIsA, ↓rMax2A, ↓rMin2A, ↓rIntA, ↓rAbsA, bsel_true, bsel_false, wipeN, gNm, tYesA, ↓isNon, ↓isBlOf, ↓isI, ↓isB, ↓isS, ↓isT, ↓isL, Bool.or_false, Bool.or_true, Bool.false_or, Bool.true_or, ↓wList, ↓eLc, ↓rLenA, ↓sFor, ↓sWhile, ↓wRng1, ↓wRng2, ↓wTup, Bool.not_true, Bool.not_false, Bool.false_eq_true, ↓reduceIte, Bool.not_not])
  refine ⟨Bb.mulW Bd', _, _, rfl, Int.mul_ne_zero (by omega) (by omega), (Ba.mul Bc).le, (Bb.mul Bd').le, ?_⟩
  -- the sign
  have sg : ∃ s : Int, cmpA a b c d = .int s ∧ cmpA c d a b = .int (0 - s) ∧ ((a * d < c * b) → s = 0 - 1) ∧ (¬ a * d < c * b → a = c ∧ b = d → s = 0) ∧ (¬ a * d < c * b → ¬ (a = c ∧ b = d) → s = 1) := by
    refine ⟨_, rfl, ?_, fun h => ?_, fun h h2 => ?_, fun h h2 => ?_⟩
    · unfold cmpA
      congr 1
      repeat' split
      all_goals omega
    · rw [if_neg (by omega), if_pos h]
      rfl
    · obtain ⟨rfl, rfl⟩ := h2
      rw [if_pos rfl]
    · rw [if_neg (fun z => h2 (fr_eq hb hd hab hcd z)), if_neg h]
  obtain ⟨s, s1, s2, s3, s4, s5⟩ := sg
  refine two plusA _ (two minusA _ (two timesA _ (two plusA _ (two minusA _ (two timesA _ ?_)))))
  refine ⟨fun nv' S' => S' = sup S g (.lst l3) ∧ nv' = [some (.ref g), some (.int m), some (.tup [.int a, .int b]), some (.tup [.int c, .int d]), some (.lst [plusA a b c d, minusA a b c d, lowA (a * c) (b * d)]), some (.lst [plusA a b c d, minusA a b c d, timesA a b c d, plusA a b c d, minusA a b c d, timesA a b c d]), some (.int s), none, none], ?_, ?_⟩
  · (try simp only [startN, List.map_cons, List.map_nil, List.length_cons, List.length_nil, Nat.reduceAdd, Nat.reduceSub, Nat.zero_add, Nat.sub_self, List.replicate_succ, List.replicate_zero, List.reduceReplicate, List.cons_append, List.nil_append, List.append_nil, ↓sRet, ↓sRetN, ↓sSeq, ↓sNil, ↓sIf, ↓sSet, ↓sPar, ↓sDrop, ↓sSetL, ↓eAnd, ↓eOr, ↓eNot, ↓eIf, ↓eNeg, ↓eCall, ↓eCallK, ↓eCallV, ↓lCons, ↓lNil, ↓eVar, ↓eC, ↓eTup, ↓eLst, ↓eLstC, ↓eOp, ↓eSl, ↓oNo, ↓oPart, ↓eBits, ↓tBool, ↓tAndA, ↓tOrA, ↓tNotA, ↓List.getElem?_cons_zero, ↓List.getElem?_cons_succ, ↓List.set_cons_zero, ↓List.set_cons_succ, ↓rInt, ↓rInt0, ↓rAddA, ↓rEqA, ↓rIsA, ↓rMax2A, ↓rMin2A, ↓rIntA, ↓rAbsA, bsel_true, bsel_false, wipeN, gNm, tYesA, ↓isNon, ↓isBlOf, ↓isI, ↓isB, ↓isS, ↓isT, ↓isL, Bool.or_false, Bool.or_true, Bool.false_or, Bool.true_or, ↓wList, ↓eLc, ↓rLenA, ↓sFor, ↓sWhile, ↓wRng1, ↓wRng2, ↓wTup, Bool.not_true, Bool.not_false, Bool.false_eq_true, ↓reduceIte, Bool.not_not])
    refine two lessA _ ?_
    unfold lessA
    (try simp only [startN, List.map_cons, List.map_nil, List.length_cons, List.length_nil, Nat.reduceAdd, Nat.reduceSub, Nat.zero_add, Nat.sub_self, List.replicate_succ, List.replicate_zero, List.reduceReplicate, List.cons_append, List.nil_append, List.append_nil, ↓sRet, ↓sRetN, ↓sSeq, ↓sNil, ↓sIf, ↓sSet, ↓sPar, ↓sDrop, ↓sSetL, ↓eAnd, ↓eOr, ↓eNot, ↓eIf, ↓eNeg, ↓eCall, ↓eCallK, ↓eCallV, ↓lCons, ↓lNil, ↓eVar, ↓eC, ↓eTup, ↓eLst, ↓eLstC, ↓eOp, ↓eSl, ↓oNo, ↓oPart, ↓eBits, ↓tBool, ↓tAndA, ↓tOrA, ↓tNotA, ↓List.getElem?_cons_zero, ↓List.getElem?_cons_succ, ↓List.set_cons_zero, ↓List.set_cons_succ, ↓rInt, ↓rInt0, ↓rAddA, ↓rEqA, ↓rIsA, ↓rMax2A, ↓rMin2A, ↓rIntA, ↓rAbsA, bsel_true, bsel_false, wipeN, gNm, tYesA, ↓isNon, ↓isBlOf, ↓isI, ↓isB, ↓isS, ↓isT, ↓isL, Bool.or_false, Bool.or_true, Bool.false_or, Bool.true_or, ↓wList, ↓eLc, ↓rLenA, ↓sFor, ↓sWhile, ↓wRng1, ↓wRng2, ↓wTup, Bool.not_true, Bool.not_false, Bool.false_eq_true, ↓reduceIte, Bool.not_not])
    refine bsel_i (fun h => ?_) fun h => ?_
    · rw [s3 (of_decide_eq_true h)]
      exact ⟨trivial, rfl⟩
    · have h' := of_decide_eq_false h
      refine rEq_fr ?_
      (try simp only [startN, List.map_cons, List.map_nil, List.length_cons, List.length_nil, Nat.reduceAdd, Nat.reduceSub, Nat.zero_add, Nat.sub_self, List.replicate_succ, List.replicate_zero, List.reduceReplicate, List.cons_append, List.nil_append, List.append_nil, ↓sRet, ↓sRetN, ↓sSeq, ↓sNil, ↓sIf, ↓sSet, ↓sPar, ↓sDrop, ↓sSetL, ↓eAnd, ↓eOr, ↓eNot, ↓eIf, ↓eNeg, ↓eCall, ↓eCallK, ↓eCallV, ↓lCons, ↓lNil, ↓eVar, ↓eC, ↓eTup, ↓eLst, ↓eLstC, ↓eOp, ↓eSl, ↓oNo, ↓oPart, ↓eBits, ↓tBool, ↓tAndA, ↓tOrA, ↓tNotA, ↓List.getElem?_cons_zero, ↓List.getElem?_cons_succ, ↓List.set_cons_zero, ↓List.set_cons_succ, ↓rInt, ↓rInt0, ↓rAddA, ↓rEqA, ↓rIsA, ↓rMax2A, ↓rMin2A, ↓rIntA, ↓rAbsA, bsel_true, bsel_false, wipeN, gNm, tYesA, ↓isNon, ↓isBlOf, ↓isI, ↓isB, ↓isS, ↓isT, ↓isL, Bool.or_false, Bool.or_true, Bool.false_or, Bool.true_or, ↓wList, ↓eLc, ↓rLenA, ↓sFor, ↓sWhile, ↓wRng1, ↓wRng2, ↓wTup, Bool.not_true, Bool.not_false, Bool.false_eq_true, ↓reduceIte, Bool.not_not])
      refine bsel_i (fun h2 => ?_) fun h2 => ?_
      · rw [s4 h' (of_decide_eq_true h2)]
        exact ⟨trivial, rfl⟩
      · rw [s5 h' (of_decide_eq_false h2)]
        exact ⟨trivial, rfl⟩
  · rintro nv' S' ⟨rfl, rfl⟩
    (try simp only [startN, List.map_cons, List.map_nil, List.length_cons, List.length_nil, Nat.reduceAdd, Nat.reduceSub, Nat.zero_add, Nat.sub_self, List.replicate_succ, List.replicate_zero, List.reduceReplicate, List.cons_append, List.nil_append, List.append_nil, ↓sRet, ↓sRetN, ↓sSeq, ↓sNil, ↓sIf, ↓sSet, ↓sPar, ↓sDrop, ↓sSetL, ↓eAnd, ↓eOr, ↓eNot, ↓eIf, ↓eNeg, ↓eCall, ↓eCallK, ↓eCallV, ↓lCons, ↓lNil, ↓eVar, ↓eC, ↓eTup, ↓eLst, ↓eLstC, ↓eOp, ↓eSl, ↓oNo, ↓oPart, ↓eBits, ↓tBool, ↓tAndA, ↓tOrA, ↓tNotA, ↓List.getElem?_cons_zero, ↓List.getElem?_cons_succ, ↓List.set_cons_zero, ↓List.set_cons_succ, ↓rInt, ↓rInt0, ↓rAddA, ↓rEqA, ↓rIsA, ↓rMax2A, ↓rMin2A, ↓rIntA, ↓rAbsA, bsel_true, bsel_false, wipeN, gNm, tYesA, ↓isNon, ↓isBlOf, ↓isI, ↓isB, ↓isS, ↓isT, ↓isL, Bool.or_false, Bool.or_true, Bool.false_or, Bool.true_or, ↓wList, ↓eLc, ↓rLenA, ↓sFor, ↓sWhile, ↓wRng1, ↓wRng2, ↓wTup, Bool.not_true, Bool.not_false, Bool.false_eq_true, ↓reduceIte, Bool.not_not])
    refine ⟨_, _, rfl, rfl, (by show 3 + 3 ≤ sizeLine; decide), ?_⟩
    refine ⟨_, _, rfl, rfl, rfl, rfl, fun bb hbb => ?_⟩
    rw [hbb.mpr rfl]
    (try simp only [startN, List.map_cons, List.map_nil, List.length_cons, List.length_nil, Nat.reduceAdd, Nat.reduceSub, Nat.zero_add, Nat.sub_self, List.replicate_succ, List.replicate_zero, List.reduceReplicate, List.cons_append, List.nil_append, List.append_nil, ↓sRet, ↓sRetN, ↓sSeq, ↓sNil, ↓sIf, ↓sSet, ↓sPar, ↓sDrop, ↓sSetL, ↓eAnd, ↓eOr, ↓eNot, ↓eIf, ↓eNeg, ↓eCall, ↓eCallK, ↓eCallV, ↓lCons, ↓lNil, ↓eVar, ↓eC, ↓eTup, ↓eLst, ↓eLstC, ↓eOp, ↓eSl, ↓oNo, ↓oPart, ↓eBits, ↓tBool, ↓tAndA, ↓tOrA, ↓tNotA, ↓List.getElem?_cons_zero, ↓List.getElem?_cons_succ, ↓List.set_cons_zero, ↓List.set_cons_succ, ↓rInt, ↓rInt0, ↓rAddA, ↓rEqA, ↓rIsA, ↓rMax2A, ↓rMin2A, ↓rIntA, ↓rAbsA, bsel_true, bsel_false, wipeN, gNm, tYesA, ↓isNon, ↓isBlOf, ↓isI, ↓isB, ↓isS, ↓isT, ↓isL, Bool.or_false, Bool.or_true, Bool.false_or, Bool.true_or, ↓wList, ↓eLc, ↓rLenA, ↓sFor, ↓sWhile, ↓wRng1, ↓wRng2, ↓wTup, Bool.not_true, Bool.not_false, Bool.false_eq_true, ↓reduceIte, Bool.not_not])
    refine two cmpA _ (two cmpA _ ⟨c, d, a, b, rfl, Bc.le, Bd'.le, Ba.le, Bb.le, by omega, by omega, ?_⟩)
    rw [s1, s2]
    refine ⟨_, _, rfl, rfl, rfl, rfl, fun bb hbb => ?_⟩
    rw [hbb.mpr rfl]
    (try simp only [startN, List.map_cons, List.map_nil, List.length_cons, List.length_nil, Nat.reduceAdd, Nat.reduceSub, Nat.zero_add, Nat.sub_self, List.replicate_succ, List.replicate_zero, List.reduceReplicate, List.cons_append, List.nil_append, List.append_nil, ↓sRet, ↓sRetN, ↓sSeq, ↓sNil, ↓sIf, ↓sSet, ↓sPar, ↓sDrop, ↓sSetL, ↓eAnd, ↓eOr, ↓eNot, ↓eIf, ↓eNeg, ↓eCall, ↓eCallK, ↓eCallV, ↓lCons, ↓lNil, ↓eVar, ↓eC, ↓eTup, ↓eLst, ↓eLstC, ↓eOp, ↓eSl, ↓oNo, ↓oPart, ↓eBits, ↓tBool, ↓tAndA, ↓tOrA, ↓tNotA, ↓List.getElem?_cons_zero, ↓List.getElem?_cons_succ, ↓List.set_cons_zero, ↓List.set_cons_succ, ↓rInt, ↓rInt0, ↓rAddA, ↓rEqA, ↓rIsA, ↓rMax2A, ↓rMin2A, ↓rIntA, ↓rAbsA, bsel_true, bsel_false, wipeN, gNm, tYesA, ↓isNon, ↓isBlOf, ↓isI, ↓isB, ↓isS, ↓isT, ↓isL, Bool.or_false, Bool.or_true, Bool.false_or, Bool.true_or, ↓wList, ↓eLc, ↓rLenA, ↓sFor, ↓sWhile, ↓wRng1, ↓wRng2, ↓wTup, Bool.not_true, Bool.not_false, Bool.false_eq_true, ↓reduceIte, Bool.not_not])
    have h2m : Bd 1000 (2 * m + 1) := by
      have h1 : Bd 202 (2 * m) := (Bd.mul (a := 2) (i := 2) (.small 2 (m := 2) (by decide)) mb)
      have h2 : Bd 202 (1 : Int) := Bd.le (a := 2) (.small 2 (m := 2) (by decide))
      exact (h1.add h2).le
    refine ⟨Bd.mulW (a := 2) (.small 2 (m := 2) (by decide)) mb, g, _, n + 700, l3, rfl, sup_same, gl3, by omega, h2m, by omega, fun r l4 r0 r1 gl4 => ?_⟩
    rw [sup_sup]
    (try simp only [startN, List.map_cons, List.map_nil, List.length_cons, List.length_nil, Nat.reduceAdd, Nat.reduceSub, Nat.zero_add, Nat.sub_self, List.replicate_succ, List.replicate_zero, List.reduceReplicate, List.cons_append, List.nil_append, List.append_nil, ↓sRet, ↓sRetN, ↓sSeq, ↓sNil, ↓sIf, ↓sSet, ↓sPar, ↓sDrop, ↓sSetL, ↓eAnd, ↓eOr, ↓eNot, ↓eIf, ↓eNeg, ↓eCall, ↓eCallK, ↓eCallV, ↓lCons, ↓lNil, ↓eVar, ↓eC, ↓eTup, ↓eLst, ↓eLstC, ↓eOp, ↓eSl, ↓oNo, ↓oPart, ↓eBits, ↓tBool, ↓tAndA, ↓tOrA, ↓tNotA, ↓List.getElem?_cons_zero, ↓List.getElem?_cons_succ, ↓List.set_cons_zero, ↓List.set_cons_succ, ↓rInt, ↓rInt0, ↓rAddA, ↓rEqA, ↓rIsA, ↓rMax2A, ↓rMin2A, ↓rIntA, ↓rAbsA, bsel_true, bsel_false, wipeN, gNm, tYesA, ↓isNon, ↓isBlOf, ↓isI, ↓isB, ↓isS, ↓isT, ↓isL, Bool.or_false, Bool.or_true, Bool.false_or, Bool.true_or, ↓wList, ↓eLc, ↓rLenA, ↓sFor, ↓sWhile, ↓wRng1, ↓wRng2, ↓wTup, Bool.not_true, Bool.not_false, Bool.false_eq_true, ↓reduceIte, Bool.not_not])
    refine ⟨g, m, n + 800, l4, rfl, sup_same, gl4, by omega, mb.le, by omega, fun q l5 q0 q1 gl5 => ?_⟩
    rw [sup_sup]
    have br : Bd 1002 (r - m) := by
      have h1 : Bd 1000 m := mb.le
      have h2 : Bd 1000 r := h2m.of_le (by omega)
      exact (h2.sub h1).le
    have bq : Bd 202 (1 + q) := by
      have h2 : Bd 200 q := mb.of_le (by omega)
      have h1 : Bd 200 (1 : Int) := Bd.le (a := 2) (.small 2 (m := 2) (by decide))
      exact (h1.add h2).le
    have bn : Bd 4000 (0 - (1 + q)) := by
      rw [Int.zero_sub]
      exact bq.neg.le
    (try simp only [startN, List.map_cons, List.map_nil, List.length_cons, List.length_nil, Nat.reduceAdd, Nat.reduceSub, Nat.zero_add, Nat.sub_self, List.replicate_succ, List.replicate_zero, List.reduceReplicate, List.cons_append, List.nil_append, List.append_nil, ↓sRet, ↓sRetN, ↓sSeq, ↓sNil, ↓sIf, ↓sSet, ↓sPar, ↓sDrop, ↓sSetL, ↓eAnd, ↓eOr, ↓eNot, ↓eIf, ↓eNeg, ↓eCall, ↓eCallK, ↓eCallV, ↓lCons, ↓lNil, ↓eVar, ↓eC, ↓eTup, ↓eLst, ↓eLstC, ↓eOp, ↓eSl, ↓oNo, ↓oPart, ↓eBits, ↓tBool, ↓tAndA, ↓tOrA, ↓tNotA, ↓List.getElem?_cons_zero, ↓List.getElem?_cons_succ, ↓List.set_cons_zero, ↓List.set_cons_succ, ↓rInt, ↓rInt0, ↓rAddA, ↓rEqA, ↓rIsA, ↓rMax2A, ↓rMin2A, ↓rIntA, ↓rAbsA, bsel_true, bsel_false, wipeN, gNm, tYesA, ↓isNon, ↓isBlOf, ↓isI, ↓isB, ↓isS, ↓isT, ↓isL, Bool.or_false, Bool.or_true, Bool.false_or, Bool.true_or, ↓wList, ↓eLc, ↓rLenA, ↓sFor, ↓sWhile, ↓wRng1, ↓wRng2, ↓wTup, Bool.not_true, Bool.not_false, Bool.false_eq_true, ↓reduceIte, Bool.not_not])
    refine ⟨_, _, rfl, by omega, bq.le, ?_⟩
    refine ⟨_, _, rfl, by omega, bn, ?_⟩
    refine ⟨_, _, rfl, by omega, br.le, bq.le, ?_⟩
    refine ⟨_, _, rfl, by omega, br.le, bn, ?_⟩
    refine ⟨_, _, rfl, rfl, rfl, rfl, fun bb hbb => ?_⟩
    rw [hbb.mpr rfl]
    exact k l5 (gl5.mono (by omega))
theorem kb_is_fraction_0 (kV doc pm : Value) (an : Option Addr) (cdv ct : Value) (us : List Value) (hl : us.length = (["value"] : List Str).length) : bindArgs (PySem.W.fnOf "is_fraction" "is_fraction" (defArgs s_is_fraction) (defBody s_is_fraction) (defScope s_is_fraction) .none kV doc pm an cdv ct) ⟨[], (["value"] : List Str).zip us⟩ = pure ((["value"] : List Str).zip (byPl [0] us)) :=
  match us, hl with | [_], _ => rfl
/-! ### law -/
abbrev s_law : Stmt := topS 27
theorem sc_law : FnScope ["script", "index", "generator", "turn", "one", "other", "values"] ["script"] (defScope s_law) := ⟨rfl, rfl, rfl, by decide +kernel, rfl, by decide +kernel, by decide +kernel⟩
theorem bd_law (kV doc pm : Value) (an : Option Addr) (cdv ct : Value) (us : List Value) (hl : us.length = (["script"] : List Str).length) : bindArgs (PySem.W.fnOf "law" "law" (defArgs s_law) (defBody s_law) (defScope s_law) .none kV doc pm an cdv ct) ⟨us, []⟩ = pure ((["script"] : List Str).zip us) :=
  match us, hl with | [_], _ => rfl
--feed (if_pos rfl)|(tab_snd (Lay.Fun.ne U_is_fraction U__law_is_fraction (by decide +kernel)))
--hyp (hT1 : T f_is_fraction = some sp_is_fraction)
--hyp (hT2 : T f__law_is_fraction = some sp__law_is_fraction)
def sp_law : SpA := fun as S P => ∃ (scr : Addr) (ns : List Int), as = [.ref scr] ∧ S scr = some (.frz (ns.map .int)) ∧ ∀ S', P (.bl true) S'
--len by rintro as S P ⟨_, _, rfl, _⟩; rfl
theorem law_holds (a : Addr) (S : Sto) (ns : List Int) (_ : ns.length ≤ 63) (h : S a = some (.frz (ns.map .int))) : sp_law [.ref a] S fun r _ => r = .bl true := ⟨a, ns, rfl, h, fun _ => rfl⟩
theorem got_law {P : Program} {w : World} {K : PySem.W.Frag} {mg : Str → Option Value} {base : Heap} {f__law_generator f__law_is_fraction f__law_judged f__law_pair_right f__law_random f__law_same f_is_fraction f_law f_lowest f_plus f_times : Addr} {T : Tab} (B : Bi mg) (D : Def K mg "law" s_law f_law) (G__law_same : Got P w K mg base 8 ["told", "due"] "_law_same" s__law_same f__law_same (sp__law_same 8)) (G_plus : Got P w K mg base 3 ["one", "other"] "plus" s_plus f_plus (sp_two plusA)) (G_times : Got P w K mg base 3 ["one", "other"] "times" s_times f_times (sp_two timesA)) (G_lowest : Got P w K mg base 2 ["number", "bottom"] "lowest" s_lowest f_lowest sp_lowest) (G_is_fraction : Got P w K mg base 2 ["value"] "is_fraction" s_is_fraction f_is_fraction sp_is_fraction) (G__law_judged : Got P w K mg base 9 ["deed", "args", "values", "due"] "_law_judged" s__law_judged f__law_judged (sp__law_judged T)) (G__law_generator : Got P w K mg base 2 ["script", "index"] "_law_generator" s__law_generator f__law_generator sp__law_generator) (G__law_pair_right : Got P w K mg base 9 ["generator"] "_law_pair_right" s__law_pair_right f__law_pair_right sp__law_pair_right) (G__law_random : Got P w K mg base 2 ["generator", "bound"] "_law_random" s__law_random f__law_random sp__law_random) (F_is_fraction : mg "is_fraction" = some (.ref f_is_fraction)) (F__law_is_fraction : mg "_law_is_fraction" = some (.ref f__law_is_fraction)) (hT1 : T f_is_fraction = some sp_is_fraction) (hT2 : T f__law_is_fraction = some sp__law_is_fraction) :
    Got P w K mg base (9 + 1) ["script"] "law" s_law f_law sp_law := by
  refine got_of D sc_law (by rintro as S P ⟨_, _, rfl, _⟩; rfl) (bd_law) (fun cdv A0 outer s0_ H E hr => ⟨_, (sb_cons (sa_for PassesOwn.never (ia_rng1 B.range_ (la_cons ea_int la_nil)) (ga_name 1 sc_law.nd) (sb_cons (sa_set 2 sc_law.nd (ea_call G__law_generator (hr.mono (by omega)) (la_cons (ea_var 0) (la_cons (ea_var 1) la_nil))))
      (sb_cons (sa_for PassesOwn.never (ia_rng1 B.range_ (la_cons ea_int la_nil)) (ga_name 3 sc_law.nd) (sb_one (sa_if (tt_not (tt_val (ea_call G__law_pair_right (hr.mono (by omega)) (la_cons (ea_var 2) la_nil)))) (sb_one (sa_ret ea_bl)) sb_nil)))
      (sb_cons (sa_par 4 5 sc_law.nd (la_cons (ea_op oa_sub (ea_call G__law_random (hr.mono (by omega)) (la_cons (ea_var 2) (la_cons ea_int la_nil))) ea_int) (la_cons (ea_op oa_sub (ea_call G__law_random (hr.mono (by omega)) (la_cons (ea_var 2) (la_cons ea_int la_nil))) ea_int) la_nil)))
      (sb_cons (sa_set 6 sc_law.nd (ea_lst (la_cons (ea_tup (la_cons (ea_var 4) (la_cons (ea_var 5) la_nil))) (la_cons (ea_tup (la_cons (ea_var 4) (la_cons ea_int la_nil))) (la_cons (ea_tup (la_cons ea_int (la_cons (ea_var 5) la_nil))) (la_cons (ea_tup (la_cons ea_int (la_cons ea_int la_nil))) (la_cons (ea_tup (la_cons ea_int (la_cons ea_int la_nil))) (la_cons (ea_tup (la_cons ea_int (la_cons ea_int la_nil))) (la_cons (ea_tup (la_cons ea_int (la_cons (ea_op oa_sub ea_int ea_int) la_nil))) (la_cons (ea_tup (la_cons ea_int (la_cons ea_int la_nil))) (la_cons (ea_lst (la_cons ea_int (la_cons ea_int la_nil))) (la_cons (ea_tup (la_cons ea_int la_nil)) (la_cons (ea_tup (la_cons ea_int (la_cons ea_int (la_cons ea_int la_nil)))) (la_cons (ea_tup (la_cons ea_bl (la_cons ea_int la_nil))) (la_cons (ea_tup (la_cons ea_int (la_cons ea_bl la_nil))) (la_cons (ea_tup (la_cons ea_str (la_cons ea_int la_nil))) (la_cons (ea_tup (la_cons ea_non (la_cons ea_int la_nil))) (la_cons ea_non (la_cons ea_int (la_cons ea_str (la_cons (ea_tup (la_cons (ea_tup (la_cons ea_int (la_cons ea_int la_nil))) (la_cons ea_int la_nil))) la_nil)))))))))))))))))))))
      (sb_one (sa_if (tt_not (tt_val (ea_call G__law_judged (hr.mono (by omega)) (la_cons (ea_gfn F_is_fraction) (la_cons (ea_lst la_nil) (la_cons (ea_var 6) (la_cons (ea_gfn F__law_is_fraction) la_nil))))))) (sb_one (sa_ret ea_bl)) sb_nil)))))))
      (sb_one (sa_ret (ea_and (ea_cmp oa_is (ea_callK (ks := ["value"]) [0] G_is_fraction (hr.mono (by omega)) (ka_cons (ea_tup (la_cons ea_int (la_cons ea_int la_nil))) ka_nil) kb_is_fraction_0) ea_bl) (ea_one (ea_call G__law_same (hr.mono (by omega)) (la_cons (ea_lst (la_cons (ea_call G_plus (hr.mono (by omega)) (la_cons (ea_tup (la_cons ea_int (la_cons ea_int la_nil))) (la_cons (ea_tup (la_cons ea_int (la_cons ea_int la_nil))) la_nil))) (la_cons (ea_call G_times (hr.mono (by omega)) (la_cons (ea_tup (la_cons ea_int (la_cons ea_int la_nil))) (la_cons (ea_tup (la_cons ea_int (la_cons ea_int la_nil))) la_nil))) (la_cons (ea_call G_lowest (hr.mono (by omega)) (la_cons ea_int (la_cons (ea_op oa_sub ea_int ea_int) la_nil))) la_nil)))) (la_cons (ea_lst (la_cons (ea_tup (la_cons ea_int (la_cons ea_int la_nil))) (la_cons (ea_tup (la_cons ea_int (la_cons ea_int la_nil))) (la_cons (ea_tup (la_cons (ea_op oa_sub ea_int ea_int) (la_cons ea_int la_nil))) la_nil)))) la_nil)))))))), fun as S P h => ?_⟩)
  obtain ⟨scr, ns, rfl, hs, k⟩ := h
  (try simp only [startN, List.map_cons, List.map_nil, List.length_cons, List.length_nil, Nat.reduceAdd, Nat.reduceSub, Nat.zero_add, Nat.sub_self, List.replicate_succ, List.replicate_zero, List.reduceReplicate, List.cons_append, List.nil_append, List.append_nil, ↓sRet, ↓sRetN, ↓sSeq, ↓sNil, ↓sIf, ↓sSet, ↓sPar, ↓sDrop, ↓sSetL, ↓eAnd, ↓eOr, ↓eNot, ↓eIf, ↓eNeg, ↓eCall, ↓eCallK, ↓eCallV, ↓lCons, ↓lNil, ↓eVar, ↓eC, ↓eTup, ↓eLst, ↓eLstC, ↓eOp, ↓eSl, ↓oNo, ↓oPart, ↓eBits, ↓tBool, ↓tAndA, ↓tOrA, ↓tNotA, ↓List.getElem?_cons_zero, ↓List.getElem?_cons_succ, ↓List.set_cons_zero, ↓List.set_cons_succ, ↓rInt, ↓rInt0, ↓rAddA, ↓rEqA, ↓rIsA, ↓rMax2A, ↓rMin2A, ↓rIntA, ↓rAbsA, bsel_true, bsel_false, wipeN, gNm, tYesA, ↓isNon, ↓isBlOf, ↓isI, ↓isB, ↓isS, ↓isT, ↓isL, Bool.or_false, Bool.or_true, Bool.false_or, Bool.true_or, ↓wList, ↓eLc, ↓rLenA, ↓sFor, ↓sWhile, ↓wRng1, ↓wRng2, ↓wTup, Bool.not_true, Bool.not_false, Bool.false_eq_true, ↓reduceIte, Bool.not_not])
  refine ⟨by decide, fun i nv S' => ∃ v1 v2 v3 v4 v5 v6 : Option A, nv = [some (.ref scr), v1, v2, v3, v4, v5, v6] ∧ S' scr = some (.frz (ns.map .int)), ⟨none, none, none, none, none, none, rfl, hs⟩, fun _ _ _ _ _ => trivial, ?_, ?_⟩
  · rintro i x nv S' hx ⟨v1, v2, v3, v4, v5, v6, rfl, hs'⟩
    obtain ⟨hi, rfl⟩ := rngA_at hx
    have hi2 : i < 2 := hi
    (try simp only [startN, List.map_cons, List.map_nil, List.length_cons, List.length_nil, Nat.reduceAdd, Nat.reduceSub, Nat.zero_add, Nat.sub_self, List.replicate_succ, List.replicate_zero, List.reduceReplicate, List.cons_append, List.nil_append, List.append_nil, ↓sRet, ↓sRetN, ↓sSeq, ↓sNil, ↓sIf, ↓sSet, ↓sPar, ↓sDrop, ↓sSetL, ↓eAnd, ↓eOr, ↓eNot, ↓eIf, ↓eNeg, ↓eCall, ↓eCallK, ↓eCallV, ↓lCons, ↓lNil, ↓eVar, ↓eC, ↓eTup, ↓eLst, ↓eLstC, ↓eOp, ↓eSl, ↓oNo, ↓oPart, ↓eBits, ↓tBool, ↓tAndA, ↓tOrA, ↓tNotA, ↓List.getElem?_cons_zero, ↓List.getElem?_cons_succ, ↓List.set_cons_zero, ↓List.set_cons_succ, ↓rInt, ↓rInt0, ↓rAddA, ↓rEqA, ↓rIsA, ↓rMax2A, ↓rMin2A, ↓rIntA, ↓rAbsA, bsel_true, bsel_false, wipeN, gNm, tYesA, ↓isNon, ↓isBlOf, ↓isI, ↓isB, ↓isS, ↓isT, ↓isL, Bool.or_false, Bool.or_true, Bool.false_or, Bool.true_or, ↓wList, ↓eLc, ↓rLenA, ↓sFor, ↓sWhile, ↓wRng1, ↓wRng2, ↓wTup, Bool.not_true, Bool.not_false, Bool.false_eq_true, ↓reduceIte, Bool.not_not])
    rw [Int.zero_add]
    refine ⟨scr, ns, i, rfl, hs', by omega, fun g l hg gl => ?_⟩
    have ng : scr ≠ g := fun e => by rw [e, hg] at hs'; cases hs'
    (try simp only [startN, List.map_cons, List.map_nil, List.length_cons, List.length_nil, Nat.reduceAdd, Nat.reduceSub, Nat.zero_add, Nat.sub_self, List.replicate_succ, List.replicate_zero, List.reduceReplicate, List.cons_append, List.nil_append, List.append_nil, ↓sRet, ↓sRetN, ↓sSeq, ↓sNil, ↓sIf, ↓sSet, ↓sPar, ↓sDrop, ↓sSetL, ↓eAnd, ↓eOr, ↓eNot, ↓eIf, ↓eNeg, ↓eCall, ↓eCallK, ↓eCallV, ↓lCons, ↓lNil, ↓eVar, ↓eC, ↓eTup, ↓eLst, ↓eLstC, ↓eOp, ↓eSl, ↓oNo, ↓oPart, ↓eBits, ↓tBool, ↓tAndA, ↓tOrA, ↓tNotA, ↓List.getElem?_cons_zero, ↓List.getElem?_cons_succ, ↓List.set_cons_zero, ↓List.set_cons_succ, ↓rInt, ↓rInt0, ↓rAddA, ↓rEqA, ↓rIsA, ↓rMax2A, ↓rMin2A, ↓rIntA, ↓rAbsA, bsel_true, bsel_false, wipeN, gNm, tYesA, ↓isNon, ↓isBlOf, ↓isI, ↓isB, ↓isS, ↓isT, ↓isL, Bool.or_false, Bool.or_true, Bool.false_or, Bool.true_or, ↓wList, ↓eLc, ↓rLenA, ↓sFor, ↓sWhile, ↓wRng1, ↓wRng2, ↓wTup, Bool.not_true, Bool.not_false, Bool.false_eq_true, ↓reduceIte, Bool.not_not])
    refine ⟨by decide, fun t nv S2 => ∃ (v3 : Option A) (l' : List A), nv = [some (.ref scr), some (.int i), some (.ref g), v3, v4, v5, v6] ∧ S2 = sup S' g (.lst l') ∧ GenL (1000 * i + 1000 * t) l', ⟨v3, l, rfl, rfl, gl.mono (by omega)⟩, fun _ _ _ _ _ => trivial, ?_, ?_⟩
    · rintro t y nv2 S2 hy ⟨v3, l', rfl, rfl, gl'⟩
      obtain ⟨ht, rfl⟩ := rngA_at hy
      have ht2 : t < 6 := ht
      (try simp only [startN, List.map_cons, List.map_nil, List.length_cons, List.length_nil, Nat.reduceAdd, Nat.reduceSub, Nat.zero_add, Nat.sub_self, List.replicate_succ, List.replicate_zero, List.reduceReplicate, List.cons_append, List.nil_append, List.append_nil, ↓sRet, ↓sRetN, ↓sSeq, ↓sNil, ↓sIf, ↓sSet, ↓sPar, ↓sDrop, ↓sSetL, ↓eAnd, ↓eOr, ↓eNot, ↓eIf, ↓eNeg, ↓eCall, ↓eCallK, ↓eCallV, ↓lCons, ↓lNil, ↓eVar, ↓eC, ↓eTup, ↓eLst, ↓eLstC, ↓eOp, ↓eSl, ↓oNo, ↓oPart, ↓eBits, ↓tBool, ↓tAndA, ↓tOrA, ↓tNotA, ↓List.getElem?_cons_zero, ↓List.getElem?_cons_succ, ↓List.set_cons_zero, ↓List.set_cons_succ, ↓rInt, ↓rInt0, ↓rAddA, ↓rEqA, ↓rIsA, ↓rMax2A, ↓rMin2A, ↓rIntA, ↓rAbsA, bsel_true, bsel_false, wipeN, gNm, tYesA, ↓isNon, ↓isBlOf, ↓isI, ↓isB, ↓isS, ↓isT, ↓isL, Bool.or_false, Bool.or_true, Bool.false_or, Bool.true_or, ↓wList, ↓eLc, ↓rLenA, ↓sFor, ↓sWhile, ↓wRng1, ↓wRng2, ↓wTup, Bool.not_true, Bool.not_false, Bool.false_eq_true, ↓reduceIte, Bool.not_not])
      refine ⟨g, _, l', rfl, sup_same, gl', by omega, fun l2 gl2 => ?_⟩
      rw [sup_sup]
      (try simp only [startN, List.map_cons, List.map_nil, List.length_cons, List.length_nil, Nat.reduceAdd, Nat.reduceSub, Nat.zero_add, Nat.sub_self, List.replicate_succ, List.replicate_zero, List.reduceReplicate, List.cons_append, List.nil_append, List.append_nil, ↓sRet, ↓sRetN, ↓sSeq, ↓sNil, ↓sIf, ↓sSet, ↓sPar, ↓sDrop, ↓sSetL, ↓eAnd, ↓eOr, ↓eNot, ↓eIf, ↓eNeg, ↓eCall, ↓eCallK, ↓eCallV, ↓lCons, ↓lNil, ↓eVar, ↓eC, ↓eTup, ↓eLst, ↓eLstC, ↓eOp, ↓eSl, ↓oNo, ↓oPart, ↓eBits, ↓tBool, ↓tAndA, ↓tOrA, ↓tNotA, ↓List.getElem?_cons_zero, ↓List.getElem?_cons_succ, ↓List.set_cons_zero, ↓List.set_cons_succ, ↓rInt, ↓rInt0, ↓rAddA, ↓rEqA, ↓rIsA, ↓rMax2A, ↓rMin2A, ↓rIntA, ↓rAbsA, bsel_true, bsel_false, wipeN, gNm, tYesA, ↓isNon, ↓isBlOf, ↓isI, ↓isB, ↓isS, ↓isT, ↓isL, Bool.or_false, Bool.or_true, Bool.false_or, Bool.true_or, ↓wList, ↓eLc, ↓rLenA, ↓sFor, ↓sWhile, ↓wRng1, ↓wRng2, ↓wTup, Bool.not_true, Bool.not_false, Bool.false_eq_true, ↓reduceIte, Bool.not_not])
      exact ⟨_, l2, rfl, rfl, gl2.mono (by omega)⟩
    · rintro nv2 S2 ⟨v3, l', rfl, rfl, gl'⟩
      rw [rngA_len] at gl'
      have gl6 : GenL 100000 l' := gl'.mono (by show 1000 * i + 1000 * 6 ≤ 100000; omega)
      (try simp only [startN, List.map_cons, List.map_nil, List.length_cons, List.length_nil, Nat.reduceAdd, Nat.reduceSub, Nat.zero_add, Nat.sub_self, List.replicate_succ, List.replicate_zero, List.reduceReplicate, List.cons_append, List.nil_append, List.append_nil, ↓sRet, ↓sRetN, ↓sSeq, ↓sNil, ↓sIf, ↓sSet, ↓sPar, ↓sDrop, ↓sSetL, ↓eAnd, ↓eOr, ↓eNot, ↓eIf, ↓eNeg, ↓eCall, ↓eCallK, ↓eCallV, ↓lCons, ↓lNil, ↓eVar, ↓eC, ↓eTup, ↓eLst, ↓eLstC, ↓eOp, ↓eSl, ↓oNo, ↓oPart, ↓eBits, ↓tBool, ↓tAndA, ↓tOrA, ↓tNotA, ↓List.getElem?_cons_zero, ↓List.getElem?_cons_succ, ↓List.set_cons_zero, ↓List.set_cons_succ, ↓rInt, ↓rInt0, ↓rAddA, ↓rEqA, ↓rIsA, ↓rMax2A, ↓rMin2A, ↓rIntA, ↓rAbsA, bsel_true, bsel_false, wipeN, gNm, tYesA, ↓isNon, ↓isBlOf, ↓isI, ↓isB, ↓isS, ↓isT, ↓isL, Bool.or_false, Bool.or_true, Bool.false_or, Bool.true_or, ↓wList, ↓eLc, ↓rLenA, ↓sFor, ↓sWhile, ↓wRng1, ↓wRng2, ↓wTup, Bool.not_true, Bool.not_false, Bool.false_eq_true, ↓reduceIte, Bool.not_not])
      refine ⟨g, 30, _, l', rfl, sup_same, gl6, by decide, .small 1000 (m := 30) (by decide) (Nat.lt_of_lt_of_le (by decide) (Nat.pow_le_pow_right (n := 2) (i := 10) (by decide) (by decide))), by decide, fun r l2 r0 r1 gl2 => ?_⟩
      rw [sup_sup]
      (try simp only [startN, List.map_cons, List.map_nil, List.length_cons, List.length_nil, Nat.reduceAdd, Nat.reduceSub, Nat.zero_add, Nat.sub_self, List.replicate_succ, List.replicate_zero, List.reduceReplicate, List.cons_append, List.nil_append, List.append_nil, ↓sRet, ↓sRetN, ↓sSeq, ↓sNil, ↓sIf, ↓sSet, ↓sPar, ↓sDrop, ↓sSetL, ↓eAnd, ↓eOr, ↓eNot, ↓eIf, ↓eNeg, ↓eCall, ↓eCallK, ↓eCallV, ↓lCons, ↓lNil, ↓eVar, ↓eC, ↓eTup, ↓eLst, ↓eLstC, ↓eOp, ↓eSl, ↓oNo, ↓oPart, ↓eBits, ↓tBool, ↓tAndA, ↓tOrA, ↓tNotA, ↓List.getElem?_cons_zero, ↓List.getElem?_cons_succ, ↓List.set_cons_zero, ↓List.set_cons_succ, ↓rInt, ↓rInt0, ↓rAddA, ↓rEqA, ↓rIsA, ↓rMax2A, ↓rMin2A, ↓rIntA, ↓rAbsA, bsel_true, bsel_false, wipeN, gNm, tYesA, ↓isNon, ↓isBlOf, ↓isI, ↓isB, ↓isS, ↓isT, ↓isL, Bool.or_false, Bool.or_true, Bool.false_or, Bool.true_or, ↓wList, ↓eLc, ↓rLenA, ↓sFor, ↓sWhile, ↓wRng1, ↓wRng2, ↓wTup, Bool.not_true, Bool.not_false, Bool.false_eq_true, ↓reduceIte, Bool.not_not])
      refine ⟨g, 12, _, l2, rfl, sup_same, gl2, by decide, .small 1000 (m := 12) (by decide) (Nat.lt_of_lt_of_le (by decide) (Nat.pow_le_pow_right (n := 2) (i := 10) (by decide) (by decide))), by decide, fun q l3 q0 q1 gl3 => ?_⟩
      rw [sup_sup]
      (try simp only [startN, List.map_cons, List.map_nil, List.length_cons, List.length_nil, Nat.reduceAdd, Nat.reduceSub, Nat.zero_add, Nat.sub_self, List.replicate_succ, List.replicate_zero, List.reduceReplicate, List.cons_append, List.nil_append, List.append_nil, ↓sRet, ↓sRetN, ↓sSeq, ↓sNil, ↓sIf, ↓sSet, ↓sPar, ↓sDrop, ↓sSetL, ↓eAnd, ↓eOr, ↓eNot, ↓eIf, ↓eNeg, ↓eCall, ↓eCallK, ↓eCallV, ↓lCons, ↓lNil, ↓eVar, ↓eC, ↓eTup, ↓eLst, ↓eLstC, ↓eOp, ↓eSl, ↓oNo, ↓oPart, ↓eBits, ↓tBool, ↓tAndA, ↓tOrA, ↓tNotA, ↓List.getElem?_cons_zero, ↓List.getElem?_cons_succ, ↓List.set_cons_zero, ↓List.set_cons_succ, ↓rInt, ↓rInt0, ↓rAddA, ↓rEqA, ↓rIsA, ↓rMax2A, ↓rMin2A, ↓rIntA, ↓rAbsA, bsel_true, bsel_false, wipeN, gNm, tYesA, ↓isNon, ↓isBlOf, ↓isI, ↓isB, ↓isS, ↓isT, ↓isL, Bool.or_false, Bool.or_true, Bool.false_or, Bool.true_or, ↓wList, ↓eLc, ↓rLenA, ↓sFor, ↓sWhile, ↓wRng1, ↓wRng2, ↓wTup, Bool.not_true, Bool.not_false, Bool.false_eq_true, ↓reduceIte, Bool.not_not])
      refine ⟨_, _, [], _, _, _, rfl, by decide, hT1, hT2, ?_, ?_⟩
      · intro v hv
        have key : nr v = true ∧ frB 4000 v := by
          have b1 : ∀ z : Int, z.natAbs ≤ 100 → Bd 4000 z := fun z hz => (Bd.small 10 (i := z) (m := 100) hz).le
          simp only [List.mem_cons, List.not_mem_nil, or_false] at hv
          rcases hv with rfl | rfl | rfl | rfl | rfl | rfl | rfl | rfl | rfl | rfl | rfl | rfl | rfl | rfl | rfl | rfl | rfl | rfl | rfl
          all_goals first
            | exact ⟨rfl, b1 _ (by omega), b1 _ (by omega)⟩
            | exact ⟨rfl, trivial⟩
        exact ⟨.bl (isFrA v), rfl, rfl, fun Q q => ⟨⟨v, rfl, key.1, q⟩, ⟨v, rfl, key.1, key.2, q⟩⟩⟩
      · (try simp only [startN, List.map_cons, List.map_nil, List.length_cons, List.length_nil, Nat.reduceAdd, Nat.reduceSub, Nat.zero_add, Nat.sub_self, List.replicate_succ, List.replicate_zero, List.reduceReplicate, List.cons_append, List.nil_append, List.append_nil, ↓sRet, ↓sRetN, ↓sSeq, ↓sNil, ↓sIf, ↓sSet, ↓sPar, ↓sDrop, ↓sSetL, ↓eAnd, ↓eOr, ↓eNot, ↓eIf, ↓eNeg, ↓eCall, ↓eCallK, ↓eCallV, ↓lCons, ↓lNil, ↓eVar, ↓eC, ↓eTup, ↓eLst, ↓eLstC, ↓eOp, ↓eSl, ↓oNo, ↓oPart, ↓eBits, ↓tBool, ↓tAndA, ↓tOrA, ↓tNotA, ↓List.getElem?_cons_zero, ↓List.getElem?_cons_succ, ↓List.set_cons_zero, ↓List.set_cons_succ, ↓rInt, ↓rInt0, ↓rAddA, ↓rEqA, ↓rIsA, ↓rMax2A, ↓rMin2A, ↓rIntA, ↓rAbsA, bsel_true, bsel_false, wipeN, gNm, tYesA, ↓isNon, ↓isBlOf, ↓isI, ↓isB, ↓isS, ↓isT, ↓isL, Bool.or_false, Bool.or_true, Bool.false_or, Bool.true_or, ↓wList, ↓eLc, ↓rLenA, ↓sFor, ↓sWhile, ↓wRng1, ↓wRng2, ↓wTup, Bool.not_true, Bool.not_false, Bool.false_eq_true, ↓reduceIte, Bool.not_not])
        exact ⟨_, _, _, _, _, _, rfl, by rw [sup_ne ng]; exact hs'⟩
  · rintro nv S' ⟨v1, v2, v3, v4, v5, v6, rfl, hs'⟩
    (try simp only [startN, List.map_cons, List.map_nil, List.length_cons, List.length_nil, Nat.reduceAdd, Nat.reduceSub, Nat.zero_add, Nat.sub_self, List.replicate_succ, List.replicate_zero, List.reduceReplicate, List.cons_append, List.nil_append, List.append_nil, ↓sRet, ↓sRetN, ↓sSeq, ↓sNil, ↓sIf, ↓sSet, ↓sPar, ↓sDrop, ↓sSetL, ↓eAnd, ↓eOr, ↓eNot, ↓eIf, ↓eNeg, ↓eCall, ↓eCallK, ↓eCallV, ↓lCons, ↓lNil, ↓eVar, ↓eC, ↓eTup, ↓eLst, ↓eLstC, ↓eOp, ↓eSl, ↓oNo, ↓oPart, ↓eBits, ↓tBool, ↓tAndA, ↓tOrA, ↓tNotA, ↓List.getElem?_cons_zero, ↓List.getElem?_cons_succ, ↓List.set_cons_zero, ↓List.set_cons_succ, ↓rInt, ↓rInt0, ↓rAddA, ↓rEqA, ↓rIsA, ↓rMax2A, ↓rMin2A, ↓rIntA, ↓rAbsA, bsel_true, bsel_false, wipeN, gNm, tYesA, ↓isNon, ↓isBlOf, ↓isI, ↓isB, ↓isS, ↓isT, ↓isL, Bool.or_false, Bool.or_true, Bool.false_or, Bool.true_or, ↓wList, ↓eLc, ↓rLenA, ↓sFor, ↓sWhile, ↓wRng1, ↓wRng2, ↓wTup, Bool.not_true, Bool.not_false, Bool.false_eq_true, ↓reduceIte, Bool.not_not])
    refine ⟨_, rfl, rfl, ?_⟩
    (try simp only [startN, List.map_cons, List.map_nil, List.length_cons, List.length_nil, Nat.reduceAdd, Nat.reduceSub, Nat.zero_add, Nat.sub_self, List.replicate_succ, List.replicate_zero, List.reduceReplicate, List.cons_append, List.nil_append, List.append_nil, ↓sRet, ↓sRetN, ↓sSeq, ↓sNil, ↓sIf, ↓sSet, ↓sPar, ↓sDrop, ↓sSetL, ↓eAnd, ↓eOr, ↓eNot, ↓eIf, ↓eNeg, ↓eCall, ↓eCallK, ↓eCallV, ↓lCons, ↓lNil, ↓eVar, ↓eC, ↓eTup, ↓eLst, ↓eLstC, ↓eOp, ↓eSl, ↓oNo, ↓oPart, ↓eBits, ↓tBool, ↓tAndA, ↓tOrA, ↓tNotA, ↓List.getElem?_cons_zero, ↓List.getElem?_cons_succ, ↓List.set_cons_zero, ↓List.set_cons_succ, ↓rInt, ↓rInt0, ↓rAddA, ↓rEqA, ↓rIsA, ↓rMax2A, ↓rMin2A, ↓rIntA, ↓rAbsA, bsel_true, bsel_false, wipeN, gNm, tYesA, ↓isNon, ↓isBlOf, ↓isI, ↓isB, ↓isS, ↓isT, ↓isL, Bool.or_false, Bool.or_true, Bool.false_or, Bool.true_or, ↓wList, ↓eLc, ↓rLenA, ↓sFor, ↓sWhile, ↓wRng1, ↓wRng2, ↓wTup, Bool.not_true, Bool.not_false, Bool.false_eq_true, ↓reduceIte, Bool.not_not])
    have e1 : isFrA (.tup [.int 1, .int 2]) = true := by decide
    rw [e1]
    (try simp only [startN, List.map_cons, List.map_nil, List.length_cons, List.length_nil, Nat.reduceAdd, Nat.reduceSub, Nat.zero_add, Nat.sub_self, List.replicate_succ, List.replicate_zero, List.reduceReplicate, List.cons_append, List.nil_append, List.append_nil, ↓sRet, ↓sRetN, ↓sSeq, ↓sNil, ↓sIf, ↓sSet, ↓sPar, ↓sDrop, ↓sSetL, ↓eAnd, ↓eOr, ↓eNot, ↓eIf, ↓eNeg, ↓eCall, ↓eCallK, ↓eCallV, ↓lCons, ↓lNil, ↓eVar, ↓eC, ↓eTup, ↓eLst, ↓eLstC, ↓eOp, ↓eSl, ↓oNo, ↓oPart, ↓eBits, ↓tBool, ↓tAndA, ↓tOrA, ↓tNotA, ↓List.getElem?_cons_zero, ↓List.getElem?_cons_succ, ↓List.set_cons_zero, ↓List.set_cons_succ, ↓rInt, ↓rInt0, ↓rAddA, ↓rEqA, ↓rIsA, ↓rMax2A, ↓rMin2A, ↓rIntA, ↓rAbsA, bsel_true, bsel_false, wipeN, gNm, tYesA, ↓isNon, ↓isBlOf, ↓isI, ↓isB, ↓isS, ↓isT, ↓isL, Bool.or_false, Bool.or_true, Bool.false_or, Bool.true_or, ↓wList, ↓eLc, ↓rLenA, ↓sFor, ↓sWhile, ↓wRng1, ↓wRng2, ↓wTup, Bool.not_true, Bool.not_false, Bool.false_eq_true, ↓reduceIte, Bool.not_not])
    have b1 : ∀ z : Int, z.natAbs ≤ 100 → Bd 1000 z := fun z hz => (Bd.small 10 (i := z) (m := 100) hz).le
    have b2 : ∀ z : Int, z.natAbs ≤ 100 → Bd 4000 z := fun z hz => (Bd.small 10 (i := z) (m := 100) hz).le
    refine ⟨1, 2, 1, 3, rfl, b1 _ (by decide), b1 _ (by decide), b1 _ (by decide), b1 _ (by decide), by decide, by decide, ?_⟩
    refine ⟨2, 3, 3, 4, rfl, b1 _ (by decide), b1 _ (by decide), b1 _ (by decide), b1 _ (by decide), by decide, by decide, ?_⟩
    refine ⟨6, 0 - 4, rfl, by decide, b2 _ (by decide), ?_⟩
    refine ⟨_, _, rfl, rfl, rfl, rfl, fun bb hbb => ?_⟩
    have e2 : bb = true := hbb.mpr (by rfl)
    rw [e2]
    exact k S'
theorem all_mk {P : Program} {w : World} {K : PySem.W.Frag} {h : Heap} {mg : Str → Option Value} {fa f_is_whole f_common_of f_is_fraction f_lowest f_plus f_minus f_times f_compared f__law_hash f__law_random f__law_cell f__law_generator f__law_pick f__law_same f__law_is_whole f__law_common f__law_lowest f__law_is_fraction f__law_call f__law_judged f__law_plus f__law_minus f__law_less f__law_drawn_fraction f__law_pair_right f_law : Addr} (X : K.In h) (G : h.Ns mainGlobals mg) (hfa : mg "law" = some (.ref fa))
    {od_is_whole an_is_whole : Option Addr} {sl_is_whole : Array (Option Value)} {oc_is_whole kV_is_whole dc_is_whole pm_is_whole cd_is_whole ct_is_whole : Value}
    (a_is_whole : PySem.W.nsIn K mainGlobals "is_whole" = some (some (.ref f_is_whole))) (l_is_whole : K.lookup f_is_whole = some ⟨oc_is_whole, od_is_whole, .func (PySem.W.fnOf "is_whole" "is_whole" (defArgs s_is_whole) (defBody s_is_whole) (defScope s_is_whole) .none kV_is_whole dc_is_whole pm_is_whole an_is_whole cd_is_whole ct_is_whole), sl_is_whole⟩) (c_is_whole : PySem.W.codeIn K cd_is_whole "is_whole" = true) (k_is_whole : PySem.W.keepIn K (.ref f_is_whole) = true)
    {od_common_of an_common_of : Option Addr} {sl_common_of : Array (Option Value)} {oc_common_of kV_common_of dc_common_of pm_common_of cd_common_of ct_common_of : Value}
    (a_common_of : PySem.W.nsIn K mainGlobals "common_of" = some (some (.ref f_common_of))) (l_common_of : K.lookup f_common_of = some ⟨oc_common_of, od_common_of, .func (PySem.W.fnOf "common_of" "common_of" (defArgs s_common_of) (defBody s_common_of) (defScope s_common_of) .none kV_common_of dc_common_of pm_common_of an_common_of cd_common_of ct_common_of), sl_common_of⟩) (c_common_of : PySem.W.codeIn K cd_common_of "common_of" = true) (k_common_of : PySem.W.keepIn K (.ref f_common_of) = true)
    {od_is_fraction an_is_fraction : Option Addr} {sl_is_fraction : Array (Option Value)} {oc_is_fraction kV_is_fraction dc_is_fraction pm_is_fraction cd_is_fraction ct_is_fraction : Value}
    (a_is_fraction : PySem.W.nsIn K mainGlobals "is_fraction" = some (some (.ref f_is_fraction))) (l_is_fraction : K.lookup f_is_fraction = some ⟨oc_is_fraction, od_is_fraction, .func (PySem.W.fnOf "is_fraction" "is_fraction" (defArgs s_is_fraction) (defBody s_is_fraction) (defScope s_is_fraction) .none kV_is_fraction dc_is_fraction pm_is_fraction an_is_fraction cd_is_fraction ct_is_fraction), sl_is_fraction⟩) (c_is_fraction : PySem.W.codeIn K cd_is_fraction "is_fraction" = true) (k_is_fraction : PySem.W.keepIn K (.ref f_is_fraction) = true)
    {od_lowest an_lowest : Option Addr} {sl_lowest : Array (Option Value)} {oc_lowest kV_lowest dc_lowest pm_lowest cd_lowest ct_lowest : Value}
    (a_lowest : PySem.W.nsIn K mainGlobals "lowest" = some (some (.ref f_lowest))) (l_lowest : K.lookup f_lowest = some ⟨oc_lowest, od_lowest, .func (PySem.W.fnOf "lowest" "lowest" (defArgs s_lowest) (defBody s_lowest) (defScope s_lowest) .none kV_lowest dc_lowest pm_lowest an_lowest cd_lowest ct_lowest), sl_lowest⟩) (c_lowest : PySem.W.codeIn K cd_lowest "lowest" = true) (k_lowest : PySem.W.keepIn K (.ref f_lowest) = true)
    {od_plus an_plus : Option Addr} {sl_plus : Array (Option Value)} {oc_plus kV_plus dc_plus pm_plus cd_plus ct_plus : Value}
    (a_plus : PySem.W.nsIn K mainGlobals "plus" = some (some (.ref f_plus))) (l_plus : K.lookup f_plus = some ⟨oc_plus, od_plus, .func (PySem.W.fnOf "plus" "plus" (defArgs s_plus) (defBody s_plus) (defScope s_plus) .none kV_plus dc_plus pm_plus an_plus cd_plus ct_plus), sl_plus⟩) (c_plus : PySem.W.codeIn K cd_plus "plus" = true) (k_plus : PySem.W.keepIn K (.ref f_plus) = true)
    {od_minus an_minus : Option Addr} {sl_minus : Array (Option Value)} {oc_minus kV_minus dc_minus pm_minus cd_minus ct_minus : Value}
    (a_minus : PySem.W.nsIn K mainGlobals "minus" = some (some (.ref f_minus))) (l_minus : K.lookup f_minus = some ⟨oc_minus, od_minus, .func (PySem.W.fnOf "minus" "minus" (defArgs s_minus) (defBody s_minus) (defScope s_minus) .none kV_minus dc_minus pm_minus an_minus cd_minus ct_minus), sl_minus⟩) (c_minus : PySem.W.codeIn K cd_minus "minus" = true) (k_minus : PySem.W.keepIn K (.ref f_minus) = true)
    {od_times an_times : Option Addr} {sl_times : Array (Option Value)} {oc_times kV_times dc_times pm_times cd_times ct_times : Value}
    (a_times : PySem.W.nsIn K mainGlobals "times" = some (some (.ref f_times))) (l_times : K.lookup f_times = some ⟨oc_times, od_times, .func (PySem.W.fnOf "times" "times" (defArgs s_times) (defBody s_times) (defScope s_times) .none kV_times dc_times pm_times an_times cd_times ct_times), sl_times⟩) (c_times : PySem.W.codeIn K cd_times "times" = true) (k_times : PySem.W.keepIn K (.ref f_times) = true)
    {od_compared an_compared : Option Addr} {sl_compared : Array (Option Value)} {oc_compared kV_compared dc_compared pm_compared cd_compared ct_compared : Value}
    (a_compared : PySem.W.nsIn K mainGlobals "compared" = some (some (.ref f_compared))) (l_compared : K.lookup f_compared = some ⟨oc_compared, od_compared, .func (PySem.W.fnOf "compared" "compared" (defArgs s_compared) (defBody s_compared) (defScope s_compared) .none kV_compared dc_compared pm_compared an_compared cd_compared ct_compared), sl_compared⟩) (c_compared : PySem.W.codeIn K cd_compared "compared" = true) (k_compared : PySem.W.keepIn K (.ref f_compared) = true)
    {od__law_hash an__law_hash : Option Addr} {sl__law_hash : Array (Option Value)} {oc__law_hash kV__law_hash dc__law_hash pm__law_hash cd__law_hash ct__law_hash : Value}
    (a__law_hash : PySem.W.nsIn K mainGlobals "_law_hash" = some (some (.ref f__law_hash))) (l__law_hash : K.lookup f__law_hash = some ⟨oc__law_hash, od__law_hash, .func (PySem.W.fnOf "_law_hash" "_law_hash" (defArgs s__law_hash) (defBody s__law_hash) (defScope s__law_hash) .none kV__law_hash dc__law_hash pm__law_hash an__law_hash cd__law_hash ct__law_hash), sl__law_hash⟩) (c__law_hash : PySem.W.codeIn K cd__law_hash "_law_hash" = true) (k__law_hash : PySem.W.keepIn K (.ref f__law_hash) = true)
    {od__law_random an__law_random : Option Addr} {sl__law_random : Array (Option Value)} {oc__law_random kV__law_random dc__law_random pm__law_random cd__law_random ct__law_random : Value}
    (a__law_random : PySem.W.nsIn K mainGlobals "_law_random" = some (some (.ref f__law_random))) (l__law_random : K.lookup f__law_random = some ⟨oc__law_random, od__law_random, .func (PySem.W.fnOf "_law_random" "_law_random" (defArgs s__law_random) (defBody s__law_random) (defScope s__law_random) .none kV__law_random dc__law_random pm__law_random an__law_random cd__law_random ct__law_random), sl__law_random⟩) (c__law_random : PySem.W.codeIn K cd__law_random "_law_random" = true) (k__law_random : PySem.W.keepIn K (.ref f__law_random) = true)
    {od__law_cell an__law_cell : Option Addr} {sl__law_cell : Array (Option Value)} {oc__law_cell kV__law_cell dc__law_cell pm__law_cell cd__law_cell ct__law_cell : Value}
    (a__law_cell : PySem.W.nsIn K mainGlobals "_law_cell" = some (some (.ref f__law_cell))) (l__law_cell : K.lookup f__law_cell = some ⟨oc__law_cell, od__law_cell, .func (PySem.W.fnOf "_law_cell" "_law_cell" (defArgs s__law_cell) (defBody s__law_cell) (defScope s__law_cell) .none kV__law_cell dc__law_cell pm__law_cell an__law_cell cd__law_cell ct__law_cell), sl__law_cell⟩) (c__law_cell : PySem.W.codeIn K cd__law_cell "_law_cell" = true) (k__law_cell : PySem.W.keepIn K (.ref f__law_cell) = true)
    {od__law_generator an__law_generator : Option Addr} {sl__law_generator : Array (Option Value)} {oc__law_generator kV__law_generator dc__law_generator pm__law_generator cd__law_generator ct__law_generator : Value}
    (a__law_generator : PySem.W.nsIn K mainGlobals "_law_generator" = some (some (.ref f__law_generator))) (l__law_generator : K.lookup f__law_generator = some ⟨oc__law_generator, od__law_generator, .func (PySem.W.fnOf "_law_generator" "_law_generator" (defArgs s__law_generator) (defBody s__law_generator) (defScope s__law_generator) .none kV__law_generator dc__law_generator pm__law_generator an__law_generator cd__law_generator ct__law_generator), sl__law_generator⟩) (c__law_generator : PySem.W.codeIn K cd__law_generator "_law_generator" = true) (k__law_generator : PySem.W.keepIn K (.ref f__law_generator) = true)
    {od__law_pick an__law_pick : Option Addr} {sl__law_pick : Array (Option Value)} {oc__law_pick kV__law_pick dc__law_pick pm__law_pick cd__law_pick ct__law_pick : Value}
    (a__law_pick : PySem.W.nsIn K mainGlobals "_law_pick" = some (some (.ref f__law_pick))) (l__law_pick : K.lookup f__law_pick = some ⟨oc__law_pick, od__law_pick, .func (PySem.W.fnOf "_law_pick" "_law_pick" (defArgs s__law_pick) (defBody s__law_pick) (defScope s__law_pick) .none kV__law_pick dc__law_pick pm__law_pick an__law_pick cd__law_pick ct__law_pick), sl__law_pick⟩) (c__law_pick : PySem.W.codeIn K cd__law_pick "_law_pick" = true) (k__law_pick : PySem.W.keepIn K (.ref f__law_pick) = true)
    {od__law_same an__law_same : Option Addr} {sl__law_same : Array (Option Value)} {oc__law_same kV__law_same dc__law_same pm__law_same cd__law_same ct__law_same : Value}
    (a__law_same : PySem.W.nsIn K mainGlobals "_law_same" = some (some (.ref f__law_same))) (l__law_same : K.lookup f__law_same = some ⟨oc__law_same, od__law_same, .func (PySem.W.fnOf "_law_same" "_law_same" (defArgs s__law_same) (defBody s__law_same) (defScope s__law_same) .none kV__law_same dc__law_same pm__law_same an__law_same cd__law_same ct__law_same), sl__law_same⟩) (c__law_same : PySem.W.codeIn K cd__law_same "_law_same" = true) (k__law_same : PySem.W.keepIn K (.ref f__law_same) = true)
    {od__law_is_whole an__law_is_whole : Option Addr} {sl__law_is_whole : Array (Option Value)} {oc__law_is_whole kV__law_is_whole dc__law_is_whole pm__law_is_whole cd__law_is_whole ct__law_is_whole : Value}
    (a__law_is_whole : PySem.W.nsIn K mainGlobals "_law_is_whole" = some (some (.ref f__law_is_whole))) (l__law_is_whole : K.lookup f__law_is_whole = some ⟨oc__law_is_whole, od__law_is_whole, .func (PySem.W.fnOf "_law_is_whole" "_law_is_whole" (defArgs s__law_is_whole) (defBody s__law_is_whole) (defScope s__law_is_whole) .none kV__law_is_whole dc__law_is_whole pm__law_is_whole an__law_is_whole cd__law_is_whole ct__law_is_whole), sl__law_is_whole⟩) (c__law_is_whole : PySem.W.codeIn K cd__law_is_whole "_law_is_whole" = true) (k__law_is_whole : PySem.W.keepIn K (.ref f__law_is_whole) = true)
    {od__law_common an__law_common : Option Addr} {sl__law_common : Array (Option Value)} {oc__law_common kV__law_common dc__law_common pm__law_common cd__law_common ct__law_common : Value}
    (a__law_common : PySem.W.nsIn K mainGlobals "_law_common" = some (some (.ref f__law_common))) (l__law_common : K.lookup f__law_common = some ⟨oc__law_common, od__law_common, .func (PySem.W.fnOf "_law_common" "_law_common" (defArgs s__law_common) (defBody s__law_common) (defScope s__law_common) .none kV__law_common dc__law_common pm__law_common an__law_common cd__law_common ct__law_common), sl__law_common⟩) (c__law_common : PySem.W.codeIn K cd__law_common "_law_common" = true) (k__law_common : PySem.W.keepIn K (.ref f__law_common) = true)
    {od__law_lowest an__law_lowest : Option Addr} {sl__law_lowest : Array (Option Value)} {oc__law_lowest kV__law_lowest dc__law_lowest pm__law_lowest cd__law_lowest ct__law_lowest : Value}
    (a__law_lowest : PySem.W.nsIn K mainGlobals "_law_lowest" = some (some (.ref f__law_lowest))) (l__law_lowest : K.lookup f__law_lowest = some ⟨oc__law_lowest, od__law_lowest, .func (PySem.W.fnOf "_law_lowest" "_law_lowest" (defArgs s__law_lowest) (defBody s__law_lowest) (defScope s__law_lowest) .none kV__law_lowest dc__law_lowest pm__law_lowest an__law_lowest cd__law_lowest ct__law_lowest), sl__law_lowest⟩) (c__law_lowest : PySem.W.codeIn K cd__law_lowest "_law_lowest" = true) (k__law_lowest : PySem.W.keepIn K (.ref f__law_lowest) = true)
    {od__law_is_fraction an__law_is_fraction : Option Addr} {sl__law_is_fraction : Array (Option Value)} {oc__law_is_fraction kV__law_is_fraction dc__law_is_fraction pm__law_is_fraction cd__law_is_fraction ct__law_is_fraction : Value}
    (a__law_is_fraction : PySem.W.nsIn K mainGlobals "_law_is_fraction" = some (some (.ref f__law_is_fraction))) (l__law_is_fraction : K.lookup f__law_is_fraction = some ⟨oc__law_is_fraction, od__law_is_fraction, .func (PySem.W.fnOf "_law_is_fraction" "_law_is_fraction" (defArgs s__law_is_fraction) (defBody s__law_is_fraction) (defScope s__law_is_fraction) .none kV__law_is_fraction dc__law_is_fraction pm__law_is_fraction an__law_is_fraction cd__law_is_fraction ct__law_is_fraction), sl__law_is_fraction⟩) (c__law_is_fraction : PySem.W.codeIn K cd__law_is_fraction "_law_is_fraction" = true) (k__law_is_fraction : PySem.W.keepIn K (.ref f__law_is_fraction) = true)
    {od__law_call an__law_call : Option Addr} {sl__law_call : Array (Option Value)} {oc__law_call kV__law_call dc__law_call pm__law_call cd__law_call ct__law_call : Value}
    (a__law_call : PySem.W.nsIn K mainGlobals "_law_call" = some (some (.ref f__law_call))) (l__law_call : K.lookup f__law_call = some ⟨oc__law_call, od__law_call, .func (PySem.W.fnOf "_law_call" "_law_call" (defArgs s__law_call) (defBody s__law_call) (defScope s__law_call) .none kV__law_call dc__law_call pm__law_call an__law_call cd__law_call ct__law_call), sl__law_call⟩) (c__law_call : PySem.W.codeIn K cd__law_call "_law_call" = true) (k__law_call : PySem.W.keepIn K (.ref f__law_call) = true)
    {od__law_judged an__law_judged : Option Addr} {sl__law_judged : Array (Option Value)} {oc__law_judged kV__law_judged dc__law_judged pm__law_judged cd__law_judged ct__law_judged : Value}
    (a__law_judged : PySem.W.nsIn K mainGlobals "_law_judged" = some (some (.ref f__law_judged))) (l__law_judged : K.lookup f__law_judged = some ⟨oc__law_judged, od__law_judged, .func (PySem.W.fnOf "_law_judged" "_law_judged" (defArgs s__law_judged) (defBody s__law_judged) (defScope s__law_judged) .none kV__law_judged dc__law_judged pm__law_judged an__law_judged cd__law_judged ct__law_judged), sl__law_judged⟩) (c__law_judged : PySem.W.codeIn K cd__law_judged "_law_judged" = true) (k__law_judged : PySem.W.keepIn K (.ref f__law_judged) = true)
    {od__law_plus an__law_plus : Option Addr} {sl__law_plus : Array (Option Value)} {oc__law_plus kV__law_plus dc__law_plus pm__law_plus cd__law_plus ct__law_plus : Value}
    (a__law_plus : PySem.W.nsIn K mainGlobals "_law_plus" = some (some (.ref f__law_plus))) (l__law_plus : K.lookup f__law_plus = some ⟨oc__law_plus, od__law_plus, .func (PySem.W.fnOf "_law_plus" "_law_plus" (defArgs s__law_plus) (defBody s__law_plus) (defScope s__law_plus) .none kV__law_plus dc__law_plus pm__law_plus an__law_plus cd__law_plus ct__law_plus), sl__law_plus⟩) (c__law_plus : PySem.W.codeIn K cd__law_plus "_law_plus" = true) (k__law_plus : PySem.W.keepIn K (.ref f__law_plus) = true)
    {od__law_minus an__law_minus : Option Addr} {sl__law_minus : Array (Option Value)} {oc__law_minus kV__law_minus dc__law_minus pm__law_minus cd__law_minus ct__law_minus : Value}
    (a__law_minus : PySem.W.nsIn K mainGlobals "_law_minus" = some (some (.ref f__law_minus))) (l__law_minus : K.lookup f__law_minus = some ⟨oc__law_minus, od__law_minus, .func (PySem.W.fnOf "_law_minus" "_law_minus" (defArgs s__law_minus) (defBody s__law_minus) (defScope s__law_minus) .none kV__law_minus dc__law_minus pm__law_minus an__law_minus cd__law_minus ct__law_minus), sl__law_minus⟩) (c__law_minus : PySem.W.codeIn K cd__law_minus "_law_minus" = true) (k__law_minus : PySem.W.keepIn K (.ref f__law_minus) = true)
    {od__law_less an__law_less : Option Addr} {sl__law_less : Array (Option Value)} {oc__law_less kV__law_less dc__law_less pm__law_less cd__law_less ct__law_less : Value}
    (a__law_less : PySem.W.nsIn K mainGlobals "_law_less" = some (some (.ref f__law_less))) (l__law_less : K.lookup f__law_less = some ⟨oc__law_less, od__law_less, .func (PySem.W.fnOf "_law_less" "_law_less" (defArgs s__law_less) (defBody s__law_less) (defScope s__law_less) .none kV__law_less dc__law_less pm__law_less an__law_less cd__law_less ct__law_less), sl__law_less⟩) (c__law_less : PySem.W.codeIn K cd__law_less "_law_less" = true) (k__law_less : PySem.W.keepIn K (.ref f__law_less) = true)
    {od__law_drawn_fraction an__law_drawn_fraction : Option Addr} {sl__law_drawn_fraction : Array (Option Value)} {oc__law_drawn_fraction kV__law_drawn_fraction dc__law_drawn_fraction pm__law_drawn_fraction cd__law_drawn_fraction ct__law_drawn_fraction : Value}
    (a__law_drawn_fraction : PySem.W.nsIn K mainGlobals "_law_drawn_fraction" = some (some (.ref f__law_drawn_fraction))) (l__law_drawn_fraction : K.lookup f__law_drawn_fraction = some ⟨oc__law_drawn_fraction, od__law_drawn_fraction, .func (PySem.W.fnOf "_law_drawn_fraction" "_law_drawn_fraction" (defArgs s__law_drawn_fraction) (defBody s__law_drawn_fraction) (defScope s__law_drawn_fraction) .none kV__law_drawn_fraction dc__law_drawn_fraction pm__law_drawn_fraction an__law_drawn_fraction cd__law_drawn_fraction ct__law_drawn_fraction), sl__law_drawn_fraction⟩) (c__law_drawn_fraction : PySem.W.codeIn K cd__law_drawn_fraction "_law_drawn_fraction" = true) (k__law_drawn_fraction : PySem.W.keepIn K (.ref f__law_drawn_fraction) = true)
    {od__law_pair_right an__law_pair_right : Option Addr} {sl__law_pair_right : Array (Option Value)} {oc__law_pair_right kV__law_pair_right dc__law_pair_right pm__law_pair_right cd__law_pair_right ct__law_pair_right : Value}
    (a__law_pair_right : PySem.W.nsIn K mainGlobals "_law_pair_right" = some (some (.ref f__law_pair_right))) (l__law_pair_right : K.lookup f__law_pair_right = some ⟨oc__law_pair_right, od__law_pair_right, .func (PySem.W.fnOf "_law_pair_right" "_law_pair_right" (defArgs s__law_pair_right) (defBody s__law_pair_right) (defScope s__law_pair_right) .none kV__law_pair_right dc__law_pair_right pm__law_pair_right an__law_pair_right cd__law_pair_right ct__law_pair_right), sl__law_pair_right⟩) (c__law_pair_right : PySem.W.codeIn K cd__law_pair_right "_law_pair_right" = true) (k__law_pair_right : PySem.W.keepIn K (.ref f__law_pair_right) = true)
    {od_law an_law : Option Addr} {sl_law : Array (Option Value)} {oc_law kV_law dc_law pm_law cd_law ct_law : Value}
    (a_law : PySem.W.nsIn K mainGlobals "law" = some (some (.ref f_law))) (l_law : K.lookup f_law = some ⟨oc_law, od_law, .func (PySem.W.fnOf "law" "law" (defArgs s_law) (defBody s_law) (defScope s_law) .none kV_law dc_law pm_law an_law cd_law ct_law), sl_law⟩) (c_law : PySem.W.codeIn K cd_law "law" = true) (k_law : PySem.W.keepIn K (.ref f_law) = true)
    (z_isinstance : PySem.W.nsIn K mainGlobals "isinstance" = some none)
    (z_len : PySem.W.nsIn K mainGlobals "len" = some none)
    (z_abs : PySem.W.nsIn K mainGlobals "abs" = some none)
    (z_int : PySem.W.nsIn K mainGlobals "int" = some none)
    (z_bool : PySem.W.nsIn K mainGlobals "bool" = some none)
    (z_str : PySem.W.nsIn K mainGlobals "str" = some none)
    (z_list : PySem.W.nsIn K mainGlobals "list" = some none)
    (z_tuple : PySem.W.nsIn K mainGlobals "tuple" = some none)
    (z_range : PySem.W.nsIn K mainGlobals "range" = some none)
    (z_sum : PySem.W.nsIn K mainGlobals "sum" = some none)
    (z_max : PySem.W.nsIn K mainGlobals "max" = some none)
    : ∃ fd : FuncData, (∀ (s : Shared) (v : Value), BindsTo s fd ⟨[v], []⟩ [("script", v)]) ∧ ∀ base : Heap, K.In base → base.Ns mainGlobals mg → FnOk P w K mg base CX0 10 fa fd ["script"] (liftSp sp_law) := by
  have e := hfa.symm.trans (PySem.W.mg_of X G a_law)
  cases e
  have B : Bi mg := ⟨PySem.W.mg_none_of X G z_isinstance, PySem.W.mg_none_of X G z_len, PySem.W.mg_none_of X G z_abs, PySem.W.mg_none_of X G z_int, PySem.W.mg_none_of X G z_bool, PySem.W.mg_none_of X G z_str, PySem.W.mg_none_of X G z_list, PySem.W.mg_none_of X G z_tuple, PySem.W.mg_none_of X G z_range, PySem.W.mg_none_of X G z_sum, PySem.W.mg_none_of X G z_max⟩
  have U_is_whole := fun_mk (st := s_is_whole) l_is_whole c_is_whole k_is_whole
  have D_is_whole := def_mk (st := s_is_whole) X G a_is_whole U_is_whole
  have U_common_of := fun_mk (st := s_common_of) l_common_of c_common_of k_common_of
  have D_common_of := def_mk (st := s_common_of) X G a_common_of U_common_of
  have U_is_fraction := fun_mk (st := s_is_fraction) l_is_fraction c_is_fraction k_is_fraction
  have D_is_fraction := def_mk (st := s_is_fraction) X G a_is_fraction U_is_fraction
  have U_lowest := fun_mk (st := s_lowest) l_lowest c_lowest k_lowest
  have D_lowest := def_mk (st := s_lowest) X G a_lowest U_lowest
  have U_plus := fun_mk (st := s_plus) l_plus c_plus k_plus
  have D_plus := def_mk (st := s_plus) X G a_plus U_plus
  have U_minus := fun_mk (st := s_minus) l_minus c_minus k_minus
  have D_minus := def_mk (st := s_minus) X G a_minus U_minus
  have U_times := fun_mk (st := s_times) l_times c_times k_times
  have D_times := def_mk (st := s_times) X G a_times U_times
  have U_compared := fun_mk (st := s_compared) l_compared c_compared k_compared
  have D_compared := def_mk (st := s_compared) X G a_compared U_compared
  have U__law_hash := fun_mk (st := s__law_hash) l__law_hash c__law_hash k__law_hash
  have D__law_hash := def_mk (st := s__law_hash) X G a__law_hash U__law_hash
  have U__law_random := fun_mk (st := s__law_random) l__law_random c__law_random k__law_random
  have D__law_random := def_mk (st := s__law_random) X G a__law_random U__law_random
  have U__law_cell := fun_mk (st := s__law_cell) l__law_cell c__law_cell k__law_cell
  have D__law_cell := def_mk (st := s__law_cell) X G a__law_cell U__law_cell
  have U__law_generator := fun_mk (st := s__law_generator) l__law_generator c__law_generator k__law_generator
  have D__law_generator := def_mk (st := s__law_generator) X G a__law_generator U__law_generator
  have U__law_pick := fun_mk (st := s__law_pick) l__law_pick c__law_pick k__law_pick
  have D__law_pick := def_mk (st := s__law_pick) X G a__law_pick U__law_pick
  have U__law_same := fun_mk (st := s__law_same) l__law_same c__law_same k__law_same
  have D__law_same := def_mk (st := s__law_same) X G a__law_same U__law_same
  have U__law_is_whole := fun_mk (st := s__law_is_whole) l__law_is_whole c__law_is_whole k__law_is_whole
  have D__law_is_whole := def_mk (st := s__law_is_whole) X G a__law_is_whole U__law_is_whole
  have U__law_common := fun_mk (st := s__law_common) l__law_common c__law_common k__law_common
  have D__law_common := def_mk (st := s__law_common) X G a__law_common U__law_common
  have U__law_lowest := fun_mk (st := s__law_lowest) l__law_lowest c__law_lowest k__law_lowest
  have D__law_lowest := def_mk (st := s__law_lowest) X G a__law_lowest U__law_lowest
  have U__law_is_fraction := fun_mk (st := s__law_is_fraction) l__law_is_fraction c__law_is_fraction k__law_is_fraction
  have D__law_is_fraction := def_mk (st := s__law_is_fraction) X G a__law_is_fraction U__law_is_fraction
  have U__law_call := fun_mk (st := s__law_call) l__law_call c__law_call k__law_call
  have D__law_call := def_mk (st := s__law_call) X G a__law_call U__law_call
  have U__law_judged := fun_mk (st := s__law_judged) l__law_judged c__law_judged k__law_judged
  have D__law_judged := def_mk (st := s__law_judged) X G a__law_judged U__law_judged
  have U__law_plus := fun_mk (st := s__law_plus) l__law_plus c__law_plus k__law_plus
  have D__law_plus := def_mk (st := s__law_plus) X G a__law_plus U__law_plus
  have U__law_minus := fun_mk (st := s__law_minus) l__law_minus c__law_minus k__law_minus
  have D__law_minus := def_mk (st := s__law_minus) X G a__law_minus U__law_minus
  have U__law_less := fun_mk (st := s__law_less) l__law_less c__law_less k__law_less
  have D__law_less := def_mk (st := s__law_less) X G a__law_less U__law_less
  have U__law_drawn_fraction := fun_mk (st := s__law_drawn_fraction) l__law_drawn_fraction c__law_drawn_fraction k__law_drawn_fraction
  have D__law_drawn_fraction := def_mk (st := s__law_drawn_fraction) X G a__law_drawn_fraction U__law_drawn_fraction
  have U__law_pair_right := fun_mk (st := s__law_pair_right) l__law_pair_right c__law_pair_right k__law_pair_right
  have D__law_pair_right := def_mk (st := s__law_pair_right) X G a__law_pair_right U__law_pair_right
  have U_law := fun_mk (st := s_law) l_law c_law k_law
  have D_law := def_mk (st := s_law) X G a_law U_law
  refine ⟨_, fun s v => .of_eq (bd_law kV_law dc_law pm_law an_law cd_law ct_law [v] rfl), fun base _ _ => ?_⟩
  have G_is_whole : Got P w K mg base 1 _ "is_whole" s_is_whole _ sp_is_whole := got_is_whole B D_is_whole 
  have G_common_of : Got P w K mg base 1 _ "common_of" s_common_of _ sp_common_of := got_common_of B D_common_of 
  have G_is_fraction : Got P w K mg base 2 _ "is_fraction" s_is_fraction _ sp_is_fraction := got_is_fraction B D_is_fraction G_common_of G_is_whole
  have G_lowest : Got P w K mg base 2 _ "lowest" s_lowest _ sp_lowest := got_lowest B D_lowest G_common_of
  have G_plus : Got P w K mg base 3 _ "plus" s_plus _ (sp_two plusA) := got_plus B D_plus G_lowest
  have G_minus : Got P w K mg base 3 _ "minus" s_minus _ (sp_two minusA) := got_minus B D_minus G_lowest
  have G_times : Got P w K mg base 3 _ "times" s_times _ (sp_two timesA) := got_times B D_times G_lowest
  have G_compared : Got P w K mg base 1 _ "compared" s_compared _ (sp_two cmpA) := got_compared B D_compared 
  have G__law_hash : Got P w K mg base 1 _ "_law_hash" s__law_hash _ sp__law_hash := got__law_hash B D__law_hash 
  have G__law_random : Got P w K mg base 2 _ "_law_random" s__law_random _ sp__law_random := got__law_random B D__law_random G__law_hash
  have G__law_cell : Got P w K mg base 1 _ "_law_cell" s__law_cell _ sp__law_cell := got__law_cell B D__law_cell 
  have G__law_generator : Got P w K mg base 2 _ "_law_generator" s__law_generator _ sp__law_generator := got__law_generator B D__law_generator G__law_cell
  have G__law_pick : Got P w K mg base 3 _ "_law_pick" s__law_pick _ sp__law_pick := got__law_pick B D__law_pick G__law_random
  have R__law_same : ∀ n : Nat, Got P w K mg base n _ "_law_same" s__law_same _ (sp__law_same n) := fun n => by
    induction n with
    | zero => exact got_none D__law_same sp_none__law_same bd__law_same
    | succ n ih => exact got__law_same B D__law_same ih
  have G__law_same := R__law_same 8
  have G__law_is_whole : Got P w K mg base 1 _ "_law_is_whole" s__law_is_whole _ sp__law_is_whole := got__law_is_whole B D__law_is_whole 
  have G__law_common : Got P w K mg base 1 _ "_law_common" s__law_common _ sp__law_common := got__law_common B D__law_common 
  have G__law_lowest : Got P w K mg base 2 _ "_law_lowest" s__law_lowest _ sp__law_lowest := got__law_lowest B D__law_lowest G__law_common
  have G__law_is_fraction : Got P w K mg base 2 _ "_law_is_fraction" s__law_is_fraction _ sp__law_is_fraction := got__law_is_fraction B D__law_is_fraction G__law_common G__law_is_whole
  have HT : Held' P w K mg base 6 (tabOf f_is_fraction f__law_is_fraction) := tab_held G_is_fraction G__law_is_fraction
  have G__law_call : Got P w K mg base 7 _ "_law_call" s__law_call _ _ := got__law_call B D__law_call HT
  have G__law_judged : Got P w K mg base 9 _ "_law_judged" s__law_judged _ _ := got__law_judged B D__law_judged G__law_same G__law_call HT
  have G__law_plus : Got P w K mg base 3 _ "_law_plus" s__law_plus _ (sp_two plusA) := got__law_plus B D__law_plus G__law_lowest
  have G__law_minus : Got P w K mg base 3 _ "_law_minus" s__law_minus _ (sp_two minusA) := got__law_minus B D__law_minus G__law_lowest
  have G__law_less : Got P w K mg base 1 _ "_law_less" s__law_less _ (sp_two lessA) := got__law_less B D__law_less 
  have G__law_drawn_fraction : Got P w K mg base 4 _ "_law_drawn_fraction" s__law_drawn_fraction _ sp__law_drawn_fraction := got__law_drawn_fraction B D__law_drawn_fraction G__law_lowest G__law_random G__law_pick
  have G__law_pair_right : Got P w K mg base 9 _ "_law_pair_right" s__law_pair_right _ sp__law_pair_right := got__law_pair_right B D__law_pair_right G__law_same G_lowest G__law_lowest G__law_pick G__law_drawn_fraction G__law_plus G__law_minus G_plus G_minus G_times G__law_less G_compared G__law_random
  have G_law : Got P w K mg base 10 _ "law" s_law _ _ := got_law B D_law G__law_same G_plus G_times G_lowest G_is_fraction G__law_judged G__law_generator G__law_pair_right G__law_random D_is_fraction.mg D__law_is_fraction.mg (if_pos rfl) (tab_snd (Lay.Fun.ne U_is_fraction U__law_is_fraction (by decide +kernel)))
  obtain ⟨fd, F, F2, _⟩ := G_law.ex
  rw [← Fun.same F2 U_law]
  exact F
end Law
open PySem PySem.W PyProof.Rows
set_option maxRecDepth 100000 in
set_option maxHeartbeats 0 in
theorem PySem.Challenge.cw_sharedrent_k01_fractions_of_rents_holds : PySem.Challenge.rw_sharedrent_k01_fractions_of_rents.Holds := by
  w_on; o_law; k_head; (case hw => w_witness2)
  k_fill
  refine Lay.walk_end (k := 10) (sp := Law.sp_law) rfl rfl ⟨rfl, by decide, by decide⟩ (fun w h Y => PySem.W.kIn_of Y) (fun w => by kernel_rfl) Law.law_holds ?F
  case F =>
    intro w mg fa h KX G hmg
    refine' Law.all_mk KX G hmg ?a_is_whole ?l_is_whole ?c_is_whole ?k_is_whole ?a_common_of ?l_common_of ?c_common_of ?k_common_of ?a_is_fraction ?l_is_fraction ?c_is_fraction ?k_is_fraction ?a_lowest ?l_lowest ?c_lowest ?k_lowest ?a_plus ?l_plus ?c_plus ?k_plus ?a_minus ?l_minus ?c_minus ?k_minus ?a_times ?l_times ?c_times ?k_times ?a_compared ?l_compared ?c_compared ?k_compared ?a__law_hash ?l__law_hash ?c__law_hash ?k__law_hash ?a__law_random ?l__law_random ?c__law_random ?k__law_random ?a__law_cell ?l__law_cell ?c__law_cell ?k__law_cell ?a__law_generator ?l__law_generator ?c__law_generator ?k__law_generator ?a__law_pick ?l__law_pick ?c__law_pick ?k__law_pick ?a__law_same ?l__law_same ?c__law_same ?k__law_same ?a__law_is_whole ?l__law_is_whole ?c__law_is_whole ?k__law_is_whole ?a__law_common ?l__law_common ?c__law_common ?k__law_common ?a__law_lowest ?l__law_lowest ?c__law_lowest ?k__law_lowest ?a__law_is_fraction ?l__law_is_fraction ?c__law_is_fraction ?k__law_is_fraction ?a__law_call ?l__law_call ?c__law_call ?k__law_call ?a__law_judged ?l__law_judged ?c__law_judged ?k__law_judged ?a__law_plus ?l__law_plus ?c__law_plus ?k__law_plus ?a__law_minus ?l__law_minus ?c__law_minus ?k__law_minus ?a__law_less ?l__law_less ?c__law_less ?k__law_less ?a__law_drawn_fraction ?l__law_drawn_fraction ?c__law_drawn_fraction ?k__law_drawn_fraction ?a__law_pair_right ?l__law_pair_right ?c__law_pair_right ?k__law_pair_right ?a_law ?l_law ?c_law ?k_law ?z_isinstance ?z_len ?z_abs ?z_int ?z_bool ?z_str ?z_list ?z_tuple ?z_range ?z_sum ?z_max
    (case a_is_whole => k_is)
    (case l_is_whole => k_is)
    (case c_is_whole => k_is)
    (case k_is_whole => k_is)
    (case a_common_of => k_is)
    (case l_common_of => k_is)
    (case c_common_of => k_is)
    (case k_common_of => k_is)
    (case a_is_fraction => k_is)
    (case l_is_fraction => k_is)
    (case c_is_fraction => k_is)
    (case k_is_fraction => k_is)
    (case a_lowest => k_is)
    (case l_lowest => k_is)
    (case c_lowest => k_is)
    (case k_lowest => k_is)
    (case a_plus => k_is)
    (case l_plus => k_is)
    (case c_plus => k_is)
    (case k_plus => k_is)
    (case a_minus => k_is)
    (case l_minus => k_is)
    (case c_minus => k_is)
    (case k_minus => k_is)
    (case a_times => k_is)
    (case l_times => k_is)
    (case c_times => k_is)
    (case k_times => k_is)
    (case a_compared => k_is)
    (case l_compared => k_is)
    (case c_compared => k_is)
    (case k_compared => k_is)
    (case a__law_hash => k_is)
    (case l__law_hash => k_is)
    (case c__law_hash => k_is)
    (case k__law_hash => k_is)
    (case a__law_random => k_is)
    (case l__law_random => k_is)
    (case c__law_random => k_is)
    (case k__law_random => k_is)
    (case a__law_cell => k_is)
    (case l__law_cell => k_is)
    (case c__law_cell => k_is)
    (case k__law_cell => k_is)
    (case a__law_generator => k_is)
    (case l__law_generator => k_is)
    (case c__law_generator => k_is)
    (case k__law_generator => k_is)
    (case a__law_pick => k_is)
    (case l__law_pick => k_is)
    (case c__law_pick => k_is)
    (case k__law_pick => k_is)
    (case a__law_same => k_is)
    (case l__law_same => k_is)
    (case c__law_same => k_is)
    (case k__law_same => k_is)
    (case a__law_is_whole => k_is)
    (case l__law_is_whole => k_is)
    (case c__law_is_whole => k_is)
    (case k__law_is_whole => k_is)
    (case a__law_common => k_is)
    (case l__law_common => k_is)
    (case c__law_common => k_is)
    (case k__law_common => k_is)
    (case a__law_lowest => k_is)
    (case l__law_lowest => k_is)
    (case c__law_lowest => k_is)
    (case k__law_lowest => k_is)
    (case a__law_is_fraction => k_is)
    (case l__law_is_fraction => k_is)
    (case c__law_is_fraction => k_is)
    (case k__law_is_fraction => k_is)
    (case a__law_call => k_is)
    (case l__law_call => k_is)
    (case c__law_call => k_is)
    (case k__law_call => k_is)
    (case a__law_judged => k_is)
    (case l__law_judged => k_is)
    (case c__law_judged => k_is)
    (case k__law_judged => k_is)
    (case a__law_plus => k_is)
    (case l__law_plus => k_is)
    (case c__law_plus => k_is)
    (case k__law_plus => k_is)
    (case a__law_minus => k_is)
    (case l__law_minus => k_is)
    (case c__law_minus => k_is)
    (case k__law_minus => k_is)
    (case a__law_less => k_is)
    (case l__law_less => k_is)
    (case c__law_less => k_is)
    (case k__law_less => k_is)
    (case a__law_drawn_fraction => k_is)
    (case l__law_drawn_fraction => k_is)
    (case c__law_drawn_fraction => k_is)
    (case k__law_drawn_fraction => k_is)
    (case a__law_pair_right => k_is)
    (case l__law_pair_right => k_is)
    (case c__law_pair_right => k_is)
    (case k__law_pair_right => k_is)
    (case a_law => k_is)
    (case l_law => k_is)
    (case c_law => k_is)
    (case k_law => k_is)
    (case z_isinstance => k_is)
    (case z_len => k_is)
    (case z_abs => k_is)
    (case z_int => k_is)
    (case z_bool => k_is)
    (case z_str => k_is)
    (case z_list => k_is)
    (case z_tuple => k_is)
    (case z_range => k_is)
    (case z_sum => k_is)
    (case z_max => k_is)

