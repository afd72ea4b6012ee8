import PyProof.Rows.All
import Wide.All
import OpenK.AllK
import Wide.FinOn
import HandS.ForMost
import HandS.IsInst
import HandS.Style
import HandS.Wide
import HandS.WideBits
import HandS.CallLocal
import HandS.Flow
import HandS.Exc
import HandS.Nested
import HandS.Defaults
import HandS.ExcInit
import HandS.ExcField
import HandS.ExcIs
import HandS.ExcSuper
import KE.KExcSuper
import KE.KExcIs
import HandS.List
import HandS.Conv
import HandS.Iter
import HandS.SortInts
import HandS.Sort
import PyProof.Rows.SetFrom
import HandS.EndTab
import HandS.NestedK
import PyProof.ReprLen
import HandS.Deep
import KE.KIndexOf
import PySem.Challenge.RW_sharedrent_k08_rings_hand_rooms_on
set_option Elab.async false
set_option linter.all false
set_option autoImplicit false
set_option maxRecDepth 100000
set_option maxHeartbeats 4000000
/-! Layer A over HandS: values with their data inside; only what is changed in place stands in a store. -/
namespace Lay
open PySem L2

/-- a value: what never changes is inside; a ref is a def, a class, or an object of the store -/
inductive A where
  | non | bl (b : Bool) | int (i : Int) | str (x : Str) | lst (xs : List A) | tup (xs : List A) | ref (a : Addr) | ty (n : String)
/-- a lambda as written: its name, text, the captured names, its parameters -/
structure LamD where
  qual : Str
  params : Arguments
  body : Expr
  scope : Scope
  fr : List Str
  ps : List Str
/-- an object that may be changed in place (frz: the script, only read) -/
inductive Cell where
  | lst (xs : List A)
  | frz (xs : List A)
  | ins (C dx : Addr) (fs : List (Str × A))
  /-- a caught exception of the class at C, its dict at dx, its value -/
  | exc (C dx : Addr) (v : A)
  /-- a lambda: what is written of it, the captured values -/
  | lam (L : LamD) (ws : List A)
  /-- the table of the code objects of a def's lambdas, of the name q -/
  | tab (q : Str)
abbrev Sto := Addr → Option Cell
abbrev Msk := Addr → Prop
def sup (S : Sto) (a : Addr) (c : Cell) : Sto := fun b => if b = a then some c else S b
theorem sup_same {S : Sto} {a : Addr} {c : Cell} : sup S a c a = some c := by unfold sup; rw [if_pos rfl]
theorem sup_ne {S : Sto} {a b : Addr} {c : Cell} (h : b ≠ a) : sup S a c b = S b := by unfold sup; rw [if_neg h]
theorem sup_sup {S : Sto} {a : Addr} {c d : Cell} : sup (sup S a c) a d = sup S a d := by
  funext b; unfold sup; split <;> rfl
theorem sup_id {S : Sto} {a : Addr} {c : Cell} (h : S a = some c) : sup S a c = S := by
  funext b; unfold sup; split
  · rename_i e; rw [e, h]
  · rfl

mutual
def AV (M : Msk) (S : Sto) (H : Hp) : A → V → Prop
  | .non, v => v = .non
  | .bl b, v => v = .bl b
  | .int i, v => v = .int i
  | .str x, v => v = .str x
  | .ref a, v => v = .ref a
  | .ty n, v => v = .ty n
  | .lst xs, v => ∃ p vs, v = .ref p ∧ S p = none ∧ ¬ M p ∧ H p = some (.lst vs) ∧ AVs M S H xs vs
  | .tup xs, v => ∃ p vs, v = .ref p ∧ S p = none ∧ ¬ M p ∧ H p = some (.tup vs) ∧ AVs M S H xs vs
def AVs (M : Msk) (S : Sto) (H : Hp) : List A → List V → Prop
  | [], vs => vs = []
  | x :: xs, vs => ∃ v r, vs = v :: r ∧ AV M S H x v ∧ AVs M S H xs r
end

/-- what was not in the store stays, and out of the store -/
structure Ext (S : Sto) (H : Hp) (S' : Sto) (H' : Hp) : Prop where
  keep : ∀ b o, H b = some o → S b = none → H' b = some o ∧ S' b = none
theorem Ext.refl {S : Sto} {H : Hp} : Ext S H S H := ⟨fun _ _ h s => ⟨h, s⟩⟩
theorem Ext.trans {S S1 S2 : Sto} {H H1 H2 : Hp} (a : Ext S H S1 H1) (b : Ext S1 H1 S2 H2) : Ext S H S2 H2 :=
  ⟨fun c o h s => b.keep c o (a.keep c o h s).1 (a.keep c o h s).2⟩

structure Kx (M : Msk) (S : Sto) (H : Hp) (M' : Msk) (S' : Sto) (H' : Hp) : Prop where
  keep : ∀ b o, H b = some o → S b = none → ¬ M b → H' b = some o ∧ S' b = none ∧ ¬ M' b
theorem Ext.kx {M : Msk} {S S' : Sto} {H H' : Hp} (e : Ext S H S' H') : Kx M S H M S' H' := ⟨fun b o h s m => ⟨(e.keep b o h s).1, (e.keep b o h s).2, m⟩⟩
/-- an object that is pinned (a captured cell) -/
def isFz : HO → Prop
  | .frz _ (.own _) => True
  | _ => False
/-- .. what is pinned may be let go -/
structure Kw (M : Msk) (S : Sto) (H : Hp) (M' : Msk) (S' : Sto) (H' : Hp) : Prop where
  keep : ∀ b o, H b = some o → ¬ isFz o → S b = none → ¬ M b → H' b = some o ∧ S' b = none ∧ ¬ M' b
theorem Kx.kw {M M' : Msk} {S S' : Sto} {H H' : Hp} (e : Kx M S H M' S' H') : Kw M S H M' S' H' := ⟨fun b o h _ s m => e.keep b o h s m⟩
mutual
theorem AV.monoW {M M' : Msk} {S S' : Sto} {H H' : Hp} (e : Kw M S H M' S' H') : ∀ (a : A) (v : V), AV M S H a v → AV M' S' H' a v
  | .non, _, h => h
  | .bl _, _, h => h
  | .int _, _, h => h
  | .str _, _, h => h
  | .ref _, _, h => h
  | .ty _, _, h => h
  | .lst xs, _, ⟨p, vs, h1, h2, h3, h4, h5⟩ => ⟨p, vs, h1, (e.keep p _ h4 (fun z => z) h2 h3).2.1, (e.keep p _ h4 (fun z => z) h2 h3).2.2, (e.keep p _ h4 (fun z => z) h2 h3).1, AVs.monoW e xs vs h5⟩
  | .tup xs, _, ⟨p, vs, h1, h2, h3, h4, h5⟩ => ⟨p, vs, h1, (e.keep p _ h4 (fun z => z) h2 h3).2.1, (e.keep p _ h4 (fun z => z) h2 h3).2.2, (e.keep p _ h4 (fun z => z) h2 h3).1, AVs.monoW e xs vs h5⟩
theorem AVs.monoW {M M' : Msk} {S S' : Sto} {H H' : Hp} (e : Kw M S H M' S' H') : ∀ (as : List A) (vs : List V), AVs M S H as vs → AVs M' S' H' as vs
  | [], _, h => h
  | x :: xs, _, ⟨v, r, h1, h2, h3⟩ => ⟨v, r, h1, AV.monoW e x v h2, AVs.monoW e xs r h3⟩
end
mutual
theorem AV.mono {M M' : Msk} {S S' : Sto} {H H' : Hp} (e : Kx M S H M' S' H') : ∀ (a : A) (v : V), AV M S H a v → AV M' S' H' a v
  | .non, _, h => h
  | .bl _, _, h => h
  | .int _, _, h => h
  | .str _, _, h => h
  | .ref _, _, h => h
  | .ty _, _, h => h
  | .lst xs, _, ⟨p, vs, h1, h2, h3, h4, h5⟩ => ⟨p, vs, h1, (e.keep p _ h4 h2 h3).2.1, (e.keep p _ h4 h2 h3).2.2, (e.keep p _ h4 h2 h3).1, AVs.mono e xs vs h5⟩
  | .tup xs, _, ⟨p, vs, h1, h2, h3, h4, h5⟩ => ⟨p, vs, h1, (e.keep p _ h4 h2 h3).2.1, (e.keep p _ h4 h2 h3).2.2, (e.keep p _ h4 h2 h3).1, AVs.mono e xs vs h5⟩
theorem AVs.mono {M M' : Msk} {S S' : Sto} {H H' : Hp} (e : Kx M S H M' S' H') : ∀ (as : List A) (vs : List V), AVs M S H as vs → AVs M' S' H' as vs
  | [], _, h => h
  | x :: xs, _, ⟨v, r, h1, h2, h3⟩ => ⟨v, r, h1, AV.mono e x v h2, AVs.mono e xs r h3⟩
end
section
variable {M : Msk} {S S' S1 : Sto} {H H' H1 : Hp} {a : A} {v : V} {as : List A} {vs : List V}
theorem AV.up (h : AV M S H a v) (e : Ext S H S' H') : AV M S' H' a v := AV.mono e.kx a v h
theorem AVs.up (h : AVs M S H as vs) (e : Ext S H S' H') : AVs M S' H' as vs := AVs.mono e.kx as vs h
theorem AVs.len : ∀ {as : List A} {vs : List V}, AVs M S H as vs → vs.length = as.length
  | [], _, h => by rw [show _ = [] from h]; rfl
  | x :: xs, _, ⟨v, r, h1, h2, h3⟩ => by rw [h1, List.length_cons, List.length_cons, AVs.len h3]
theorem AVs.get : ∀ {as : List A} {vs : List V} {i : Nat} {a : A}, AVs M S H as vs → as[i]? = some a → ∃ v, vs[i]? = some v ∧ AV M S H a v
  | [], _, i, _, _, e => by simp at e
  | x :: xs, _, 0, a, ⟨v, r, h1, h2, h3⟩, e => by
    simp at e
    subst e h1
    exact ⟨v, rfl, h2⟩
  | x :: xs, _, i + 1, a, ⟨v, r, h1, h2, h3⟩, e => by
    subst h1
    obtain ⟨w, e1, e2⟩ := AVs.get (i := i) (a := a) h3 (by simpa using e)
    exact ⟨w, by simpa using e1, e2⟩
theorem AVs.getv : ∀ {as : List A} {vs : List V} {i : Nat} {v : V}, AVs M S H as vs → vs[i]? = some v → ∃ a, as[i]? = some a ∧ AV M S H a v
  | [], vs, i, v, h, e => by rw [show vs = [] from h] at e; simp at e
  | x :: xs, _, 0, a, ⟨v, r, h1, h2, h3⟩, e => by
    subst h1
    simp at e
    subst e
    exact ⟨x, rfl, h2⟩
  | x :: xs, _, i + 1, a, ⟨v, r, h1, h2, h3⟩, e => by
    subst h1
    obtain ⟨w, e1, e2⟩ := AVs.getv (i := i) (v := a) h3 (by simpa using e)
    exact ⟨w, by simpa using e1, e2⟩
theorem AVs.app : ∀ {as bs : List A} {vs ws : List V}, AVs M S H as vs → AVs M S H bs ws → AVs M S H (as ++ bs) (vs ++ ws)
  | [], _, _, _, h, g => by rw [show _ = [] from h]; exact g
  | x :: xs, _, _, _, ⟨v, r, h1, h2, h3⟩, g => by
    subst h1
    exact ⟨v, _, rfl, h2, AVs.app h3 g⟩
theorem AVs.set : ∀ {as : List A} {vs : List V} (i : Nat), AVs M S H as vs → AV M S H a v → AVs M S H (as.set i a) (vs.set i v)
  | [], _, _, h, _ => by rw [show _ = [] from h]; rfl
  | x :: xs, _, 0, ⟨w, r, h1, h2, h3⟩, g => by subst h1; exact ⟨v, r, rfl, g, h3⟩
  | x :: xs, _, i + 1, ⟨w, r, h1, h2, h3⟩, g => by subst h1; exact ⟨w, _, rfl, h2, AVs.set i h3 g⟩
theorem AVs.take : ∀ {as : List A} {vs : List V} (n : Nat), AVs M S H as vs → AVs M S H (as.take n) (vs.take n)
  | _, _, 0, _ => rfl
  | [], _, n + 1, h => by rw [show _ = [] from h]; rfl
  | x :: xs, _, n + 1, ⟨w, r, h1, h2, h3⟩ => by subst h1; exact ⟨w, _, rfl, h2, AVs.take n h3⟩
theorem AVs.drop : ∀ {as : List A} {vs : List V} (n : Nat), AVs M S H as vs → AVs M S H (as.drop n) (vs.drop n)
  | _, _, 0, h => h
  | [], _, n + 1, h => by rw [show _ = [] from h]; rfl
  | x :: xs, _, n + 1, ⟨w, r, h1, h2, h3⟩ => by subst h1; exact AVs.drop n h3
theorem AVs.one (h : AV M S H a v) : AVs M S H [a] [v] := ⟨v, [], rfl, h, rfl⟩
theorem AVs.two {b : A} {w : V} (h : AV M S H a v) (g : AV M S H b w) : AVs M S H [a, b] [v, w] := ⟨v, _, rfl, h, .one g⟩
end

/-- a caught exception -/
def exv (a : Addr) (cls : Value) (d : Option Addr) : HO := .ext fun h => ∃ oe vs, h.get? a = some oe ∧ L2.Zc cls d oe ∧ oe.data = .fields vs
/-- the lambda's function object -/
def LamO (L : LamD) (f : Addr) (cl : List (Str × Addr)) (c' : Addr) (pm ctv : Value) : HO := .frz (PySem.W.kla_obj "<lambda>" L.qual L.params L.body L.scope cl pm c' ctv) (.own f)
/-- the captured cells, pinned, and what they hold -/
structure CapH (H : Hp) (cl : List (Str × Addr)) (fr : List Str) (vs : List V) : Prop where
  len : vs.length = fr.length
  all : ∀ y c, cl.lookup y = some c → ∃ oc, H c = some (.frz oc (.own c)) ∧ ∃ v, oc.data = .cell v
  inj : ∀ x y c, cl.lookup x = some c → cl.lookup y = some c → x = y
  has : ∀ (i : Nat) (y : Str), fr[i]? = some y → ∃ c oc u v, cl.lookup y = some c ∧ H c = some (.frz oc (.own c)) ∧ oc.data = .cell (some u) ∧ vs[i]? = some v ∧ L2.RelV v u
theorem CapH.up {H H' : Hp} {cl : List (Str × Addr)} {fr : List Str} {vs : List V} (h : CapH H cl fr vs) (k : ∀ y c, cl.lookup y = some c → ∀ o, H c = some o → H' c = some o) : CapH H' cl fr vs := by
  refine ⟨h.len, fun y c e => ?_, h.inj, fun i y e => ?_⟩
  · obtain ⟨oc, h1, h2⟩ := h.all y c e
    exact ⟨oc, k y c e _ h1, h2⟩
  · obtain ⟨c, oc, u, v, h1, h2, h3, h4, h5⟩ := h.has i y e
    exact ⟨c, oc, u, v, h1, k y c h1 _ h2, h3, h4, h5⟩
/-- fields -/
def FV (M : Msk) (S : Sto) (H : Hp) (fs : List (Str × A)) (fv : List (Str × V)) : Prop := fv.map (·.1) = fs.map (·.1) ∧ AVs M S H (fs.map (·.2)) (fv.map (·.2))
def CellR (M : Msk) (S : Sto) (H : Hp) (a : Addr) : Cell → Prop
  | .lst xs => ∃ vs, H a = some (.lst vs) ∧ AVs M S H xs vs
  | .frz xs => ∃ o vs, H a = some (.frz o (.lst vs)) ∧ AVs M S H xs vs
  | .ins C dx fs => ∃ fv, H a = some (.ins C dx fv) ∧ FV M S H fs fv
  | .exc C dx x => ∃ u, H a = some (exv a (.ref C) (some dx)) ∧ H dx = some (.xd [("value", u)]) ∧ S dx = none ∧ ¬ M dx ∧ AV M S H x u
  | .lam L ws => ∃ cl c' vs, (∃ pm ctv, H a = some (LamO L a cl c' pm ctv)) ∧ H c' = some (LamX.CodeO c' L.qual) ∧ S c' = none ∧ ¬ M c' ∧ CapH H cl L.fr vs ∧ (∀ y c, cl.lookup y = some c → S c = none ∧ ¬ M c) ∧ AVs M S H ws vs
  | .tab q => ∃ ps : Array Value, H a = some (.tbl ps) ∧ TriplesOk ps.toList ∧ ∀ (pos : Pos) (cv : Value), codeAmong pos ps.toList = some cv → ∃ c, cv = .ref c ∧ H c = some (LamX.CodeO c q) ∧ S c = none ∧ ¬ M c
structure SH (M : Msk) (S : Sto) (H : Hp) : Prop where
  cell : ∀ a c, S a = some c → ¬ M a ∧ CellR M S H a c
  mask : ∀ a, M a → H a ≠ none
theorem CellR.there {M : Msk} {S : Sto} {H : Hp} {a : Addr} : ∀ {c : Cell}, CellR M S H a c → ∃ o, H a = some o
  | .lst _, ⟨_, h, _⟩ => ⟨_, h⟩
  | .frz _, ⟨_, _, h, _⟩ => ⟨_, h⟩
  | .ins _ _ _, ⟨_, h, _⟩ => ⟨_, h⟩
  | .exc _ _ _, ⟨_, h, _⟩ => ⟨_, h⟩
  | .lam _ _, ⟨_, _, _, ⟨_, _, h⟩, _⟩ => ⟨_, h⟩
  | .tab _, ⟨_, h, _⟩ => ⟨_, h⟩
/-- a cell whose object stays stays one -/
theorem CellR.up {M M' : Msk} {S S' : Sto} {H H' : Hp} {a : Addr} (e : Kx M S H M' S' H') (h : ∀ o, H a = some o → H' a = some o) : ∀ {c : Cell}, CellR M S H a c → CellR M' S' H' a c
  | .lst _, ⟨vs, h1, h2⟩ => ⟨vs, h _ h1, AVs.mono e _ _ h2⟩
  | .frz _, ⟨o, vs, h1, h2⟩ => ⟨o, vs, h _ h1, AVs.mono e _ _ h2⟩
  | .ins _ _ _, ⟨fv, h1, h2⟩ => ⟨fv, h _ h1, h2.1, AVs.mono e _ _ h2.2⟩
  | .exc _ dx _, ⟨u, h1, h2, h3, h4, h5⟩ => ⟨u, h _ h1, (e.keep dx _ h2 h3 h4).1, (e.keep dx _ h2 h3 h4).2.1, (e.keep dx _ h2 h3 h4).2.2, AV.mono e _ _ h5⟩
  | .lam _ _, ⟨cl, c', vs, ⟨pm, ctv, h1⟩, h2, h3, h4, h5, h6, h7⟩ => ⟨cl, c', vs, ⟨pm, ctv, h _ h1⟩, (e.keep c' _ h2 h3 h4).1, (e.keep c' _ h2 h3 h4).2.1, (e.keep c' _ h2 h3 h4).2.2, h5.up fun y c z o q => (e.keep c o q (h6 y c z).1 (h6 y c z).2).1, fun y c z => by
      obtain ⟨oc, q, _⟩ := h5.all y c z
      exact (e.keep c _ q (h6 y c z).1 (h6 y c z).2).2, AVs.mono e _ _ h7⟩
  | .tab _, ⟨ps, h1, h2, h3⟩ => ⟨ps, h _ h1, h2, fun pos cv z => by
      obtain ⟨c, q1, q2, q3, q4⟩ := h3 pos cv z
      exact ⟨c, q1, (e.keep c _ q2 q3 q4).1, (e.keep c _ q2 q3 q4).2.1, (e.keep c _ q2 q3 q4).2.2⟩⟩
def notLam : Cell → Prop
  | .lam _ _ => False
  | _ => True
theorem CellR.upW {M M' : Msk} {S S' : Sto} {H H' : Hp} {a : Addr} (e : Kw M S H M' S' H') (h : ∀ o, ¬ isFz o → H a = some o → H' a = some o) : ∀ {c : Cell}, notLam c → CellR M S H a c → CellR M' S' H' a c
  | .lst _, _, ⟨vs, h1, h2⟩ => ⟨vs, h _ (fun z => z) h1, AVs.monoW e _ _ h2⟩
  | .frz _, _, ⟨o, vs, h1, h2⟩ => ⟨o, vs, h _ (fun z => z) h1, AVs.monoW e _ _ h2⟩
  | .ins _ _ _, _, ⟨fv, h1, h2⟩ => ⟨fv, h _ (fun z => z) h1, h2.1, AVs.monoW e _ _ h2.2⟩
  | .exc _ dx _, _, ⟨u, h1, h2, h3, h4, h5⟩ => ⟨u, h _ (fun z => z) h1, (e.keep dx _ h2 (fun z => z) h3 h4).1, (e.keep dx _ h2 (fun z => z) h3 h4).2.1, (e.keep dx _ h2 (fun z => z) h3 h4).2.2, AV.monoW e _ _ h5⟩
  | .lam _ _, n, _ => n.elim
  | .tab _, _, ⟨ps, h1, h2, h3⟩ => ⟨ps, h _ (fun z => z) h1, h2, fun pos cv z => by
      obtain ⟨c, q1, q2, q3, q4⟩ := h3 pos cv z
      exact ⟨c, q1, (e.keep c _ q2 (fun z => z) q3 q4).1, (e.keep c _ q2 (fun z => z) q3 q4).2.1, (e.keep c _ q2 (fun z => z) q3 q4).2.2⟩⟩
section
variable {M : Msk} {S S' S1 : Sto} {H H' H1 : Hp} {a : A} {v : V} {as : List A} {vs : List V} {p : Addr}
theorem SH.there (h : SH M S H) {c : Cell} (e : S p = some c) : ∃ o, H p = some o := (h.cell p c e).2.there
theorem SH.free (h : SH M S H) (n : H p = none) : S p = none ∧ ¬ M p := by
  refine ⟨?_, fun z => h.mask p z n⟩
  cases e : S p with
  | none => rfl
  | some c =>
    obtain ⟨o, q⟩ := h.there e
    rw [n] at q
    cases q
/-- a new object that is not in the store -/
theorem SH.laid (h : SH M S H) (n : H p = none) (o : HO) : Ext S H S (upd H p o) ∧ SH M S (upd H p o) := by
  have e : Ext S H S (upd H p o) := ⟨fun b u q s => ⟨by rw [upd_ne (ne_of_none q n)]; exact q, s⟩⟩
  refine ⟨e, fun b c q => ⟨(h.cell b c q).1, (h.cell b c q).2.up e.kx fun u hu => by rw [upd_ne (ne_of_none hu n)]; exact hu⟩, fun b hb z => ?_⟩
  by_cases hbp : b = p
  · exact h.mask b hb (hbp ▸ n)
  · rw [upd_ne hbp] at z
    exact h.mask b hb z
/-- a new object that goes into the store -/
theorem SH.born (h : SH M S H) (n : H p = none) {o : HO} {c : Cell} (k : ∀ S' H', Ext S H S' H' → H' p = some o → CellR M S' H' p c) : Ext S H (sup S p c) (upd H p o) ∧ SH M (sup S p c) (upd H p o) := by
  have e : Ext S H (sup S p c) (upd H p o) := ⟨fun b u q s => ⟨by rw [upd_ne (ne_of_none q n)]; exact q, by rw [sup_ne (ne_of_none q n)]; exact s⟩⟩
  refine ⟨e, fun b d q => ?_, fun b hb z => ?_⟩
  · by_cases hb : b = p
    · subst hb
      rw [sup_same] at q
      cases q
      exact ⟨(h.free n).2, k _ _ e upd_same⟩
    · rw [sup_ne hb] at q
      exact ⟨(h.cell b d q).1, (h.cell b d q).2.up e.kx fun u hu => by rw [upd_ne hb]; exact hu⟩
  · by_cases hbp : b = p
    · exact h.mask b hb (hbp ▸ n)
    · rw [upd_ne hbp] at z
      exact h.mask b hb z
/-- an object of the store changes -/
theorem SH.put (h : SH M S H) {c0 c : Cell} (n : S p = some c0) {o : HO} (k : ∀ S' H', Ext S H S' H' → H' p = some o → CellR M S' H' p c) : Ext S H (sup S p c) (upd H p o) ∧ SH M (sup S p c) (upd H p o) := by
  have e : Ext S H (sup S p c) (upd H p o) := ⟨fun b u q s => by
    have nb : b ≠ p := fun z => by rw [z, n] at s; cases s
    exact ⟨by rw [upd_ne nb]; exact q, by rw [sup_ne nb]; exact s⟩⟩
  refine ⟨e, fun b d q => ?_, fun b hb z => ?_⟩
  · by_cases hb : b = p
    · subst hb
      rw [sup_same] at q
      cases q
      exact ⟨(h.cell b c0 n).1, k _ _ e upd_same⟩
    · rw [sup_ne hb] at q
      exact ⟨(h.cell b d q).1, (h.cell b d q).2.up e.kx fun u hu => by rw [upd_ne hb]; exact hu⟩
  · by_cases hbp : b = p
    · rw [hbp, upd_same] at z
      cases z
    · rw [upd_ne hbp] at z
      exact h.mask b hb z
end

/-! ### the frame's names -/
abbrev Nv := List (Option A)
structure Rl (M : Msk) (S : Sto) (H : Hp) (σ : St) (nv : Nv) : Prop where
  sh : SH M S H
  len : nv.length = σ.length
  at_ : ∀ (i : Nat) (a : A), nv[i]? = some (some a) → ∃ v, σ[i]? = some (some v) ∧ AV M S H a v
section
variable {M : Msk} {S S' S1 : Sto} {H H' H1 : Hp} {a : A} {v : V} {as : List A} {vs : List V} {p : Addr} {σ : St} {nv : Nv}
theorem Rl.up (r : Rl M S H σ nv) (e : Ext S H S' H') (h : SH M S' H') : Rl M S' H' σ nv := ⟨h, r.len, fun i a q => by
  obtain ⟨v, h1, h2⟩ := r.at_ i a q
  exact ⟨v, h1, h2.up e⟩⟩
theorem Rl.set (r : Rl M S H σ nv) (i : Nat) (h : AV M S H a v) : Rl M S H (σ.set i (some v)) (nv.set i (some a)) := by
  refine ⟨r.sh, by rw [List.length_set, List.length_set]; exact r.len, fun j b q => ?_⟩
  by_cases hj : i = j
  · subst hj
    by_cases hi : i < nv.length
    · rw [List.getElem?_set_self hi] at q
      cases q
      exact ⟨v, by rw [List.getElem?_set_self (by rw [← r.len]; exact hi)], h⟩
    · rw [List.getElem?_eq_none (by rw [List.length_set]; omega)] at q
      cases q
  · rw [List.getElem?_set_ne hj] at q
    rw [List.getElem?_set_ne hj]
    exact r.at_ j b q
end
/-- what is wanted, told of values with their data -/
abbrev PA' := A → Sto → Prop
def Wk (M : Msk) (P : A → Sto → Prop) (S : Sto) (H : Hp) (Q : VK) : Prop := ∀ a S' v H', P a S' → Ext S H S' H' → SH M S' H' → AV M S' H' a v → Q v H'
def Wb (M : Msk) (P : Bool → Sto → Prop) (S : Sto) (H : Hp) (Q : Bool → Hp → Prop) : Prop := ∀ b S' H', P b S' → Ext S H S' H' → SH M S' H' → Q b H'
def Wl (n : Nat) (M : Msk) (P : List A → Sto → Prop) (S : Sto) (H : Hp) (Q : List V → Hp → Prop) : Prop := ∀ as S' vs H', as.length = n → P as S' → Ext S H S' H' → SH M S' H' → AVs M S' H' as vs → Q vs H'
abbrev TEA := Nv → Sto → (A → Sto → Prop) → Prop
abbrev TTA := Nv → Sto → (Bool → Sto → Prop) → Prop
abbrev TAA := Nv → Sto → (List A → Sto → Prop) → Prop
def ER (t : TE) (te : TEA) : Prop := ∀ M σ H nv S P Q, Rl M S H σ nv → te nv S P → Wk M P S H Q → t σ H Q
def TR (t : TT) (te : TTA) : Prop := ∀ M σ H nv S P Q, Rl M S H σ nv → te nv S P → Wb M P S H Q → t σ H Q
def LR (n : Nat) (t : TA) (te : TAA) : Prop := ∀ M σ H nv S P Q, Rl M S H σ nv → te nv S P → Wl n M P S H Q → t σ H Q
/-- an expression, a test, arguments -/
structure EA (X : Cx) (e : Expr) (te : TEA) : Prop where
  ex : ∃ t, PE X e t ∧ ER t te
structure TA' (X : Cx) (e : Expr) (te : TTA) : Prop where
  ex : ∃ t, PT X e t ∧ TR t te
structure TW (X : Cx) (e : Expr) (te : TTA) : Prop where
  ex : ∃ t, PW X e t ∧ TR t te
structure LA (X : Cx) (es : List Expr) (te : TAA) : Prop where
  ex : ∃ t, PA X es t ∧ LR es.length t te

section
variable {X : Cx} {a b c e : Expr} {es : List Expr} {ta tb : TEA} {pos : Pos}

/-! ### names, constants -/
def eVar (i : Nat) : TEA := fun nv S P => match nv[i]? with
  | some (some a) => P a S
  | _ => False
def eC (a : A) : TEA := fun _ S P => P a S
theorem ea_var (i : Nat) {x : Str} (hN : X.N[i]? = some x := by rfl) (hv : Vis X.env.scope x := by first | exact Or.inl rfl | exact Or.inr (Or.inl rfl) | exact Or.inr (Or.inr rfl)) (hd : (x == ("__debug__" : Str)) = false := by decide)
    (hcd : (x == ("__classdict__" : Str)) = false := by decide) : EA X (.Name x pos) (eVar i) := by
  refine ⟨_, pe_var hN hv hd hcd, fun M σ H nv S P Q r h k => ?_⟩
  unfold eVar at h
  split at h
  · rename_i a q
    obtain ⟨v, h1, h2⟩ := r.at_ i a q
    exact ⟨v, h1, k a S v H h .refl r.sh h2⟩
  · exact h.elim
theorem ea_int {i j} : EA X (.Constant (.int i) j pos) (eC (.int i)) := ⟨_, pe_int, fun M σ H nv S P Q r h k => k _ S _ H h .refl r.sh rfl⟩
theorem ea_bl {b j} : EA X (.Constant (.bool b) j pos) (eC (.bl b)) := ⟨_, pe_bl, fun M σ H nv S P Q r h k => k _ S _ H h .refl r.sh rfl⟩
theorem ea_non {j} : EA X (.Constant .none j pos) (eC .non) := ⟨_, pe_non, fun M σ H nv S P Q r h k => k _ S _ H h .refl r.sh rfl⟩
theorem ea_str {x j} : EA X (.Constant (.str x) j pos) (eC (.str x)) := ⟨_, pe_str, fun M σ H nv S P Q r h k => k _ S _ H h .refl r.sh rfl⟩
/-- a name of the module that holds a def, a class, a flat constant -/
def flatA : A → V → Prop
  | .lst _, _ => False
  | .tup _, _ => False
  | .non, v => v = .non
  | .bl b, v => v = .bl b
  | .int i, v => v = .int i
  | .str x, v => v = .str x
  | .ref a, v => v = .ref a
  | .ty n, v => v = .ty n
theorem flatA.av {M : Msk} {S : Sto} {H : Hp} : ∀ {a : A} {v : V}, flatA a v → AV M S H a v
  | .non, _, h => h
  | .bl _, _, h => h
  | .int _, _, h => h
  | .str _, _, h => h
  | .ref _, _, h => h
  | .ty _, _, h => h
  | .lst _, _, h => h.elim
  | .tup _, _, h => h.elim
theorem ea_glob {x : Str} {v : V} {z : A} {u : Value} (hg : Gl X x) (hm : X.mg x = some u) (r : RelV v u) (f : flatA z v) (hd : (x == ("__debug__" : Str)) = false := by decide) : EA X (.Name x pos) (eC z) :=
  ⟨_, pe_glob hg hm r hd, fun M σ H nv S P Q r h k => k _ S _ H h .refl r.sh f.av⟩
theorem ea_gfn {x : Str} {f : Addr} (hm : X.mg x = some (.ref f)) (hg : Gl X x := by rfl) (hd : (x == ("__debug__" : Str)) = false := by decide) : EA X (.Name x pos) (eC (.ref f)) := ea_glob (v := .ref f) hg hm rfl rfl hd
theorem ea_ty {x : Str} (n : String) (hm : X.mg x = none) (hv : bootBuiltins x = some (.type n) := by decide +kernel) (hg : Gl X x := by rfl) (hn : x ≠ "__name__" := by decide) (hd : (x == ("__debug__" : Str)) = false := by decide) : EA X (.Name x pos) (eC (.ty n)) :=
  ⟨_, pe_bltn (v := .ty n) hg hm hv rfl hn hd, fun M σ H nv S P Q r h k => k _ S _ H h .refl r.sh rfl⟩

/-! ### two expressions in a row -/
theorem ER.bin {ua ub : TE} (ha : ER ua ta) (hb : ER ub tb) {M : Msk} {σ : St} {H : Hp} {nv : Nv} {S : Sto} (r : Rl M S H σ nv) {R : V → V → Hp → Prop} {P : A → A → Sto → Prop}
    (h : ta nv S fun x S1 => tb nv S1 fun y S2 => P x y S2) (k : ∀ x y S' u v H', P x y S' → Ext S H S' H' → SH M S' H' → AV M S' H' x u → AV M S' H' y v → R u v H') : ua σ H fun u H1 => ub σ H1 fun v H2 => R u v H2 := by
  refine ha M σ H nv S _ _ r h fun x S1 u H1 p e1 s1 a1 => ?_
  refine hb M σ H1 nv S1 _ _ (r.up e1 s1) p fun y S2 v H2 p2 e2 s2 a2 => ?_
  exact k x y S2 u v H2 p2 (e1.trans e2) s2 (a1.up e2) a2
abbrev RA2 := A → A → Sto → (A → Sto → Prop) → Prop
/-- an operation on values -/
def OpX (X : Cx) (f : Value → Value → Sem Value) (ra : RA2) : Prop := ∃ r : R2, OpR X f r ∧ ∀ M S H x y u v P Q, SH M S H → AV M S H x u → AV M S H y v → ra x y S P → Wk M P S H Q → r u v H Q
def eOp (ra : RA2) (ta tb : TEA) : TEA := fun nv S P => ta nv S fun x S1 => tb nv S1 fun y S2 => ra x y S2 P
theorem ea_op {op : Operator} {ra : RA2} (ho : OpX X (binaryOp op) ra) (ha : EA X a ta) (hb : EA X b tb) : EA X (.BinOp a op b pos) (eOp ra ta tb) := by
  obtain ⟨r, h1, h2⟩ := ho
  obtain ⟨ua, pa, ka⟩ := ha
  obtain ⟨ub, pb, kb⟩ := hb
  refine ⟨_, pe_op h1 pa pb, fun M σ H nv S P Q q h k => ?_⟩
  exact ka.bin kb q h fun x y S' u v H' p e s a1 a2 => h2 M S' H' x y u v P Q s a1 a2 p fun z S2 w H2 p2 e2 s2 a3 => k z S2 w H2 p2 (e.trans e2) s2 a3
theorem ea_cmp {op : CmpOp} {ra : RA2} (ho : OpX X (compareOp op) ra) (ha : EA X a ta) (hb : EA X b tb) (hm : behindInMarks op b = false := by first | exact nobehind _ (by decide) (by decide) | rfl) : EA X (.Compare a [op] [b] pos) (eOp ra ta tb) := by
  obtain ⟨r, h1, h2⟩ := ho
  obtain ⟨ua, pa, ka⟩ := ha
  obtain ⟨ub, pb, kb⟩ := hb
  refine ⟨_, pe_cmpR h1 pa pb hm, fun M σ H nv S P Q q h k => ?_⟩
  exact ka.bin kb q h fun x y S' u v H' p e s a1 a2 => h2 M S' H' x y u v P Q s a1 a2 p fun z S2 w H2 p2 e2 s2 a3 => k z S2 w H2 p2 (e.trans e2) s2 a3
end
end Lay

namespace Lay
open PySem L2 PyProof.Rows
/-! ### lists of the store -/
/-- a list: inside, or an object of the store -/
def lstv (S : Sto) : A → Option (List A)
  | .lst xs => some xs
  | .ref p => match S p with
    | some (.lst xs) => some xs
    | _ => none
  | _ => none
/-- .. or the script -/
def lstr (S : Sto) : A → Option (List A)
  | .lst xs => some xs
  | .ref p => match S p with
    | some (.lst xs) => some xs
    | some (.frz xs) => some xs
    | _ => none
  | _ => none
section
variable {M : Msk} {S S' : Sto} {H H' : Hp} {x : A} {u : V} {xs : List A} {p : Addr}
theorem lstv_ok (s : SH M S H) (a : AV M S H x u) (h : lstv S x = some xs) : ∃ p vs, u = .ref p ∧ H p = some (.lst vs) ∧ AVs M S H xs vs := by
  cases x with
  | lst ys =>
    cases h
    obtain ⟨p, vs, h1, h2, h3, h4, h5⟩ := a
    exact ⟨p, vs, h1, h4, h5⟩
  | ref p =>
    unfold lstv at h
    dsimp only at h
    split at h
    · rename_i ys q
      cases h
      obtain ⟨vs, h1, h2⟩ := (s.cell p _ q).2
      exact ⟨p, vs, a, h1, h2⟩
    · cases h
  | _ => cases h
theorem lstr_ok (s : SH M S H) (a : AV M S H x u) (h : lstr S x = some xs) : ∃ p vs, u = .ref p ∧ Rd H p (.lst vs) ∧ AVs M S H xs vs := by
  cases x with
  | lst ys =>
    cases h
    obtain ⟨p, vs, h1, h2, h3, h4, h5⟩ := a
    exact ⟨p, vs, h1, .inl h4, h5⟩
  | ref p =>
    unfold lstr at h
    dsimp only at h
    split at h
    · rename_i ys q
      cases h
      obtain ⟨vs, h1, h2⟩ := (s.cell p _ q).2
      exact ⟨p, vs, a, .inl h1, h2⟩
    · rename_i ys q
      cases h
      obtain ⟨o, vs, h1, h2⟩ := (s.cell p _ q).2
      exact ⟨p, vs, a, .inr ⟨o, h1⟩, h2⟩
    · cases h
  | _ => cases h
/-- a new list, a new tuple, inside a value -/
theorem Wk.lst {P : A → Sto → Prop} {Q : VK} {vs : List V} (k : Wk M P S H Q) (s : SH M S H) (a : AVs M S H xs vs) (h : P (.lst xs) S) (n : H p = none) : Q (.ref p) (upd H p (.lst vs)) := by
  obtain ⟨e, s'⟩ := s.laid n (.lst vs)
  exact k _ S _ _ h e s' ⟨p, vs, rfl, (s.free n).1, (s.free n).2, upd_same, a.up e⟩
theorem Wk.tup {P : A → Sto → Prop} {Q : VK} {vs : List V} (k : Wk M P S H Q) (s : SH M S H) (a : AVs M S H xs vs) (h : P (.tup xs) S) (n : H p = none) : Q (.ref p) (upd H p (.tup vs)) := by
  obtain ⟨e, s'⟩ := s.laid n (.tup vs)
  exact k _ S _ _ h e s' ⟨p, vs, rfl, (s.free n).1, (s.free n).2, upd_same, a.up e⟩
/-- a new list of the store -/
theorem Wk.cell {P : A → Sto → Prop} {Q : VK} {vs : List V} (k : Wk M P S H Q) (s : SH M S H) (a : AVs M S H xs vs) (h : ∀ p, S p = none → P (.ref p) (sup S p (.lst xs))) (n : H p = none) : Q (.ref p) (upd H p (.lst vs)) := by
  have b := s.born n (o := .lst vs) (c := .lst xs) fun S' H' e q => ⟨vs, q, a.up e⟩
  exact k _ _ _ _ (h p (s.free n).1) b.1 b.2 rfl
theorem Wk.same {P : A → Sto → Prop} {Q : VK} {z : A} {v : V} (k : Wk M P S H Q) (s : SH M S H) (h : P z S) (a : AV M S H z v) : Q v H := k z S v H h .refl s a
end

/-! ### operations -/
section
variable {X : Cx}
theorem OpX.or {f : Value → Value → Sem Value} {ra rb rc : RA2} (a : OpX X f ra) (b : OpX X f rb) (h : ∀ x y S P, rc x y S P → ra x y S P ∨ rb x y S P) : OpX X f rc := by
  obtain ⟨r1, a1, a2⟩ := a
  obtain ⟨r2, b1, b2⟩ := b
  refine ⟨fun u v H Q => r1 u v H Q ∨ r2 u v H Q, fun pins s σ H x y v u Q I rx ry q => q.elim (a1 pins s σ H x y v u Q I rx ry) (b1 pins s σ H x y v u Q I rx ry), fun M S H x y u v P Q s ax ay q k => ?_⟩
  rcases h x y S P q with q | q
  · exact .inl (a2 M S H x y u v P Q s ax ay q k)
  · exact .inr (b2 M S H x y u v P Q s ax ay q k)
/-- two ints in, under C, an int or a bool out -/
def rInt (C : Int → Int → Prop) (g : Int → Int → A) : RA2 := fun x y S P => match x, y with
  | .int i, .int j => C i j ∧ P (g i j) S
  | _, _ => False
def rInt0 (g : Int → Int → A) : RA2 := fun x y S P => match x, y with
  | .int i, .int j => P (g i j) S
  | _, _ => False
theorem ox_int {f : Value → Value → Sem Value} {C : Int → Int → Prop} {g : Int → Int → V} {ga : Int → Int → A} (h : OpR X f (rI C g)) (hg : ∀ i j, flatA (ga i j) (g i j)) : OpX X f (rInt C ga) := by
  refine ⟨_, h, fun M S H x y u v P Q s ax ay q k => ?_⟩
  unfold rInt at q
  split at q
  · rename_i i j
    exact ⟨i, j, ax, ay, q.1, k.same s q.2 (hg i j).av⟩
  · exact q.elim
theorem ox_int0 {f : Value → Value → Sem Value} {g : Int → Int → V} {ga : Int → Int → A} (h : OpR X f (rI0 g)) (hg : ∀ i j, flatA (ga i j) (g i j)) : OpX X f (rInt0 ga) := by
  refine ⟨_, h, fun M S H x y u v P Q s ax ay q k => ?_⟩
  unfold rInt0 at q
  split at q
  · rename_i i j
    exact ⟨i, j, ax, ay, k.same s q (hg i j).av⟩
  · exact q.elim
def rStrA : RA2 := fun x y S P => match x, y with
  | .str s, .str t => s.length + t.length ≤ sizeLine ∧ P (.str (s ++ t)) S
  | _, _ => False
theorem ox_addS : OpX X (binaryOp .Add) rStrA := by
  refine ⟨_, op_add_str, fun M S H x y u v P Q s ax ay q k => ?_⟩
  unfold rStrA at q
  split at q
  · exact ⟨_, _, ax, ay, q.1, k.same s q.2 rfl⟩
  · exact q.elim
def rCatA : RA2 := fun x y S P => ∃ xs ys, lstv S x = some xs ∧ lstv S y = some ys ∧ xs.length + ys.length ≤ sizeLine ∧ P (.lst (xs ++ ys)) S
theorem ox_cat : OpX X (binaryOp .Add) rCatA := by
  refine ⟨_, op_cat, fun M S H x y u v P Q s ax ay q k => ?_⟩
  obtain ⟨xs, ys, h1, h2, h3, h4⟩ := q
  obtain ⟨p, vs, e1, g1, a1⟩ := lstv_ok s ax h1
  obtain ⟨q, ws, e2, g2, a2⟩ := lstv_ok s ay h2
  exact ⟨p, q, vs, ws, e1, e2, g1, g2, by rw [a1.len, a2.len]; exact h3, fun l n => k.lst s (a1.app a2) h4 n⟩
/-- + of ints, texts, lists -/
def rAddA : RA2 := fun x y S P => match x, y with
  | .int i, .int j => P (.int (i + j)) S
  | .str s, .str t => s.length + t.length ≤ sizeLine ∧ P (.str (s ++ t)) S
  | x, y => rCatA x y S P
theorem oa_add : OpX X (binaryOp .Add) rAddA :=
  (ox_int0 (ga := fun i j => .int (i + j)) op_add fun _ _ => rfl).or (rb := fun x y S P => rStrA x y S P ∨ rCatA x y S P) (ox_addS.or ox_cat fun _ _ _ _ q => q) fun x y S P q => by
    unfold rAddA at q
    split at q
    · exact .inl q
    · exact .inr (.inl q)
    · exact .inr (.inr q)
theorem oa_sub : OpX X (binaryOp .Sub) (rInt0 fun i j => .int (i - j)) := ox_int0 op_sub fun _ _ => rfl
theorem oa_mul : OpX X (binaryOp .Mult) (rInt CMulW fun i j => .int (i * j)) := ox_int op_mulW fun _ _ => rfl
/-- // by a positive divisor -/
theorem oa_fdiv : OpX X (binaryOp .FloorDiv) (rInt CDivW fun i j => .int (i / j)) := ox_int op_fdivW fun _ _ => rfl
/-- // by any divisor but 0 -/
def CDivX (_ j : Int) : Prop := j ≠ 0 ∧ j.natAbs.log2 < 9000
theorem op_fdivX : OpR X (binaryOp .FloorDiv) (rI CDivX fun i j => .int (i.fdiv j)) := opI fun i j _ _ _ _ _ hc q => floordiv_int hc.1 q (.inl (PyProof.noPylong_of_log2 hc.2))
theorem oa_fdivX : OpX X (binaryOp .FloorDiv) (rInt CDivX fun i j => .int (i.fdiv j)) := ox_int op_fdivX fun _ _ => rfl
theorem oa_mod : OpX X (binaryOp .Mod) (rInt (fun _ j => 0 < j) fun i j => .int (i % j)) := ox_int op_mod fun _ _ => rfl
theorem oa_modN : OpX X (binaryOp .Mod) (rInt (fun _ j => j ≠ 0) fun i j => .int (i.fmod j)) := ox_int op_modN fun _ _ => rfl
def CPowX (i j : Int) : Prop := 0 ≤ j ∧ (Builtin.Int.intBits i : Int) * j ≤ 2 ^ 27
theorem op_powX : OpR X (binaryOp .Pow) (rI CPowX fun i j => .int (i ^ j.toNat)) := opI fun _ _ _ _ _ _ _ hc q => pow_int hc.1 hc.2 q
theorem oa_pow : OpX X (binaryOp .Pow) (rInt CPowX fun i j => .int (i ^ j.toNat)) := ox_int op_powX fun _ _ => rfl
theorem oa_lt : OpX X (compareOp .Lt) (rInt0 fun i j => .bl (decide (i < j))) := ox_int0 op_lt fun _ _ => rfl
theorem oa_le : OpX X (compareOp .LtE) (rInt0 fun i j => .bl (decide (i ≤ j))) := ox_int0 op_le fun _ _ => rfl
theorem oa_gt : OpX X (compareOp .Gt) (rInt0 fun i j => .bl (decide (j < i))) := ox_int0 op_gt fun _ _ => rfl
theorem oa_ge : OpX X (compareOp .GtE) (rInt0 fun i j => .bl (decide (j ≤ i))) := ox_int0 op_ge fun _ _ => rfl

/-! ### == -/
mutual
def pyd : A → Option PyData
  | .non => some .none
  | .bl b => some (.bool b)
  | .int i => some (.int i)
  | .str s => some (.str s)
  | .lst xs => (pyds xs).map .list
  | .tup xs => (pyds xs).map .tuple
  | .ref _ => none
  | .ty _ => none
def pyds : List A → Option (List PyData)
  | [] => some []
  | x :: xs => match pyd x, pyds xs with
    | some d, some ds => some (d :: ds)
    | _, _ => none
end
/-- the list of the store as a value -/
def rsv (S : Sto) (x : A) : A := match lstr S x with
  | some xs => .lst xs
  | none => x
mutual
theorem pyd_ok {K : PySem.W.Frag} {M : Msk} {S : Sto} {H : Hp} : ∀ (x : A) (u : V) (d : PyData), AV M S H x u → pyd x = some d → Dp K H u d
  | .non, _, _, a, h => by cases h; rw [show _ = _ from a]; exact .non
  | .bl b, _, _, a, h => by cases h; rw [show _ = _ from a]; exact .bl b
  | .int i, _, _, a, h => by cases h; rw [show _ = _ from a]; exact .int i
  | .str i, _, _, a, h => by cases h; rw [show _ = _ from a]; exact .str i
  | .lst xs, _, d, ⟨p, vs, h1, h2, h3, h4, h5⟩, h => by
    unfold pyd at h
    cases e : pyds xs with
    | none => rw [e] at h; cases h
    | some ds =>
      rw [e] at h
      cases h
      rw [h1]
      exact .lst (SqL.of h4) (pyds_ok xs vs ds h5 e)
  | .tup xs, _, d, ⟨p, vs, h1, h2, h3, h4, h5⟩, h => by
    unfold pyd at h
    cases e : pyds xs with
    | none => rw [e] at h; cases h
    | some ds =>
      rw [e] at h
      cases h
      rw [h1]
      exact .tup (SqT.of h4) (pyds_ok xs vs ds h5 e)
  | .ref _, _, _, _, h => by cases h
  | .ty _, _, _, _, h => by cases h
theorem pyds_ok {K : PySem.W.Frag} {M : Msk} {S : Sto} {H : Hp} : ∀ (xs : List A) (vs : List V) (ds : List PyData), AVs M S H xs vs → pyds xs = some ds → DpAll K H vs ds
  | [], _, _, a, h => by cases h; rw [show _ = _ from a]; exact .nil
  | x :: xs, _, ds, ⟨v, r, h1, h2, h3⟩, h => by
    unfold pyds at h
    split at h
    · rename_i d ds' e1 e2
      cases h
      rw [h1]
      exact .cons (pyd_ok x v d h2 e1) (pyds_ok xs r ds' h3 e2)
    · cases h
end
theorem rsv_ok {K : PySem.W.Frag} {M : Msk} {S : Sto} {H : Hp} {x : A} {u : V} {d : PyData} (s : SH M S H) (a : AV M S H x u) (h : pyd (rsv S x) = some d) : Dp K H u d := by
  unfold rsv at h
  split at h
  · rename_i xs q
    obtain ⟨p, vs, h1, h2, h3⟩ := lstr_ok s a q
    unfold pyd at h
    cases e : pyds xs with
    | none => rw [e] at h; cases h
    | some ds =>
      rw [e] at h
      cases h
      rw [h1]
      exact .lst (.inl h2) (pyds_ok xs vs ds h3 e)
  · exact pyd_ok x u d a h
def rEqDA (neg : Bool) : RA2 := fun x y S P => ∃ d e, pyd (rsv S x) = some d ∧ pyd (rsv S y) = some e ∧ SeqAt.shaped d = true ∧ SeqAt.shaped e = true ∧ P (.bl (if neg then !PyData.eqv d e else PyData.eqv d e)) S
theorem ox_eqD (hu : X.A.units + 64 < cLine) : OpX X (compareOp .Eq) (rEqDA false) := by
  refine ⟨_, op_eqD hu, fun M S H x y u v P Q s ax ay q k => ?_⟩
  obtain ⟨d, e, h1, h2, h3, h4, h5⟩ := q
  exact ⟨d, e, rsv_ok s ax h1, rsv_ok s ay h2, h3, h4, k.same s h5 rfl⟩
theorem ox_neD (hu : X.A.units + 64 < cLine) : OpX X (compareOp .NotEq) (rEqDA true) := by
  refine ⟨_, op_neD hu, fun M S H x y u v P Q s ax ay q k => ?_⟩
  obtain ⟨d, e, h1, h2, h3, h4, h5⟩ := q
  exact ⟨d, e, rsv_ok s ax h1, rsv_ok s ay h2, h3, h4, k.same s h5 rfl⟩
/-- == of two ints, two texts, two bools; else of data -/
def rEqA (neg : Bool) : RA2 := fun x y S P => match x, y with
  | .int i, .int j => P (.bl (if neg then !decide (i = j) else decide (i = j))) S
  | .str i, .str j => P (.bl (if neg then !decide (i = j) else decide (i = j))) S
  | x, y => rEqDA neg x y S P
def rEqF (neg : Bool) : RA2 := fun x y S P => match x, y with
  | .int i, .int j => P (.bl (if neg then !decide (i = j) else decide (i = j))) S
  | .str i, .str j => P (.bl (if neg then !decide (i = j) else decide (i = j))) S
  | _, _ => False
theorem dec_vint (i j : Int) : decide (V.int i = V.int j) = decide (i = j) := by
  rw [Bool.eq_iff_iff]; simp
theorem dec_vstr (i j : Str) : decide (V.str i = V.str j) = decide (i = j) := by
  rw [Bool.eq_iff_iff]; simp
theorem ox_eqF : OpX X (compareOp .Eq) (rEqF false) := by
  refine ⟨_, op_eq, fun M S H x y u v P Q s ax ay q k => ?_⟩
  unfold rEqF at q
  split at q
  · rw [show u = _ from ax, show v = _ from ay]
    exact ⟨rfl, k.same s q (by rw [dec_vint]; rfl)⟩
  · rw [show u = _ from ax, show v = _ from ay]
    exact ⟨rfl, k.same s q (by rw [dec_vstr]; rfl)⟩
  · exact q.elim
theorem ox_neF : OpX X (compareOp .NotEq) (rEqF true) := by
  refine ⟨_, op_ne, fun M S H x y u v P Q s ax ay q k => ?_⟩
  unfold rEqF at q
  split at q
  · rw [show u = _ from ax, show v = _ from ay]
    exact ⟨rfl, k.same s q (by rw [dec_vint]; rfl)⟩
  · rw [show u = _ from ax, show v = _ from ay]
    exact ⟨rfl, k.same s q (by rw [dec_vstr]; rfl)⟩
  · exact q.elim
theorem oa_eq (hu : X.A.units + 64 < cLine) : OpX X (compareOp .Eq) (rEqA false) := ox_eqF.or (ox_eqD hu) fun x y S P q => by
  unfold rEqA at q
  split at q
  · exact .inl q
  · exact .inl q
  · exact .inr q
theorem oa_ne (hu : X.A.units + 64 < cLine) : OpX X (compareOp .NotEq) (rEqA true) := ox_neF.or (ox_neD hu) fun x y S P q => by
  unfold rEqA at q
  split at q
  · exact .inl q
  · exact .inl q
  · exact .inr q
/-! ### is -/
def isNon : A → Bool
  | .non => true
  | _ => false
def isBlOf (b : Bool) : A → Bool
  | .bl c => c == b
  | _ => false
def rIsA (neg : Bool) : RA2 := fun x y S P => match y with
  | .non => P (.bl (if neg then !isNon x else isNon x)) S
  | .bl b => P (.bl (if neg then !isBlOf b x else isBlOf b x)) S
  | _ => False
def rIsV (neg : Bool) : R2 := fun x y H Q => (y = .non ∨ ∃ b, y = .bl b) ∧ Q (.bl (if neg then !decide (x = y) else decide (x = y))) H
theorem plain_of {x y : V} {v u : Value} (rx : RelV x v) (ry : RelV y u) (h : y = .non ∨ ∃ b, y = .bl b) : plainIs v u = true ∧ (v == u) = decide (x = y) := by
  rcases h with rfl | ⟨b, rfl⟩
  · cases (show u = Value.none from ry)
    refine ⟨?_, rx.none_iff⟩
    cases x <;> first | (cases rx; rfl) | (obtain ⟨t, rfl⟩ := rx; rfl)
  · cases (show u = Value.bool b from ry)
    cases x with
    | bl c =>
      cases (show v = Value.bool c from rx)
      refine ⟨rfl, ?_⟩
      rw [dec_bl, Bool.eq_iff_iff, beq_iff_eq, beq_iff_eq]
      exact ⟨fun e => Value.bool.inj e, fun e => by rw [e]⟩
    | non => cases rx; exact ⟨rfl, by simp⟩
    | ref _ => cases rx; exact ⟨rfl, by simp⟩
    | ty _ => cases rx; exact ⟨rfl, by simp⟩
    | int _ => obtain ⟨t, rfl⟩ := rx; exact ⟨rfl, by simp⟩
    | str _ => obtain ⟨t, rfl⟩ := rx; exact ⟨rfl, by simp⟩
    | byt _ => obtain ⟨t, rfl⟩ := rx; exact ⟨rfl, by simp⟩
    | flt _ => obtain ⟨t, rfl⟩ := rx; exact ⟨rfl, by simp⟩
theorem op_isV : OpR X (compareOp .Is) (rIsV false) := by
  intro pins s σ H x y v u Q I rx ry h
  obtain ⟨h, q⟩ := h
  obtain ⟨p1, p2⟩ := plain_of rx ry h
  exact wpAny_is_plain p1 ⟨_, H, I, by rw [p2]; rfl, q⟩
theorem op_isNotV : OpR X (compareOp .IsNot) (rIsV true) := by
  intro pins s σ H x y v u Q I rx ry h
  obtain ⟨h, q⟩ := h
  obtain ⟨p1, p2⟩ := plain_of rx ry h
  exact wpAny_isNot_plain p1 ⟨_, H, I, by rw [p2]; rfl, q⟩
theorem isNon_ok {M : Msk} {S : Sto} {H : Hp} : ∀ {x : A} {u : V}, AV M S H x u → decide (u = .non) = isNon x
  | .non, _, h => by rw [show _ = _ from h]; rfl
  | .bl _, _, h => by rw [show _ = _ from h]; rfl
  | .int _, _, h => by rw [show _ = _ from h]; rfl
  | .str _, _, h => by rw [show _ = _ from h]; rfl
  | .ref _, _, h => by rw [show _ = _ from h]; rfl
  | .ty _, _, h => by rw [show _ = _ from h]; rfl
  | .lst _, _, ⟨p, vs, h1, _⟩ => by rw [h1]; rfl
  | .tup _, _, ⟨p, vs, h1, _⟩ => by rw [h1]; rfl
theorem isBlOf_ok {M : Msk} {S : Sto} {H : Hp} (b : Bool) : ∀ {x : A} {u : V}, AV M S H x u → decide (u = .bl b) = isBlOf b x
  | .non, _, h => by rw [show _ = _ from h]; rfl
  | .bl c, _, h => by rw [show _ = _ from h, dec_bl]; rfl
  | .int _, _, h => by rw [show _ = _ from h]; rfl
  | .str _, _, h => by rw [show _ = _ from h]; rfl
  | .ref _, _, h => by rw [show _ = _ from h]; rfl
  | .ty _, _, h => by rw [show _ = _ from h]; rfl
  | .lst _, _, ⟨p, vs, h1, _⟩ => by rw [h1]; rfl
  | .tup _, _, ⟨p, vs, h1, _⟩ => by rw [h1]; rfl
theorem rIs_ok (neg : Bool) (M : Msk) (S : Sto) (H : Hp) (x y : A) (u v : V) (P : A → Sto → Prop) (Q : VK) (s : SH M S H) (ax : AV M S H x u) (ay : AV M S H y v) (q : rIsA neg x y S P) (k : Wk M P S H Q) : rIsV neg u v H Q := by
  unfold rIsA at q
  split at q
  · cases (show v = V.non from ay)
    exact ⟨.inl rfl, k.same s q (by rw [isNon_ok ax]; rfl)⟩
  · rename_i b
    cases (show v = V.bl b from ay)
    exact ⟨.inr ⟨b, rfl⟩, k.same s q (by rw [isBlOf_ok b ax]; rfl)⟩
  · exact q.elim
theorem oa_is : OpX X (compareOp .Is) (rIsA false) := ⟨_, op_isV, rIs_ok false⟩
theorem oa_isNot : OpX X (compareOp .IsNot) (rIsA true) := ⟨_, op_isNotV, rIs_ok true⟩
end
end Lay

namespace Lay
open PySem L2 PyProof.Rows
/-- by a bool -/
def bsel (b : Bool) (p q : Prop) : Prop := match b with
  | true => p
  | false => q
theorem bsel_i {b : Bool} {p q : Prop} (h1 : b = true → p) (h2 : b = false → q) : bsel b p q := by
  cases b
  · exact h2 rfl
  · exact h1 rfl
theorem bsel_t {b : Bool} {p q : Prop} (e : b = true) (h : p) : bsel b p q := by
  subst e
  exact h
theorem bsel_f {b : Bool} {p q : Prop} (e : b = false) (h : q) : bsel b p q := by
  subst e
  exact h
theorem bsel_if {b : Bool} {p q : Prop} (h : bsel b p q) : if b = true then p else q := by
  cases b
  · exact h
  · exact h
section
variable {X : Cx} {a b c e : Expr} {es rest : List Expr} {ta tb : TEA} {tA tB' : TTA} {pos : Pos}
/-! ### tests -/
/-- an expression whose value is a bool -/
def tBool (te : TEA) : TTA := fun nv S P => te nv S fun a S1 => match a with
  | .bl b => P b S1
  | _ => False
theorem TR_bool {t : TE} {te : TEA} (h : ER t te) : TR (tTest t) (tBool te) := fun M σ H nv S P Q r q k => by
  refine h M σ H nv S _ _ r q fun a S' v H' p e s av => ?_
  split at p
  · rename_i b
    exact ⟨b, av, k b S' H' p e s⟩
  · exact p.elim
theorem tt_cmp {op : CmpOp} {ra : RA2} (ho : OpX X (compareOp op) ra) (ha : EA X a ta) (hb : EA X b tb) (hm : behindInMarks op b = false := by first | exact nobehind _ (by decide) (by decide) | rfl) : TA' X (.Compare a [op] [b] pos) (tBool (eOp ra ta tb)) := by
  obtain ⟨r, h1, h2⟩ := ho
  obtain ⟨ua, pa, ka⟩ := ha
  obtain ⟨ub, pb, kb⟩ := hb
  refine ⟨_, pt_cmpR h1 pa pb hm, TR_bool fun M σ H nv S P Q q h k => ?_⟩
  exact ka.bin kb q h fun x y S' u v H' p e s a1 a2 => h2 M S' H' x y u v P Q s a1 a2 p fun z S2 w H2 p2 e2 s2 a3 => k z S2 w H2 p2 (e.trans e2) s2 a3
theorem tt_val (h : EA X e ta) (he : ∀ whole, isTrue e X.env whole = (do let v ← whole; standAt e.pos; holding [v] (truthy v)) := by intro _; rfl) : TA' X e (tBool ta) := by
  obtain ⟨t, p, k⟩ := h
  exact ⟨_, pt_val p he, TR_bool k⟩
def tAndA (t u : TTA) : TTA := fun nv S P => t nv S fun c S1 => bsel c (u nv S1 P) (P false S1)
def tOrA (t u : TTA) : TTA := fun nv S P => t nv S fun c S1 => bsel c (P true S1) (u nv S1 P)
def tNotA (t : TTA) : TTA := fun nv S P => t nv S fun c S1 => P (!c) S1
theorem tw_and1 (h : TA' X a tA) : TW X (.BoolOp .And [a] pos) tA := by
  obtain ⟨t, p, k⟩ := h
  exact ⟨_, pw_and1 p, k⟩
theorem tw_or1 (h : TA' X a tA) : TW X (.BoolOp .Or [a] pos) tA := by
  obtain ⟨t, p, k⟩ := h
  exact ⟨_, pw_or1 p, k⟩
theorem tw_and (ha : TA' X a tA) (hb : TW X (.BoolOp .And (b :: rest) pos) tB') : TW X (.BoolOp .And (a :: b :: rest) pos) (tAndA tA tB') := by
  obtain ⟨t, p, k⟩ := ha
  obtain ⟨u, p2, k2⟩ := hb
  refine ⟨_, pw_and p p2, fun M σ H nv S P Q r h w => ?_⟩
  refine k M σ H nv S _ _ r h fun c S1 H1 q e s => ?_
  cases c with
  | true => exact k2 M σ H1 nv S1 P Q (r.up e s) q fun b S2 H2 q2 e2 s2 => w b S2 H2 q2 (e.trans e2) s2
  | false => exact w false S1 H1 q e s
theorem tw_or (ha : TA' X a tA) (hb : TW X (.BoolOp .Or (b :: rest) pos) tB') : TW X (.BoolOp .Or (a :: b :: rest) pos) (tOrA tA tB') := by
  obtain ⟨t, p, k⟩ := ha
  obtain ⟨u, p2, k2⟩ := hb
  refine ⟨_, pw_or p p2, fun M σ H nv S P Q r h w => ?_⟩
  refine k M σ H nv S _ _ r h fun c S1 H1 q e s => ?_
  cases c with
  | true => exact w true S1 H1 q e s
  | false => exact k2 M σ H1 nv S1 P Q (r.up e s) q fun b S2 H2 q2 e2 s2 => w b S2 H2 q2 (e.trans e2) s2
theorem tt_w (h : TW X e tA) : TA' X e tA := by
  obtain ⟨t, p, k⟩ := h
  exact ⟨_, p.pt, k⟩
theorem tt_not (h : TA' X a tA) : TA' X (.UnaryOp .Not a pos) (tNotA tA) := by
  obtain ⟨t, p, k⟩ := h
  refine ⟨_, pt_not p, fun M σ H nv S P Q r h w => ?_⟩
  exact k M σ H nv S _ _ r h fun c S1 H1 q e s => w (!c) S1 H1 q e s
/-! ### and, or, not as values (bools; the last one any) -/
def eAnd (ta tb : TEA) : TEA := fun nv S P => ta nv S fun x S1 => match x with
  | .bl c => bsel c (tb nv S1 P) (P (.bl false) S1)
  | _ => False
def eOr (ta tb : TEA) : TEA := fun nv S P => ta nv S fun x S1 => match x with
  | .bl c => bsel c (P (.bl true) S1) (tb nv S1 P)
  | _ => False
def eNot (ta : TEA) : TEA := fun nv S P => ta nv S fun x S1 => match x with
  | .bl c => P (.bl (!c)) S1
  | _ => False
theorem ea_one {op} (h : EA X a ta) : EA X (.BoolOp op [a] pos) ta := by
  obtain ⟨t, p, k⟩ := h
  exact ⟨_, pe_one p, k⟩
theorem ea_and (ha : EA X a ta) (hb : EA X (.BoolOp .And (b :: rest) pos) tb) : EA X (.BoolOp .And (a :: b :: rest) pos) (eAnd ta tb) := by
  obtain ⟨t, p, k⟩ := ha
  obtain ⟨u, p2, k2⟩ := hb
  refine ⟨_, pe_and p p2, fun M σ H nv S P Q r h w => ?_⟩
  refine k M σ H nv S _ _ r h fun x S1 v H1 q e s av => ?_
  try dsimp only at q
  split at q
  · rename_i c
    refine ⟨c, av, bsel_if ?_⟩
    cases c with
    | true => exact k2 M σ H1 nv S1 P Q (r.up e s) q fun z S2 v2 H2 q2 e2 s2 a2 => w z S2 v2 H2 q2 (e.trans e2) s2 a2
    | false => exact w _ S1 _ H1 q e s rfl
  · exact q.elim
theorem ea_or (ha : EA X a ta) (hb : EA X (.BoolOp .Or (b :: rest) pos) tb) : EA X (.BoolOp .Or (a :: b :: rest) pos) (eOr ta tb) := by
  obtain ⟨t, p, k⟩ := ha
  obtain ⟨u, p2, k2⟩ := hb
  refine ⟨_, pe_or p p2, fun M σ H nv S P Q r h w => ?_⟩
  refine k M σ H nv S _ _ r h fun x S1 v H1 q e s av => ?_
  try dsimp only at q
  split at q
  · rename_i c
    refine ⟨c, av, bsel_if ?_⟩
    cases c with
    | true => exact w _ S1 _ H1 q e s rfl
    | false => exact k2 M σ H1 nv S1 P Q (r.up e s) q fun z S2 v2 H2 q2 e2 s2 a2 => w z S2 v2 H2 q2 (e.trans e2) s2 a2
  · exact q.elim
theorem ea_not (ha : EA X a ta) : EA X (.UnaryOp .Not a pos) (eNot ta) := by
  obtain ⟨t, p, k⟩ := ha
  refine ⟨_, pe_not p, fun M σ H nv S P Q r h w => ?_⟩
  refine k M σ H nv S _ _ r h fun x S1 v H1 q e s av => ?_
  try dsimp only at q
  split at q
  · rename_i c
    exact ⟨c, av, w _ S1 _ H1 q e s rfl⟩
  · exact q.elim
def eIf (t : TTA) (ta tb : TEA) : TEA := fun nv S P => t nv S fun c S1 => bsel c (ta nv S1 P) (tb nv S1 P)
theorem ea_if (hc : TA' X c tA) (ha : EA X a ta) (hb : EA X b tb) : EA X (.IfExp c a b pos) (eIf tA ta tb) := by
  obtain ⟨t, p, k⟩ := hc
  obtain ⟨u1, p1, k1⟩ := ha
  obtain ⟨u2, p2, k2⟩ := hb
  refine ⟨_, pe_ifExp p p1 p2, fun M σ H nv S P Q r h w => ?_⟩
  refine k M σ H nv S _ _ r h fun c S1 H1 q e s => bsel_if ?_
  cases c with
  | true => exact k1 M σ H1 nv S1 P Q (r.up e s) q fun z S2 v2 H2 q2 e2 s2 a2 => w z S2 v2 H2 q2 (e.trans e2) s2 a2
  | false => exact k2 M σ H1 nv S1 P Q (r.up e s) q fun z S2 v2 H2 q2 e2 s2 a2 => w z S2 v2 H2 q2 (e.trans e2) s2 a2
/-! ### -a -/
def eNeg (ta : TEA) : TEA := fun nv S P => ta nv S fun x S1 => match x with
  | .int i => P (.int (-i)) S1
  | _ => False
theorem ea_neg (ha : EA X a ta) : EA X (.UnaryOp .USub a pos) (eNeg ta) := by
  obtain ⟨t, p, k⟩ := ha
  refine ⟨_, pe_un un_neg p, fun M σ H nv S P Q r h w => ?_⟩
  refine k M σ H nv S _ _ r h fun x S1 v H1 q e s av => ?_
  try dsimp only at q
  split at q
  · exact ⟨_, av, w _ S1 _ H1 q e s rfl⟩
  · exact q.elim
/-! ### arguments, displays -/
def lNil : TAA := fun _ S P => P [] S
def lCons (ta : TEA) (tr : TAA) : TAA := fun nv S P => ta nv S fun x S1 => tr nv S1 fun xs S2 => P (x :: xs) S2
theorem la_nil : LA X [] lNil := ⟨_, pa_nil, fun M σ H nv S P Q r h w => w [] S [] H rfl h .refl r.sh rfl⟩
theorem la_cons {tr : TAA} (ha : EA X e ta) (hr : LA X es tr) (hs : starEach (e :: es) X.env = (false, eval e X.env) :: starEach es X.env := by rfl) : LA X (e :: es) (lCons ta tr) := by
  obtain ⟨t, p, k⟩ := ha
  obtain ⟨u, p2, k2⟩ := hr
  refine ⟨_, pa_cons p p2 hs, fun M σ H nv S P Q r h w => ?_⟩
  refine k M σ H nv S _ _ r h fun x S1 v H1 q e s av => ?_
  refine k2 M σ H1 nv S1 _ _ (r.up e s) q fun as S2 vs H2 n q2 e2 s2 a2 => ?_
  exact w (x :: as) S2 (v :: vs) H2 (by rw [List.length_cons, List.length_cons, n]) q2 (e.trans e2) s2 ⟨v, vs, rfl, av.up e2, a2⟩
def eTup (t : TAA) : TEA := fun nv S P => t nv S fun as S1 => P (.tup as) S1
def eLst (t : TAA) : TEA := fun nv S P => t nv S fun as S1 => P (.lst as) S1
/-- a list that goes into the store -/
def eLstC (t : TAA) : TEA := fun nv S P => t nv S fun as S1 => ∀ p, S1 p = none → P (.ref p) (sup S1 p (.lst as))
theorem ea_tup {t : TAA} {x1} (h : LA X es t) (hn : es.length ≤ 1000 := by decide) : EA X (.Tuple es x1 pos) (eTup t) := by
  obtain ⟨u, p, k⟩ := h
  refine ⟨_, pe_tup p, fun M σ H nv S P Q r h w => ?_⟩
  refine k M σ H nv S _ _ r h fun as S1 vs H1 n q e s av => ⟨by rw [av.len, n]; exact Nat.le_of_lt (small1000 hn), fun p hp => ?_⟩
  exact Wk.tup (fun z S2 v2 H2 q2 e2 s2 a2 => w z S2 v2 H2 q2 (e.trans e2) s2 a2) s av q hp
theorem ea_lst {t : TAA} {x1} (h : LA X es t) (hn : es.length ≤ 1000 := by decide) : EA X (.List es x1) (eLst t) := by
  obtain ⟨u, p, k⟩ := h
  refine ⟨_, pe_lst p, fun M σ H nv S P Q r h w => ?_⟩
  refine k M σ H nv S _ _ r h fun as S1 vs H1 n q e s av => ⟨by rw [av.len, n]; exact Nat.le_of_lt (small1000 hn), fun p hp => ?_⟩
  exact Wk.lst (fun z S2 v2 H2 q2 e2 s2 a2 => w z S2 v2 H2 q2 (e.trans e2) s2 a2) s av q hp
theorem ea_lstC {t : TAA} {x1} (h : LA X es t) (hn : es.length ≤ 1000 := by decide) : EA X (.List es x1) (eLstC t) := by
  obtain ⟨u, p, k⟩ := h
  refine ⟨_, pe_lst p, fun M σ H nv S P Q r h w => ?_⟩
  refine k M σ H nv S _ _ r h fun as S1 vs H1 n q e s av => ⟨by rw [av.len, n]; exact Nat.le_of_lt (small1000 hn), fun p hp => ?_⟩
  exact Wk.cell (fun z S2 v2 H2 q2 e2 s2 a2 => w z S2 v2 H2 q2 (e.trans e2) s2 a2) s av q hp
/-! ### subscripts -/
def rIxA : RA2 := fun x y S P => match x, y with
  | .tup xs, .int i => ∃ z, atI xs i = some z ∧ P z S
  | .str s, .int i => s.length ≤ sizeLine ∧ ∃ c, atI s.cps.toList i = some c ∧ P (.str ⟨#[c]⟩) S
  | x, .int i => ∃ xs z, lstr S x = some xs ∧ atI xs i = some z ∧ P z S
  | _, _ => False
theorem atI_rel {M : Msk} {S : Sto} {H : Hp} {as : List A} {vs : List V} {i : Int} {z : A} (a : AVs M S H as vs) (h : atI as i = some z) : ∃ v, atI vs i = some v ∧ AV M S H z v := by
  unfold atI at h ⊢
  rw [a.len]
  cases e : ixN as.length i with
  | none => rw [e] at h; cases h
  | some j =>
    rw [e] at h
    exact a.get h
theorem ea_ix (ha : EA X a ta) (hb : EA X b tb) (hp : PlainIx b := by exact fun _ _ => rfl) : EA X (.Subscript a b pos) (eOp rIxA ta tb) := by
  obtain ⟨t, p, k⟩ := ha
  obtain ⟨u, p2, k2⟩ := hb
  refine ⟨_, pe_ix ix_seq p p2 hp, fun M σ H nv S P Q r h w => ?_⟩
  refine k.bin k2 r h fun x y S' u v H' q e s a1 a2 => ?_
  have w' : Wk M P S' H' Q := fun z S2 v2 H2 q2 e2 s2 a2 => w z S2 v2 H2 q2 (e.trans e2) s2 a2
  unfold rIxA at q
  split at q
  · obtain ⟨z, q1, q2⟩ := q
    obtain ⟨p, vs, e1, e2, e3, e4, e5⟩ := a1
    obtain ⟨v', g1, g2⟩ := atI_rel e5 q1
    exact .inr (.inl ⟨p, vs, _, v', e1, a2, SqT.of e4, g1, w'.same s q2 g2⟩)
  · obtain ⟨q0, c, q1, q2⟩ := q
    exact .inr (.inr ⟨_, _, c, a1, a2, q0, q1, w'.same s q2 rfl⟩)
  · obtain ⟨xs, z, q0, q1, q2⟩ := q
    obtain ⟨p, vs, e1, e4, e5⟩ := lstr_ok s a1 q0
    obtain ⟨v', g1, g2⟩ := atI_rel e5 q1
    exact .inl ⟨p, vs, _, v', e1, a2, .inl e4, g1, w'.same s q2 g2⟩
  · exact q.elim
end
end Lay

namespace Lay
open PySem L2 PyProof.Rows
section
variable {X : Cx} {a b c e : Expr} {es rest : List Expr} {ta tb : TEA} {tA tB' : TTA} {tl : TAA} {pos p2 : Pos}
/-! ### slices -/
abbrev TOA := Nv → Sto → (Option Int → Sto → Prop) → Prop
structure OA (X : Cx) (e : Option Expr) (te : TOA) : Prop where
  ex : ∃ t, PO X e t ∧ ∀ M σ H nv S (P : Option Int → Sto → Prop) (Q : Option Int → Hp → Prop), Rl M S H σ nv → te nv S P → (∀ o S' H', P o S' → Ext S H S' H' → SH M S' H' → Q o H') → t σ H Q
def oNo : TOA := fun _ S P => P none S
def oPart (te : TEA) : TOA := fun nv S P => te nv S fun x S1 => match x with
  | .int i => P (some i) S1
  | _ => False
theorem oa_no : OA X none oNo := ⟨_, po_none, fun M σ H nv S P Q r h w => w none S H h .refl r.sh⟩
theorem oa_part (h : EA X e ta) : OA X (some e) (oPart ta) := by
  obtain ⟨t, p, k⟩ := h
  refine ⟨_, po_some p, fun M σ H nv S P Q r h w => ?_⟩
  refine k M σ H nv S _ _ r h fun x S1 v H1 q e s av => ?_
  try dsimp only at q
  split at q
  · exact ⟨_, av, w _ S1 H1 q e s⟩
  · exact q.elim
def cutA (xs : List A) (lo hi : Option Int) : List A := (xs.drop (HT.sIx xs.length 0 lo)).take (HT.sIx xs.length xs.length hi - HT.sIx xs.length 0 lo)
theorem cut_rel {M : Msk} {S : Sto} {H : Hp} {xs : List A} {vs : List V} (a : AVs M S H xs vs) (lo hi : Option Int) : AVs M S H (cutA xs lo hi) (cutV vs lo hi) := by
  unfold cutA cutV
  rw [a.len]
  exact (a.drop _).take _
def eSl (te : TEA) (tl th : TOA) : TEA := fun nv S P => te nv S fun x S1 => tl nv S1 fun lo S2 => th nv S2 fun hi S3 => match x with
  | .str s => s.length ≤ sizeLine ∧ P (.str (cutS s lo hi)) S3
  | x => ∃ xs, lstr S3 x = some xs ∧ P (.lst (cutA xs lo hi)) S3
theorem ea_sl {lo hi : Option Expr} {tl th : TOA} (he : EA X e ta) (hl : OA X lo tl) (hh : OA X hi th) : EA X (.Subscript e (.Slice lo hi none p2) pos) (eSl ta tl th) := by
  obtain ⟨t, p, k⟩ := he
  obtain ⟨t1, p1, k1⟩ := hl
  obtain ⟨t2, p2, k2⟩ := hh
  refine ⟨_, pe_slice (sl_list.or sl_str) p p1 p2, fun M σ H nv S P Q r h w => ?_⟩
  refine k M σ H nv S _ _ r h fun x S1 v H1 q e s av => ?_
  refine k1 M σ H1 nv S1 _ _ (r.up e s) q fun lo S2 H2 q2 e2 s2 => ?_
  refine k2 M σ H2 nv S2 _ _ ((r.up e s).up e2 s2) q2 fun hi S3 H3 q3 e3 s3 => ?_
  have w' : Wk M P S3 H3 Q := fun z S4 v4 H4 q4 e4 s4 a4 => w z S4 v4 H4 q4 (((e.trans e2).trans e3).trans e4) s4 a4
  have av3 := (av.up e2).up e3
  try dsimp only at q3
  split at q3
  · exact .inr ⟨_, av3, q3.1, w'.same s3 q3.2 rfl⟩
  · obtain ⟨xs, h1, h2⟩ := q3
    obtain ⟨p, vs, g1, g2, g3⟩ := lstr_ok s3 av3 h1
    exact .inl ⟨p, vs, g1, .inl g2, fun l n => w'.lst s3 (cut_rel g3 lo hi) h2 n⟩
/-! ### calls -/
abbrev SpA := List A → Sto → (A → Sto → Prop) → Prop
def liftSp (sp : SpA) : Sp := fun vs H Q _ => ∃ M S as P, SH M S H ∧ AVs M S H as vs ∧ sp as S P ∧ Wk M P S H Q
structure Got (P : Program) (w : World) (K : PySem.W.Frag) (mg : Str → Option Value) (base : Heap) (k : Nat) (ps : List Str) (x : Str) (st : Stmt) (f : Addr) (sp : SpA) : Prop where
  ex : ∃ fd, FnOk P w K mg base CX0 k f fd ps (liftSp sp) ∧ Fun K x x st f fd ∧ Binds K fd ps []
  mg : mg x = some (.ref f)
def eCall (sp : SpA) (tl : TAA) : TEA := fun nv S P => tl nv S fun as S1 => sp as S1 P
theorem ea_call {k : Nat} {ps : List Str} {x : Str} {st : Stmt} {f : Addr} {sp : SpA} {p : Pos} (G : Got X.prog X.w X.K X.mg X.base k ps x st f sp) (hr : Room k X.A) (ha : LA X (e :: es) tl) (hg : Gl X x := by rfl)
    (hdb : (x == ("__debug__" : Str)) = false := by decide) (he : starEach (e :: es) X.env = (false, eval e X.env) :: starEach es X.env := by rfl) (hpl : (backTo pos (starEach es X.env)).any (·.1) = false := by rfl) :
    EA X (.Call (.Name x p) (e :: es) [] pos) (eCall sp tl) := by
  obtain ⟨fd, F, F2, hb⟩ := G.ex
  obtain ⟨t, p, kk⟩ := ha
  refine ⟨_, pe_call F hr hg G.mg F2.kp hb .nil pass0 p hdb he hpl, fun M σ H nv S P Q r h w => ?_⟩
  refine kk M σ H nv S _ _ r h fun as S1 vs H1 n q e s av => ?_
  rw [List.append_nil]
  exact ⟨M, S1, as, P, s, av, q, fun z S2 v2 H2 q2 e2 s2 a2 => w z S2 v2 H2 q2 (e.trans e2) s2 a2⟩
/-- a call by keywords alone: ord puts them in the parameters' order -/
structure KA (X : Cx) (n : Nat) (kws : List Keyword) (te : TAA) : Prop where
  ex : ∃ t, PK X kws t ∧ LR n t te
theorem ka_nil : KA X 0 [] lNil := ⟨_, pk_nil, fun M σ H nv S P Q r h w => w [] S [] H rfl h .refl r.sh rfl⟩
theorem ka_cons {n : Nat} {kws : List Keyword} {nm : Option Str} {kpos : Pos} {tr : TAA} (ha : EA X e ta) (hr : KA X n kws tr) : KA X (n + 1) (⟨nm, e, kpos⟩ :: kws) (lCons ta tr) := by
  obtain ⟨t, p, k⟩ := ha
  obtain ⟨u, p2, k2⟩ := hr
  refine ⟨_, pk_cons p p2, fun M σ H nv S P Q r h w => ?_⟩
  refine k M σ H nv S _ _ r h fun x S1 v H1 q e s av => ?_
  refine k2 M σ H1 nv S1 _ _ (r.up e s) q fun as S2 vs H2 n q2 e2 s2 a2 => ?_
  exact w (x :: as) S2 (v :: vs) H2 (by rw [List.length_cons, n]) q2 (e.trans e2) s2 ⟨v, vs, rfl, av.up e2, a2⟩
/-! ### built-in calls -/
abbrev RAC := List A → Sto → (A → Sto → Prop) → Prop
def CallX (X : Cx) (f : Value) (rc : RAC) : Prop := ∃ r, CallR X f r ∧ ∀ M S H as vs P Q, SH M S H → AVs M S H as vs → rc as S P → Wk M P S H Q → r vs H Q
theorem ea_callB {id : String} {rc : RAC} {x : Str} {p : Pos} (hc : CallX X (.builtin id) rc) (hm : X.mg x = none) (ha : LA X (e :: es) tl) (hv : bootBuiltins x = some (.builtin id) := by decide +kernel) (hg : Gl X x := by rfl) (hn : x ≠ "__name__" := by decide) (hdb : (x == ("__debug__" : Str)) = false := by decide)
    (he : starEach (e :: es) X.env = (false, eval e X.env) :: starEach es X.env := by rfl) (hpl : (backTo pos (starEach es X.env)).any (·.1) = false := by rfl) : EA X (.Call (.Name x p) (e :: es) [] pos) (eCall rc tl) := by
  obtain ⟨r, h1, h2⟩ := hc
  obtain ⟨t, p, kk⟩ := ha
  refine ⟨_, pe_callB h1 hg hm hv p hn hdb he hpl, fun M σ H nv S P Q r h w => ?_⟩
  refine kk M σ H nv S _ _ r h fun as S1 vs H1 n q e s av => ?_
  exact h2 M S1 H1 as vs P Q s av q fun z S2 v2 H2 q2 e2 s2 a2 => w z S2 v2 H2 q2 (e.trans e2) s2 a2
theorem ea_callTy {T : String} {rc : RAC} {x : Str} {p : Pos} (hc : CallX X (.type T) rc) (hm : X.mg x = none) (ha : LA X (e :: es) tl) (hv : bootBuiltins x = some (.type T) := by decide +kernel) (hg : Gl X x := by rfl) (hn : x ≠ "__name__" := by decide) (hdb : (x == ("__debug__" : Str)) = false := by decide)
    (he : starEach (e :: es) X.env = (false, eval e X.env) :: starEach es X.env := by rfl) (hpl : (backTo pos (starEach es X.env)).any (·.1) = false := by rfl) : EA X (.Call (.Name x p) (e :: es) [] pos) (eCall rc tl) := by
  obtain ⟨r, h1, h2⟩ := hc
  obtain ⟨t, p, kk⟩ := ha
  refine ⟨_, pe_callTy h1 hg hm hv p hn hdb he hpl, fun M σ H nv S P Q r h w => ?_⟩
  refine kk M σ H nv S _ _ r h fun as S1 vs H1 n q e s av => ?_
  exact h2 M S1 H1 as vs P Q s av q fun z S2 v2 H2 q2 e2 s2 a2 => w z S2 v2 H2 q2 (e.trans e2) s2 a2
def rLenA : RAC := fun as S P => match as with
  | [.str s] => s.length ≤ sizeLine ∧ P (.int s.length) S
  | [.tup xs] => P (.int xs.length) S
  | [x] => ∃ xs, lstr S x = some xs ∧ P (.int xs.length) S
  | _ => False
theorem cx_len : CallX X (.builtin "len") rLenA := by
  refine ⟨_, call_len, fun M S H as vs P Q s av q k => ?_⟩
  unfold rLenA at q
  split at q
  · rename_i z
    obtain ⟨v, r, e1, e2, e3⟩ := av
    cases (show v = _ from e2)
    cases (show r = _ from e3)
    exact ⟨_, _, e1, ⟨q.1, rfl⟩, k.same s q.2 rfl⟩
  · rename_i xs
    obtain ⟨v, r, e1, ⟨p, vs, h1, h2, h3, h4, h5⟩, e3⟩ := av
    cases (show r = _ from e3)
    refine ⟨_, vs.length, e1, ?_, k.same s q (by rw [h5.len]; rfl)⟩
    rw [h1]
    exact .inr ⟨vs, SqT.of h4, rfl⟩
  · rename_i x _ _
    obtain ⟨v, r, e1, e2, e3⟩ := av
    cases (show r = _ from e3)
    obtain ⟨xs, q1, q2⟩ := q
    obtain ⟨p, ws, h1, h2, h3⟩ := lstr_ok s e2 q1
    refine ⟨_, ws.length, e1, ?_, k.same s q2 (by rw [h3.len]; rfl)⟩
    rw [h1]
    exact .inl ⟨ws, .inl h2, rfl⟩
  · exact q.elim
theorem avs1 {M : Msk} {S : Sto} {H : Hp} {x : A} {vs : List V} (a : AVs M S H [x] vs) : ∃ v, vs = [v] ∧ AV M S H x v := by
  obtain ⟨v, r, e1, e2, e3⟩ := a
  cases (show r = _ from e3)
  exact ⟨v, e1, e2⟩
theorem avs2 {M : Msk} {S : Sto} {H : Hp} {x y : A} {vs : List V} (a : AVs M S H [x, y] vs) : ∃ v w, vs = [v, w] ∧ AV M S H x v ∧ AV M S H y w := by
  obtain ⟨v, r, e1, e2, e3⟩ := a
  obtain ⟨w, rfl, e4⟩ := avs1 e3
  exact ⟨v, w, e1, e2, e4⟩
def rAbsA : RAC := fun as S P => match as with
  | [.int i] => P (.int (i.natAbs : Int)) S
  | _ => False
theorem cx_abs : CallX X (.builtin "abs") rAbsA := by
  refine ⟨_, call_abs, fun M S H as vs P Q s av q k => ?_⟩
  unfold rAbsA at q
  split at q
  · rename_i i
    obtain ⟨v, rfl, e2⟩ := avs1 av
    refine ⟨i, by rw [show v = _ from e2], k.same s q ?_⟩
    show V.int _ = V.int _
    congr 1
    split <;> omega
  · exact q.elim
def rMax2A : RAC := fun as S P => match as with
  | [.int i, .int j] => P (.int (max i j)) S
  | _ => False
theorem cx_max2 (hc : X.calm = true := by rfl) : CallX X (.builtin "max") rMax2A := by
  refine ⟨_, call_max2 hc, fun M S H as vs P Q s av q k => ?_⟩
  unfold rMax2A at q
  split at q
  · rename_i i j
    obtain ⟨v, w, rfl, e2, e3⟩ := avs2 av
    refine ⟨i, j, by rw [show v = _ from e2, show w = _ from e3], k.same s q ?_⟩
    show V.int _ = V.int _
    congr 1
    split <;> omega
  · exact q.elim
def rMin2A : RAC := fun as S P => match as with
  | [.int i, .int j] => P (.int (min i j)) S
  | _ => False
theorem cx_min2 (hc : X.calm = true := by rfl) : CallX X (.builtin "min") rMin2A := by
  refine ⟨_, call_min2 hc, fun M S H as vs P Q s av q k => ?_⟩
  unfold rMin2A at q
  split at q
  · rename_i i j
    obtain ⟨v, w, rfl, e2, e3⟩ := avs2 av
    refine ⟨i, j, by rw [show v = _ from e2, show w = _ from e3], k.same s q ?_⟩
    show V.int _ = V.int _
    congr 1
    split <;> omega
  · exact q.elim
def rIntA : RAC := fun as S P => match as with
  | [.int i] => P (.int i) S
  | _ => False
theorem cx_int : CallX X (.type "int") rIntA := by
  refine ⟨_, call_int1, fun M S H as vs P Q s av q k => ?_⟩
  unfold rIntA at q
  split at q
  · rename_i i
    obtain ⟨v, rfl, e2⟩ := avs1 av
    exact .inl ⟨i, by rw [show v = _ from e2], k.same s q rfl⟩
  · exact q.elim
theorem avs_ints {M : Msk} {S : Sto} {H : Hp} : ∀ {ns : List Int} {vs : List V}, AVs M S H (ns.map .int) vs → vs = ns.map .int
  | [], _, h => h
  | n :: ns, _, ⟨v, r, h1, h2, h3⟩ => by rw [h1, avs_ints h3, show v = _ from h2]; rfl
def rSumA : RAC := fun as S P => match as with
  | [x] => ∃ ns : List Int, lstr S x = some (ns.map .int) ∧ P (.int ns.sum) S
  | _ => False
theorem cx_sum (hc : X.calm = true := by rfl) : CallX X (.builtin "sum") rSumA := by
  refine ⟨_, cr_sum hc, fun M S H as vs P Q s av q k => ?_⟩
  unfold rSumA at q
  split at q
  · obtain ⟨v, rfl, e2⟩ := avs1 av
    obtain ⟨ns, q1, q2⟩ := q
    obtain ⟨p, ws, h1, h2, h3⟩ := lstr_ok s e2 q1
    rw [avs_ints h3] at h2
    exact ⟨p, ns, by rw [h1], .inl h2, k.same s q2 rfl⟩
  · exact q.elim
/-! ### isinstance -/
/-- the built-in type's name -/
def tyN (S : Sto) : A → Option String
  | .non => some "NoneType"
  | .bl _ => some "bool"
  | .int _ => some "int"
  | .str _ => some "str"
  | .lst _ => some "list"
  | .tup _ => some "tuple"
  | .ref p => match S p with
    | some (.lst _) => some "list"
    | some (.frz _) => some "list"
    | _ => none
  | .ty _ => none
theorem tyN_ok {K : PySem.W.Frag} {M : Msk} {S : Sto} {H : Hp} {x : A} {u : V} {n : String} (s : SH M S H) (a : AV M S H x u) (h : tyN S x = some n) : TyX K H u (.type n) := by
  cases x with
  | non => cases h; rw [show u = _ from a]; exact .base .non
  | bl b => cases h; rw [show u = _ from a]; exact .base (.bl b)
  | int b => cases h; rw [show u = _ from a]; exact .base (.int b)
  | str b => cases h; rw [show u = _ from a]; exact .base (.str b)
  | lst xs =>
    cases h
    obtain ⟨p, vs, h1, h2, h3, h4, h5⟩ := a
    rw [h1]
    exact .base (.lst h4)
  | tup xs =>
    cases h
    obtain ⟨p, vs, h1, h2, h3, h4, h5⟩ := a
    rw [h1]
    exact .base (.tup h4)
  | ref p =>
    unfold tyN at h
    dsimp only at h
    split at h
    · rename_i ys q
      cases h
      obtain ⟨vs, h1, h2⟩ := (s.cell p _ q).2
      rw [show u = _ from a]
      exact .base (.lst h1)
    · rename_i ys q
      cases h
      obtain ⟨o, vs, h1, h2⟩ := (s.cell p _ q).2
      rw [show u = _ from a]
      exact .base (.frz h1)
    · cases h
  | ty _ => cases h
def isTyS (a n : String) : Bool := a == n || (a == "bool" && n == "int")
def rIsiA : RAC := fun as S P => match as with
  | [x, .ty n] => ∃ t b, tyN S x = some t ∧ kitB t n = some b ∧ P (.bl b) S
  | _ => False
theorem cx_isi : CallX X (.builtin "isinstance") rIsiA := by
  refine ⟨_, call_isi, fun M S H as vs P Q s av q k => ?_⟩
  unfold rIsiA at q
  split at q
  · rename_i x n
    obtain ⟨v, w, rfl, e2, e3⟩ := avs2 av
    obtain ⟨t, b, q1, q2, q3⟩ := q
    exact ⟨v, .ty n, _, _, b, by rw [show w = _ from e3], .ty n, tyN_ok s e2 q1, kit_ty q2, k.same s q3 rfl⟩
  · exact q.elim
/-- the built-in classes in a tuple -/
def kitBs (t : String) : List A → Option Bool
  | [] => some false
  | .ty n :: r => match kitB t n, kitBs t r with
    | some b, some c => some (b || c)
    | _, _ => none
  | _ :: _ => none
theorem kitBs_ok {K : PySem.W.Frag} {M : Msk} {S : Sto} {H : Hp} {t : String} : ∀ {cs : List A} {vs : List V} {b : Bool}, AVs M S H cs vs → kitBs t cs = some b → ∃ us, Paired ClsV vs us ∧ PySem.W.kitAny K (.type t) us = some b
  | [], _, b, h, e => by
    cases e
    rw [show _ = _ from h]
    exact ⟨[], .nil, rfl⟩
  | .ty n :: r, _, b, ⟨v, w, h1, h2, h3⟩, e => by
    cases (show v = _ from h2)
    unfold kitBs at e
    split at e
    · rename_i c d e1 e2
      cases e
      obtain ⟨us, g1, g2⟩ := kitBs_ok h3 e2
      rw [h1]
      refine ⟨_, .cons (.ty n) g1, kitAny_cons (kit_ty e1) (fun z => by rw [z]; exact g2) (fun z => by rw [z]; rfl)⟩
    · cases e
  | .non :: _, _, _, _, e => by cases e
  | .bl _ :: _, _, _, _, e => by cases e
  | .int _ :: _, _, _, _, e => by cases e
  | .str _ :: _, _, _, _, e => by cases e
  | .lst _ :: _, _, _, _, e => by cases e
  | .tup _ :: _, _, _, _, e => by cases e
  | .ref _ :: _, _, _, _, e => by cases e
def rIsiTA : RAC := fun as S P => match as with
  | [x, .tup cs] => ∃ t b, tyN S x = some t ∧ kitBs t cs = some b ∧ P (.bl b) S
  | _ => False
theorem cx_isiT : CallX X (.builtin "isinstance") rIsiTA := by
  refine ⟨_, call_isiT, fun M S H as vs P Q s av q k => ?_⟩
  unfold rIsiTA at q
  split at q
  · rename_i x cs
    obtain ⟨v, w, rfl, e2, p, ws, e3, _, _, e4, e5⟩ := avs2 av
    obtain ⟨t, b, q1, q2, q3⟩ := q
    obtain ⟨us, g1, g2⟩ := kitBs_ok (K := X.K) e5 q2
    exact ⟨v, p, ws, _, us, b, by rw [e3], e4, g1, tyN_ok s e2 q1, g2, k.same s q3 rfl⟩
  · exact q.elim
/-! ### x.bit_length() -/
def eBits (te : TEA) : TEA := fun nv S P => te nv S fun x S1 => match x with
  | .int i => P (.int (Builtin.Int.intBits i : Nat)) S1
  | _ => False
theorem ea_bits {apos : Pos} (h : EA X e ta) (hbase : attributeBase e "bit_length" X.env (eval e X.env) = eval e X.env := by rfl) (hline : (apos.endLine == pos.line) = true := by rfl) : EA X (.Call (.Attribute e "bit_length" apos) [] [] pos) (eBits ta) := by
  obtain ⟨t, p, k⟩ := h
  refine ⟨_, pe_bits p hbase hline, fun M σ H nv S P Q r h w => ?_⟩
  refine k M σ H nv S _ _ r h fun x S1 v H1 q e s av => ?_
  try dsimp only at q
  split at q
  · exact ⟨_, av, w _ S1 _ H1 q e s rfl⟩
  · exact q.elim
end

/-! ### statements -/
structure Ea where
  nx : Nv → Sto → Prop
  rt : A → Sto → Prop
  bk : Nv → Sto → Prop := fun _ _ => False
  ct : Nv → Sto → Prop := fun _ _ => False
  /-- an exception: the names, its class, its value -/
  ex : Nv → Addr → A → Sto → Prop := fun _ _ _ _ => False
abbrev TSA := Ea → Nv → Sto → Prop
def Lk (M : Msk) (S : Sto) (H : Hp) (p : Nv → Sto → Prop) (q : L2.St → Hp → Prop) : Prop := ∀ nv' S' σ' H', p nv' S' → Ext S H S' H' → Rl M S' H' σ' nv' → q σ' H'
structure Link (M : Msk) (S : Sto) (H : Hp) (D : Ea) (D' : Ends) : Prop where
  nx : Lk M S H D.nx D'.nx
  rt : Wk M D.rt S H D'.rt
  bk : Lk M S H D.bk D'.bk
  ct : Lk M S H D.ct D'.ct
theorem Lk.up {M : Msk} {S S' : Sto} {H H' : Hp} {p : Nv → Sto → Prop} {q : L2.St → Hp → Prop} (h : Lk M S H p q) (e : Ext S H S' H') : Lk M S' H' p q := fun nv2 S2 σ2 H2 a b c => h nv2 S2 σ2 H2 a (e.trans b) c
theorem Wk.up {M : Msk} {S S' : Sto} {H H' : Hp} {P : A → Sto → Prop} {Q : VK} (h : Wk M P S H Q) (e : Ext S H S' H') : Wk M P S' H' Q := fun z S2 v H2 a b c d => h z S2 v H2 a (e.trans b) c d
theorem Link.up {M : Msk} {S S' : Sto} {H H' : Hp} {D : Ea} {D' : Ends} (l : Link M S H D D') (e : Ext S H S' H') : Link M S' H' D D' := ⟨l.nx.up e, l.rt.up e, l.bk.up e, l.ct.up e⟩
def SR (t : TS) (ts : TSA) : Prop := ∀ M σ H nv S D D', Rl M S H σ nv → ts D nv S → Link M S H D D' → t D' σ H
structure SA (X : Cx) (st : Stmt) (ts : TSA) : Prop where
  ex : ∃ t, PS X st t ∧ SR t ts
structure SB (X : Cx) (st : List Stmt) (ts : TSA) : Prop where
  ex : ∃ t, PSs X st t ∧ SR t ts
section
variable {X : Cx} {st : Stmt} {rest body els : List Stmt} {t u : TSA} {e c : Expr} {te : TEA} {tc : TTA} {pos : Pos}
def sNil : TSA := fun D nv S => D.nx nv S
def sSeq (t u : TSA) : TSA := fun D nv S => t { D with nx := u D } nv S
theorem sb_nil : SB X [] sNil := ⟨_, pss_nil, fun M σ H nv S D D' r h l => l.nx nv S σ H h .refl r⟩
theorem sb_cons (h1 : SA X st t) (h2 : SB X rest u) : SB X (st :: rest) (sSeq t u) := by
  obtain ⟨t1, p1, k1⟩ := h1
  obtain ⟨t2, p2, k2⟩ := h2
  refine ⟨_, pss_cons p1 p2, fun M σ H nv S D D' r h l => ?_⟩
  exact k1 M σ H nv S _ _ r h ⟨fun nv' S' σ' H' q e r' => k2 M σ' H' nv' S' D D' r' q (l.up e), l.rt, l.bk, l.ct⟩
theorem sb_one (h1 : SA X st t) : SB X [st] t := by
  obtain ⟨t1, p1, k1⟩ := h1
  exact ⟨_, pss_one p1, k1⟩
def sDrop (te : TEA) : TSA := fun D nv S => te nv S fun _ S1 => D.nx nv S1
theorem sa_expr (he : EA X e te) (hs : swapsWith e none pos.line X.env = pure false := by rfl) : SA X (.Expr e pos) (sDrop te) := by
  obtain ⟨t1, p1, k1⟩ := he
  exact ⟨_, ps_expr p1 hs, fun M σ H nv S D D' r h l => k1 M σ H nv S _ _ r h fun a S' v H' q e s av => l.nx nv S' σ H' q e (r.up e s)⟩
def sRet (te : TEA) : TSA := fun D nv S => te nv S D.rt
theorem sa_ret (he : EA X e te) : SA X (.Return (some e) pos) (sRet te) := by
  obtain ⟨t1, p1, k1⟩ := he
  exact ⟨_, ps_ret p1, fun M σ H nv S D D' r h l => k1 M σ H nv S _ _ r h l.rt⟩
def sRetN : TSA := fun D _ S => D.rt .non S
theorem sa_retN : SA X (.Return none pos) sRetN := ⟨_, ps_retN, fun M σ H nv S D D' r h l => l.rt _ S _ H h .refl r.sh rfl⟩
def sIf (c : TTA) (t u : TSA) : TSA := fun D nv S => c nv S fun b S1 => bsel b (t D nv S1) (u D nv S1)
theorem sa_if (hc : TA' X c tc) (ha : SB X body t) (hb : SB X els u) : SA X (.If c body els pos) (sIf tc t u) := by
  obtain ⟨t0, p0, k0⟩ := hc
  obtain ⟨t1, p1, k1⟩ := ha
  obtain ⟨t2, p2, k2⟩ := hb
  refine ⟨_, ps_if p0 p1 p2, fun M σ H nv S D D' r h l => ?_⟩
  refine k0 M σ H nv S _ _ r h fun b S1 H1 q e s => bsel_if ?_
  cases b with
  | true => exact k1 M σ H1 nv S1 D D' (r.up e s) q (l.up e)
  | false => exact k2 M σ H1 nv S1 D D' (r.up e s) q (l.up e)
theorem sa_pass : SA X (.Pass pos) sNil := ⟨_, ps_pass, fun M σ H nv S D D' r h l => l.nx nv S σ H h .refl r⟩
def sBrk : TSA := fun D nv S => D.bk nv S
def sCont : TSA := fun D nv S => D.ct nv S
theorem sa_break : SA X (.Break pos) sBrk := ⟨_, ps_break, fun M σ H nv S D D' r h l => l.bk nv S σ H h .refl r⟩
theorem sa_cont : SA X (.Continue pos) sCont := ⟨_, ps_continue, fun M σ H nv S D D' r h l => l.ct nv S σ H h .refl r⟩
/-! ### names stored -/
def sSet (i : Nat) (te : TEA) : TSA := fun D nv S => te nv S fun a S1 => D.nx (nv.set i (some a)) S1
theorem sa_set (i : Nat) {x : Str} {pos' : Pos} (hN : X.N.Nodup) (he : EA X e te) (hi : X.N[i]? = some x := by rfl) (hx : Loc X.env.scope x := by first | exact .inl rfl | exact .inr rfl) (hs : swapsWith e (some (.Name x pos')) pos.line X.env = pure false := by rfl)
    (hf : X.fn x = true ∨ X.env.scope.names.lookup x = some .local := by first | exact .inl rfl | exact .inr rfl) : SA X (.Assign [.Name x pos'] e pos) (sSet i te) := by
  obtain ⟨t1, p1, k1⟩ := he
  exact ⟨_, ps_set hN hi hx p1 hs hf, fun M σ H nv S D D' r h l => k1 M σ H nv S _ _ r h fun a S' v H' q e s av => l.nx _ S' _ H' q e ((r.up e s).set i av)⟩
/-- a, b = x, y -/
def sPar (i j : Nat) (tl : TAA) : TSA := fun D nv S => tl nv S fun as S1 => match as with
  | [x, y] => D.nx ((nv.set i (some x)).set j (some y)) S1
  | _ => False
theorem sa_par (i j : Nat) {x y : Str} {a b : Expr} {tl : TAA} {px py pt : Pos} {kt k2 pt2} (hN : X.N.Nodup) (ha : LA X [a, b] tl) (hc : X.calm = true := by rfl) (hi : X.N[i]? = some x := by rfl) (hj : X.N[j]? = some y := by rfl) (hij : i ≠ j := by decide)
    (hx : X.env.scope.names.lookup x = some .local := by rfl) (hy : X.env.scope.names.lookup y = some .local := by rfl)
    (hw : swappedStores [.Tuple [.Name x px, .Name y py] kt pt] (.Tuple [a, b] k2 pt2) X.env = pure (some [x, y]) := by rfl)
    (hs : swapsWithSole [.Tuple [.Name x px, .Name y py] kt pt] (.Tuple [a, b] k2 pt2) pos.line X.env = pure false := by rfl) :
    SA X (.Assign [.Tuple [.Name x px, .Name y py] kt pt] (.Tuple [a, b] k2 pt2) pos) (sPar i j tl) := by
  obtain ⟨t1, p1, k1⟩ := ha
  refine ⟨_, ps_par hc hN hi hj hij hx hy p1 hw hs, fun M σ H nv S D D' r h l => ?_⟩
  refine k1 M σ H nv S _ _ r h fun as S' vs H' n q e s av => ?_
  try dsimp only at q
  split at q
  · obtain ⟨v, w, rfl, a1, a2⟩ := avs2 av
    exact ⟨v, w, rfl, l.nx _ S' _ H' q e (((r.up e s).set i a1).set j a2)⟩
  · exact q.elim
/-! ### a list of the store changed -/
/-- xs[i] = e -/
def sSetL (te ta tb : TEA) : TSA := fun D nv S => te nv S fun z S1 => ta nv S1 fun x S2 => tb nv S2 fun y S3 => match x, y with
  | .ref p, .int i => ∃ xs j, S3 p = some (.lst xs) ∧ ixN xs.length i = some j ∧ D.nx nv (sup S3 p (.lst (xs.set j z)))
  | _, _ => False
theorem sa_setL {a b : Expr} {ta tb : TEA} {p3 : Pos} (he : EA X e te) (ha : EA X a ta) (hb : EA X b tb)
    (hs : swapsWithSole [.Subscript a b p3] e pos.line X.env = pure false := by rfl) (hw : swappedStores [.Subscript a b p3] e X.env = pure none := by rfl)
    (h1 : (assignEach [.Subscript a b p3] X.env).map (·.2) = [assign (.Subscript a b p3) X.env] := by rfl)
    (hsub : ∀ v, assign (.Subscript a b p3) X.env v = (do
      let ov ← holding [v] (eval a X.env)
      let iv ← holding [v, ov] (eval b X.env)
      standAt p3
      holding [v, ov, iv] (setItem ov iv v)
      release [v, ov, iv] []) := by intro _; rfl) : SA X (.Assign [.Subscript a b p3] e pos) (sSetL te ta tb) := by
  obtain ⟨t1, p1, k1⟩ := he
  obtain ⟨t2, p2, k2⟩ := ha
  obtain ⟨t3, p3', k3⟩ := hb
  refine ⟨_, ps_asg p1 (pg_sub p2 p3' set_list hsub) hs hw h1, fun M σ H nv S D D' r h l => ?_⟩
  refine k1 M σ H nv S _ _ r h fun z S1 v1 H1 q1 e1 s1 a1 => ?_
  refine k2 M σ H1 nv S1 _ _ (r.up e1 s1) q1 fun x S2 v2 H2 q2 e2 s2 a2 => ?_
  refine k3 M σ H2 nv S2 _ _ ((r.up e1 s1).up e2 s2) q2 fun y S3 v3 H3 q3 e3 s3 a3 => ?_
  have a1' := (a1.up e2).up e3
  have a2' := a2.up e3
  have r3 := ((r.up e1 s1).up e2 s2).up e3 s3
  try dsimp only at q3
  split at q3
  · rename_i p i
    obtain ⟨xs, j, g1, g2, g3⟩ := q3
    obtain ⟨vs, c1, c2⟩ := (s3.cell p _ g1).2
    obtain ⟨e4, s4⟩ := s3.put g1 (o := .lst (vs.set j v1)) (c := .lst (xs.set j z)) fun S' H' e hh => ⟨_, hh, (c2.up e).set j (a1'.up e)⟩
    exact ⟨p, vs, i, j, a2', a3, c1, by rw [c2.len]; exact g2, l.nx _ _ _ _ g3 (((e1.trans e2).trans e3).trans e4) (r3.up e4 s4)⟩
  · exact q3.elim
/-! ### while -/
def sWhile (c : TTA) (tb : TSA) : TSA := fun D nv S => ∃ W : Nat → Nv → Sto → Prop, (∃ m, W m nv S) ∧ ∀ m nv S, W m nv S →
  c nv S fun b S1 => bsel b (tb { D with nx := fun nv' S' => ∃ m', m' < m ∧ W m' nv' S', ct := fun nv' S' => ∃ m', m' < m ∧ W m' nv' S', bk := D.nx } nv S1) (D.nx nv S1)
theorem sa_while (hp : PassesOwn (model X.prog X.w) X.A X.env X.xe) (hc : TA' X c tc) (hb : SB X body t) : SA X (.While c body [] pos) (sWhile tc t) := by
  obtain ⟨t0, p0, k0⟩ := hc
  obtain ⟨t1, p1, k1⟩ := hb
  refine ⟨_, ps_while hp p0 p1, fun M σ H nv S D D' r h l => ?_⟩
  obtain ⟨W, ⟨m0, w0⟩, turn⟩ := h
  refine ⟨fun m σ' H' => ∃ nv' S', W m nv' S' ∧ Ext S H S' H' ∧ Rl M S' H' σ' nv', ⟨m0, nv, S, w0, .refl, r⟩, ?_⟩
  rintro m σ1 H1 ⟨nv1, S1, w1, e1, r1⟩
  refine k0 M σ1 H1 nv1 S1 _ _ r1 (turn m nv1 S1 w1) fun b S2 H2 q e2 s2 => bsel_if ?_
  cases b with
  | true =>
    refine ⟨fun σ' H' => ∃ m', m' < m ∧ ∃ nv' S', W m' nv' S' ∧ Ext S H S' H' ∧ Rl M S' H' σ' nv', fun σ' H' ⟨m', hm, z⟩ => ⟨m', hm, z⟩, ?_⟩
    refine k1 M σ1 H2 nv1 S2 _ _ (r1.up e2 s2) q ⟨fun nv' S' σ' H' ⟨m', hm, w'⟩ e r' => ⟨m', hm, nv', S', w', (e1.trans e2).trans e, r'⟩, l.rt.up (e1.trans e2), l.nx.up (e1.trans e2), fun nv' S' σ' H' ⟨m', hm, w'⟩ e r' => ⟨m', hm, nv', S', w', (e1.trans e2).trans e, r'⟩⟩
  | false => exact l.nx _ _ _ _ q (e1.trans e2) (r1.up e2 s2)
end
end Lay

namespace Lay
open PySem L2 PyProof.Rows
/-! ### the canonical readings -/
def cE (te : TEA) : TE := fun σ H Q => ∃ M nv S P, Rl M S H σ nv ∧ te nv S P ∧ Wk M P S H Q
def cT (te : TTA) : TT := fun σ H Q => ∃ M nv S P, Rl M S H σ nv ∧ te nv S P ∧ Wb M P S H Q
theorem EA.pe {X : Cx} {e : Expr} {te : TEA} (h : EA X e te) : PE X e (cE te) := by
  obtain ⟨t, p, k⟩ := h
  exact ⟨fun pins s σ H Q I ⟨M, nv, S, P, r, q, w⟩ => p.run pins s σ H Q I (k M σ H nv S P Q r q w)⟩
theorem TA'.pt {X : Cx} {e : Expr} {te : TTA} (h : TA' X e te) : PT X e (cT te) := by
  obtain ⟨t, p, k⟩ := h
  exact ⟨fun pins s σ H Q I ⟨M, nv, S, P, r, q, w⟩ => p.run pins s σ H Q I (k M σ H nv S P Q r q w)⟩
/-! ### wiped slots -/
def wipeN (nv : Nv) : List Nat → Nv
  | [] => nv
  | v :: vs => (wipeN nv vs).set v none
theorem wipe_set {σ : L2.St} {j : Nat} {x : Option V} : ∀ {vs : List Nat}, j ∈ vs → wipe (σ.set j x) vs = wipe σ vs
  | [], h => by cases h
  | v :: vs, h => by
    unfold wipe
    by_cases hj : j ∈ vs
    · rw [wipe_set hj]
    · have e : j = v := by
        rcases List.mem_cons.mp h with e | e
        · exact e
        · exact absurd e hj
      subst e
      have key : ∀ ws : List Nat, (wipe (σ.set j x) ws).set j none = (wipe σ ws).set j none := fun ws => by
        induction ws with
        | nil => unfold wipe; rw [List.set_set]
        | cons w ws ih =>
          unfold wipe
          by_cases hw : w = j
          · rw [hw, List.set_set, List.set_set]
            exact ih
          · rw [List.set_comm _ _ hw, List.set_comm _ _ hw, ih]
      exact key vs
theorem wipe_none {σ : L2.St} {j : Nat} : ∀ {vs : List Nat}, j ∈ vs → j < σ.length → (wipe σ vs)[j]? = some none
  | [], h, _ => by cases h
  | v :: vs, h, hl => by
    unfold wipe
    by_cases hj : v = j
    · rw [hj, List.getElem?_set_self (by rw [wipe_length]; exact hl)]
    · rw [List.getElem?_set_ne hj]
      rcases List.mem_cons.mp h with e | e
      · exact absurd e.symm hj
      · exact wipe_none e hl
theorem set_same {α : Type} : ∀ {l : List α} {j : Nat} {x : α}, l[j]? = some x → l.set j x = l
  | [], _, _, _ => rfl
  | a :: r, 0, x, h => by
    have e : a = x := Option.some.inj h
    rw [e]
    rfl
  | a :: r, j + 1, x, h => by
    show a :: r.set j x = a :: r
    rw [set_same (l := r) (j := j) (by simpa using h)]
theorem wipe_wipe (σ : L2.St) : ∀ (ws vs : List Nat), (∀ w ∈ ws, w ∈ vs) → wipe (wipe σ vs) ws = wipe σ vs
  | [], _, _ => rfl
  | w :: ws, vs, h => by
    have e := wipe_wipe σ ws vs fun x hx => h x (List.mem_cons_of_mem _ hx)
    show (wipe (wipe σ vs) ws).set w none = wipe σ vs
    rw [e]
    by_cases hl : w < σ.length
    · exact set_same (wipe_none (h w (List.mem_cons_self)) hl)
    · rw [List.set_eq_of_length_le (by rw [wipe_length]; omega)]
theorem Rl.wipe {M : Msk} {S : Sto} {H : Hp} {σ : L2.St} {nv : Nv} (r : Rl M S H σ nv) : ∀ vs : List Nat, Rl M S H (wipe σ vs) (wipeN nv vs)
  | [] => r
  | v :: vs => by
    have ih := Rl.wipe r vs
    refine ⟨r.sh, by unfold L2.wipe wipeN; rw [List.length_set, List.length_set]; exact ih.len, fun i a q => ?_⟩
    unfold wipeN at q
    unfold L2.wipe
    by_cases hi : v = i
    · subst hi
      by_cases hl : v < (wipeN nv vs).length
      · rw [List.getElem?_set_self hl] at q
        cases q
      · rw [List.getElem?_eq_none (by rw [List.length_set]; omega)] at q
        cases q
    · rw [List.getElem?_set_ne hi] at q
      rw [List.getElem?_set_ne hi]
      exact ih.at_ i a q
/-! ### targets -/
abbrev TGA := A → Nv → Sto → (Nv → Sto → Prop) → Prop
abbrev TGsA := List A → Nv → Sto → (Nv → Sto → Prop) → Prop
def Wg (js : List Nat) (M : Msk) (S : Sto) (H : Hp) (σ : L2.St) (P : Nv → Sto → Prop) (Q : L2.St → Hp → Prop) : Prop :=
  ∀ nv' S' σ' H', P nv' S' → Ext S H S' H' → Rl M S' H' σ' nv' → (∀ vs : List Nat, (∀ j ∈ js, j ∈ vs) → wipe σ' vs = wipe σ vs) → Q σ' H'
def GR (js : List Nat) (t : TG) (g : TGA) : Prop := ∀ M σ H nv S a v P Q, Rl M S H σ nv → AV M S H a v → g a nv S P → Wg js M S H σ P Q → t v σ H Q
def GsR (js : List Nat) (t : TGs) (g : TGsA) : Prop := ∀ M σ H nv S as vs P Q, Rl M S H σ nv → AVs M S H as vs → g as nv S P → Wg js M S H σ P Q → t vs σ H Q
structure GA (X : Cx) (tg : Expr) (js : List Nat) (g : TGA) : Prop where
  ex : ∃ t, PG X tg t ∧ GR js t g
structure GsA (X : Cx) (tg : List Expr) (js : List Nat) (g : TGsA) : Prop where
  ex : ∃ t, PGs X tg t ∧ GsR js t g
def cG (js : List Nat) (g : TGA) : TG := fun v σ H Q => ∃ M nv S a P, Rl M S H σ nv ∧ AV M S H a v ∧ g a nv S P ∧ Wg js M S H σ P Q
theorem GA.pg {X : Cx} {tg : Expr} {js : List Nat} {g : TGA} (h : GA X tg js g) : PG X tg (cG js g) := by
  obtain ⟨t, p, k⟩ := h
  exact ⟨fun pins s σ H v u Q I rv ⟨M, nv, S, a, P, r, av, q, w⟩ => p.run pins s σ H v u Q I rv (k M σ H nv S a v P Q r av q w)⟩
section
variable {X : Cx} {pos : Pos}
def gNm (j : Nat) : TGA := fun a nv S P => P (nv.set j (some a)) S
theorem ga_name (j : Nat) {x : Str} (hN : X.N.Nodup) (hi : X.N[j]? = some x := by rfl) (hx : Loc X.env.scope x := by first | exact .inl rfl | exact .inr rfl) (hf : X.fn x = true ∨ X.env.scope.names.lookup x = some .local := by first | exact .inl rfl | exact .inr rfl) : GA X (.Name x pos) [j] (gNm j) :=
  ⟨_, pg_name hN hi hx hf, fun M σ H nv S a v P Q r av q w => w _ S _ H q .refl (r.set j av) fun vs h => wipe_set (h j (List.mem_singleton.mpr rfl))⟩
def gsNil : TGsA := fun as nv S P => match as with
  | [] => P nv S
  | _ => False
def gsCons (t : TGA) (u : TGsA) : TGsA := fun as nv S P => match as with
  | a :: r => t a nv S fun nv' S' => u r nv' S' P
  | _ => False
theorem gsa_nil : GsA X [] [] gsNil := ⟨_, pgs_nil, fun M σ H nv S as vs P Q r av q w => by
  cases as with
  | nil => exact ⟨av, w nv S σ H q .refl r fun _ _ => rfl⟩
  | cons _ _ => exact q.elim⟩
theorem gsa_cons {e : Expr} {es : List Expr} {j js : List Nat} {t : TGA} {u : TGsA} (h1 : GA X e j t) (h2 : GsA X es js u)
    (hs : (assignEach (e :: es) X.env).map (·.2) = assign e X.env :: (assignEach es X.env).map (·.2) := by rfl) : GsA X (e :: es) (j ++ js) (gsCons t u) := by
  obtain ⟨t1, p1, k1⟩ := h1
  obtain ⟨t2, p2, k2⟩ := h2
  refine ⟨_, pgs_cons p1 p2 hs, fun M σ H nv S as vs P Q r av q w => ?_⟩
  cases as with
  | nil => exact q.elim
  | cons a as =>
    obtain ⟨v, vr, e1, a1, a2⟩ := av
    refine ⟨v, vr, e1, k1 M σ H nv S a v _ _ r a1 q fun nv1 S1 σ1 H1 q1 e1 r1 z1 => ?_⟩
    refine k2 M σ1 H1 nv1 S1 as vr _ _ r1 (a2.up e1) q1 fun nv2 S2 σ2 H2 q2 e2 r2 z2 => ?_
    exact w nv2 S2 σ2 H2 q2 (e1.trans e2) r2 fun vs h => (z2 vs fun x hx => h x (List.mem_append_right _ hx)).trans (z1 vs fun x hx => h x (List.mem_append_left _ hx))
def gTp (n : Nat) (t : TGsA) : TGA := fun a nv S P => match a with
  | .tup xs => xs.length = n ∧ t xs nv S P
  | _ => False
theorem ga_tup {es : List Expr} {k : Nat} {js : List Nat} {t : TGsA} (n : Nat) (h : GsA X es js t) (hc : X.calm = true := by rfl) (hn : (assignEach es X.env).length = n := by rfl) (hst : (assignEach es X.env).findIdx? (·.1) = none := by rfl) : GA X (.Tuple es k pos) js (gTp n t) := by
  obtain ⟨t1, p1, k1⟩ := h
  refine ⟨_, pg_tup hc p1 hn hst, fun M σ H nv S a v P Q r av q w => ?_⟩
  unfold gTp at q
  split at q
  · obtain ⟨p, vs, h1, h2, h3, h4, h5⟩ := av
    exact ⟨p, vs, h1, SqT.of h4, by rw [h5.len]; exact q.1, k1 M σ H nv S _ vs P Q r h5 q.2 w⟩
  · exact q.elim
end
/-! ### what is walked: a known list of items; Kp: what has to stay so of the store -/
abbrev TIA := Nv → Sto → (List A → (Sto → Prop) → Sto → Prop) → Prop
structure Yl (M : Msk) (J : It) (Kp : Sto → Prop) (xs : List A) (S0 : Sto) (H0 : Hp) : Prop where
  y : ∀ (M' : Msk) S H, (∀ p o, H0 p = some o → ¬ M p → ¬ M' p) → Ext S0 H0 S H → SH M' S H → Kp S → ∀ i : Nat, (xs.length ≤ i → J.stop i H) ∧ ∀ a, xs[i]? = some a → J.go i H ∧ ∀ x H', J.yld i H x H' → Ext S H S H' ∧ SH M' S H' ∧ AV M' S H' a x
structure IA (X : Cx) (tg iter : Expr) (wi : TIA) : Prop where
  ex : ∃ w : TI, PI X tg iter w ∧ ∀ M σ H nv S P R, Rl M S H σ nv → wi nv S P → (∀ xs Kp S' H' J, P xs Kp S' → Ext S H S' H' → SH M S' H' → Yl M J Kp xs S' H' → R J H') → w σ H R
section
variable {X : Cx} {tg iter e a b : Expr} {te : TEA} {tl : TAA} {pos p : Pos}
def wList (te : TEA) : TIA := fun nv S P => te nv S fun x S1 => ∃ xs, lstr S1 x = some xs ∧ P xs (fun S' => lstr S' x = some xs) S1
theorem ia_list (h : EA X e te) : IA X tg e (wList te) := by
  obtain ⟨t, p, k⟩ := h
  refine ⟨_, pi_list p, fun M σ H nv S P R r q w => ?_⟩
  refine k M σ H nv S _ _ r q fun x S1 v H1 q1 e1 s1 av => ?_
  obtain ⟨xs, h1, h2⟩ := q1
  obtain ⟨a, vs, g1, g2, g3⟩ := lstr_ok s1 av h1
  refine ⟨a, g1, ⟨vs, .inl g2⟩, w xs _ S1 H1 _ h2 e1 s1 ⟨fun M' S' H' hm e s kp i => ?_⟩⟩
  have av' : AV M' S' H' x v := AV.mono ⟨fun b o hb sb mb => ⟨(e.keep b o hb sb).1, (e.keep b o hb sb).2, hm b o hb mb⟩⟩ x v av
  obtain ⟨a', vs', g1', g2', g3'⟩ := lstr_ok s av' kp
  have ea : a' = a := by
    rw [g1] at g1'
    exact (V.ref.inj g1').symm
  subst ea
  have hl := g3'.len
  refine ⟨fun hi => ⟨vs', .inl g2', by omega⟩, fun z hz => ?_⟩
  obtain ⟨v', f1, f2⟩ := g3'.get hz
  refine ⟨⟨vs', v', .inl g2', f1⟩, fun y H2 ⟨hh, hy⟩ => ?_⟩
  subst hh
  have ey := hy vs' (.inl g2')
  rw [f1] at ey
  cases ey
  exact ⟨.refl, s, f2⟩
def wTup (te : TEA) : TIA := fun nv S P => te nv S fun x S1 => match x with
  | .tup xs => P xs (fun _ => True) S1
  | _ => False
theorem ia_tup (h : EA X e te) : IA X tg e (wTup te) := by
  obtain ⟨t, p, k⟩ := h
  refine ⟨_, pi_tup p, fun M σ H nv S P R r q w => ?_⟩
  refine k M σ H nv S _ _ r q fun x S1 v H1 q1 e1 s1 av => ?_
  split at q1
  · rename_i xs
    obtain ⟨a, vs, h1, h2, h3, h4, h5⟩ := id av
    refine ⟨a, h1, ⟨vs, SqT.of h4⟩, w xs _ S1 H1 _ q1 e1 s1 ⟨fun M' S' H' hm e s kp i => ?_⟩⟩
    have av' : AV M' S' H' (.tup xs) v := AV.mono ⟨fun b o hb sb mb => ⟨(e.keep b o hb sb).1, (e.keep b o hb sb).2, hm b o hb mb⟩⟩ _ v av
    obtain ⟨a', vs', g1', g2', g3', g4', g5'⟩ := av'
    have ea : a' = a := by
      rw [h1] at g1'
      exact (V.ref.inj g1').symm
    subst ea
    have hl := g5'.len
    refine ⟨fun hi => ⟨vs', SqT.of g4', by omega⟩, fun z hz => ?_⟩
    obtain ⟨v', f1, f2⟩ := g5'.get hz
    refine ⟨⟨vs', v', SqT.of g4', f1⟩, fun y H2 ⟨hh, hy⟩ => ?_⟩
    subst hh
    have ey := hy vs' (SqT.of g4')
    rw [f1] at ey
    cases ey
    exact ⟨.refl, s, f2⟩
  · exact q1.elim
def rngA (lo : Int) (n : Nat) : List A := (List.range n).map fun i => .int (lo + (i : Nat))
theorem rngA_len (lo : Int) (n : Nat) : (rngA lo n).length = n := by unfold rngA; rw [List.length_map, List.length_range]
theorem rngA_get (lo : Int) (n i : Nat) (h : i < n) : (rngA lo n)[i]? = some (.int (lo + (i : Nat))) := by
  unfold rngA
  rw [List.getElem?_map, List.getElem?_range h]
  rfl
theorem rngA_at {lo : Int} {n i : Nat} {a : A} (h : (rngA lo n)[i]? = some a) : i < n ∧ a = .int (lo + (i : Nat)) := by
  have hi : i < n := by
    have := (List.getElem?_eq_some_iff.mp h).1
    rwa [rngA_len] at this
  rw [rngA_get lo n i hi] at h
  exact ⟨hi, (Option.some.inj h).symm⟩
theorem yl_rng (M : Msk) (lo : Int) (n : Nat) (S : Sto) (H : Hp) : Yl M (Itr lo n) (fun _ => True) (rngA lo n) S H := ⟨fun M' S' H' hm e s kp i => by
  rw [rngA_len]
  refine ⟨fun h => h, fun a ha => ?_⟩
  obtain ⟨h1, h2⟩ := rngA_at ha
  subst h2
  refine ⟨h1, fun x H2 ⟨hh, hx⟩ => ?_⟩
  subst hh hx
  exact ⟨.refl, s, rfl⟩⟩
def wRng1 (tl : TAA) : TIA := fun nv S P => tl nv S fun as S1 => match as with
  | [.int j] => (-(2 ^ 62) ≤ j ∧ j < 2 ^ 62) ∧ P (rngA 0 j.toNat) (fun _ => True) S1
  | _ => False
theorem ia_rng1 (hm : X.mg "range" = none) (ha : LA X [a] tl) (hg : Gl X "range" := by rfl) (hs : starEach [a] X.env = [(false, eval a X.env)] := by rfl) : IA X tg (.Call (.Name "range" p) [a] [] pos) (wRng1 tl) := by
  obtain ⟨t, p, k⟩ := ha
  refine ⟨_, pi_range1 hg hm p hs, fun M σ H nv S P R r q w => ?_⟩
  refine k M σ H nv S _ _ r q fun as S1 vs H1 n q1 e1 s1 av => ?_
  split at q1
  · rename_i j
    obtain ⟨v, rfl, e2⟩ := avs1 av
    exact ⟨j, by rw [show v = _ from e2], q1.1.1, q1.1.2, w _ _ S1 H1 _ q1.2 e1 s1 (yl_rng M 0 j.toNat S1 H1)⟩
  · exact q1.elim
def wRng2 (tl : TAA) : TIA := fun nv S P => tl nv S fun as S1 => match as with
  | [.int i, .int j] => (-(2 ^ 62) ≤ i ∧ i < 2 ^ 62 ∧ -(2 ^ 62) ≤ j ∧ j < 2 ^ 62) ∧ P (rngA i (j - i).toNat) (fun _ => True) S1
  | _ => False
theorem ia_rng2 (hm : X.mg "range" = none) (ha : LA X [a, b] tl) (hg : Gl X "range" := by rfl) (hs : starEach [a, b] X.env = [(false, eval a X.env), (false, eval b X.env)] := by rfl) (hs2 : starEach [b] X.env = [(false, eval b X.env)] := by rfl) : IA X tg (.Call (.Name "range" p) [a, b] [] pos) (wRng2 tl) := by
  obtain ⟨t, p, k⟩ := ha
  refine ⟨_, pi_range2 hg hm p hs hs2, fun M σ H nv S P R r q w => ?_⟩
  refine k M σ H nv S _ _ r q fun as S1 vs H1 n q1 e1 s1 av => ?_
  split at q1
  · rename_i i j
    obtain ⟨v, w', rfl, e2, e3⟩ := avs2 av
    exact ⟨i, j, by rw [show v = _ from e2, show w' = _ from e3], q1.1, w _ _ S1 H1 _ q1.2 e1 s1 (yl_rng M i (j - i).toNat S1 H1)⟩
  · exact q1.elim
/-! ### for -/
def sFor (wi : TIA) (g : TGA) (tb : TSA) : TSA := fun D nv S => wi nv S fun xs Kp S1 => ∃ I : Nat → Nv → Sto → Prop, I 0 nv S1 ∧ (∀ i nv' S', i ≤ xs.length → I i nv' S' → Kp S') ∧
  (∀ i x nv' S', xs[i]? = some x → I i nv' S' → g x nv' S' fun nv2 S2 => tb { D with nx := I (i + 1), ct := I (i + 1), bk := D.nx } nv2 S2) ∧ ∀ nv' S', I xs.length nv' S' → D.nx nv' S'
theorem sa_for {body : List Stmt} {wi : TIA} {g : TGA} {js : List Nat} {tb : TSA} (hp : PassesOwn (model X.prog X.w) X.A X.env X.xe) (hi : IA X tg iter wi) (hg : GA X tg js g) (hb : SB X body tb) (hc : X.calm = true := by rfl)
    (hs : ∀ x, foldedSetIterable iter X.env x = pure x := by intro _; rfl) : SA X (.For tg iter body [] pos) (sFor wi g tb) := by
  obtain ⟨w, p1, k1⟩ := hi
  obtain ⟨t1, p2, k2⟩ := hg
  obtain ⟨t2, p3, k3⟩ := hb
  refine ⟨_, ps_for hp hc p1 p2 p3 hs, fun M σ H nv S D D' r h l => ?_⟩
  refine k1 M σ H nv S _ _ r h fun xs Kp S1 H1 J q e1 s1 yl => ?_
  obtain ⟨I, h0, hk, ht, hd⟩ := q
  refine ⟨fun i m σ' H' => m = xs.length - i ∧ i ≤ xs.length ∧ ∃ nv' S', I i nv' S' ∧ Ext S1 H1 S' H' ∧ Rl M S' H' σ' nv', ⟨xs.length, by simp, Nat.zero_le _, nv, S1, h0, .refl, r.up e1 s1⟩, ?_⟩
  rintro i m σ2 H2 ⟨rfl, hi, nv2, S2, i2, e2, r2⟩
  obtain ⟨y1, y2⟩ := yl.y M S2 H2 (fun _ _ _ z => z) e2 r2.sh (hk i nv2 S2 hi i2) i
  by_cases hlt : i < xs.length
  · obtain ⟨g1, g2⟩ := y2 xs[i] (List.getElem?_eq_getElem hlt)
    refine .inr ⟨g1, fun σ' H' => ∃ nv' S', I (i + 1) nv' S' ∧ Ext S1 H1 S' H' ∧ Rl M S' H' σ' nv', fun σ' H' z => ⟨xs.length - (i + 1), by omega, rfl, hlt, z⟩, fun x H3 hy => ?_⟩
    obtain ⟨e3, s3, a3⟩ := g2 x H3 hy
    have r3 := r2.up e3 s3
    refine k2 M σ2 H3 nv2 S2 xs[i] x _ _ r3 a3 (ht i xs[i] nv2 S2 (List.getElem?_eq_getElem hlt) i2) fun nv4 S4 σ4 H4 q4 e4 r4 _ => ?_
    have ee := (e2.trans e3).trans e4
    exact k3 M σ4 H4 nv4 S4 _ _ r4 q4 ⟨fun nv' S' σ' H' n e r' => ⟨nv', S', n, ee.trans e, r'⟩, l.rt.up (e1.trans ee), l.nx.up (e1.trans ee), fun nv' S' σ' H' n e r' => ⟨nv', S', n, ee.trans e, r'⟩⟩
  · have ei : i = xs.length := by omega
    subst ei
    exact .inl ⟨y1 (Nat.le_refl _), l.nx nv2 S2 σ2 H2 (hd nv2 S2 i2) (e1.trans e2) r2⟩
/-! ### comprehensions -/
structure TsA (X : Cx) (ifs : List Expr) (te : TTA) : Prop where
  ex : ∃ t, PTs X ifs t ∧ TR t te
theorem TsA.pt {ifs : List Expr} {te : TTA} (h : TsA X ifs te) : PTs X ifs (cT te) := by
  obtain ⟨t, p, k⟩ := h
  exact ⟨fun pins s σ H Q I ⟨M, nv, S, P, r, q, w⟩ => p.run pins s σ H Q I (k M σ H nv S P Q r q w)⟩
def tYesA : TTA := fun _ S P => P true S
theorem tsa_nil : TsA X [] tYesA := ⟨_, pts_nil, fun M σ H nv S P Q r q w => w true S H q .refl r.sh⟩
theorem tsa_one {c : Expr} {t : TTA} (h : TA' X c t) : TsA X [c] t := by
  obtain ⟨u, p, k⟩ := h
  exact ⟨_, pts_one p, k⟩
def eLc (wi : TIA) (g : TGA) (tt : TTA) (te : TEA) (vs : List Nat) : TEA := fun nv S P => wi nv S fun xs Kp S1 => xs.length ≤ 1000000 ∧ ∃ I : Nat → List A → Sto → Prop, I 0 [] S1 ∧ (∀ i acc S', i ≤ xs.length → I i acc S' → Kp S') ∧
  (∀ i x acc S', xs[i]? = some x → I i acc S' → g x (wipeN nv vs) S' fun nv2 S2 => tt nv2 S2 fun b S3 => bsel b (te nv2 S3 fun y S4 => I (i + 1) (acc ++ [y]) S4) (I (i + 1) acc S3)) ∧ ∀ acc S', I xs.length acc S' → P (.lst acc) S'
theorem lc_turns {wi : TIA} {g : TGA} {tt : TTA} {te : TEA} {js vs : List Nat} (hj : ∀ j ∈ js, j ∈ vs) {w : TI} (k1 : ∀ M σ H nv S P R, Rl M S H σ nv → wi nv S P → (∀ xs Kp S' H' J, P xs Kp S' → Ext S H S' H' → SH M S' H' → Yl M J Kp xs S' H' → R J H') → w σ H R) :
    ER (tLc w (cG js g) (cT tt) (cE te) vs) (eLc wi g tt te vs) := by
  intro M σ H nv S P Q r h k
  refine k1 M σ H nv S _ _ r h fun xs Kp S1 H1 J q e1 s1 yl D hD => ?_
  obtain ⟨hz, I, h0, hk, ht, hd⟩ := q
  have fr := s1.free hD
  have sz : 1000000 < sizeLine := by rw [sizeLine_eq]; decide
  -- the mask with the new list
  refine ⟨fun i m H' => m = xs.length - i ∧ i ≤ xs.length ∧ ∃ acc av S', I i acc S' ∧ Ext S1 H1 S' H' ∧ SH (fun p => M p ∨ p = D) S' H' ∧ H' D = some (.lst av) ∧ AVs (fun p => M p ∨ p = D) S' H' acc av ∧ acc.length ≤ i, ⟨xs.length, by simp, Nat.zero_le _, [], [], S1, h0, ?_, ?_, upd_same, rfl, Nat.le_refl _⟩, ?_⟩
  · exact (s1.laid hD _).1
  · refine ⟨fun b c hb => ⟨fun z => ?_, ?_⟩, fun b hb => ?_⟩
    · rcases z with z | z
      · exact (s1.cell b c hb).1 z
      · rw [z, fr.1] at hb
        cases hb
    · obtain ⟨o, ho⟩ := s1.there hb
      have nb : b ≠ D := ne_of_none ho hD
      exact (s1.cell b c hb).2.up ⟨fun p o hp sp mp => ⟨by rw [upd_ne (ne_of_none hp hD)]; exact hp, sp, fun z => z.elim mp (ne_of_none hp hD)⟩⟩ fun u hu => by rw [upd_ne nb]; exact hu
    · by_cases hbD : b = D
      · rw [hbD, upd_same]
        exact fun z => by cases z
      · rw [upd_ne hbD]
        exact s1.mask b (hb.elim id fun z => absurd z hbD)
  · rintro i m H2 ⟨rfl, hi, acc, av, S2, i2, e2, s2, hD2, a2, hacc⟩
    have hm' : ∀ p o, H1 p = some o → ¬ M p → ¬ (M p ∨ p = D) := fun p o hp mp z => z.elim mp (ne_of_none hp hD)
    obtain ⟨y1, y2⟩ := yl.y _ S2 H2 hm' e2 s2 (hk i acc S2 hi i2) i
    have sD : ∀ {S' : Sto} {H' : Hp}, SH (fun p => M p ∨ p = D) S' H' → S' D = none := fun {S' H'} s => by
      cases e : S' D with
      | none => rfl
      | some c => exact absurd (.inr rfl) (s.cell D c e).1
    by_cases hlt : i < xs.length
    · obtain ⟨g1, g2⟩ := y2 xs[i] (List.getElem?_eq_getElem hlt)
      refine .inr ⟨g1, fun H' => ∃ acc av S', I (i + 1) acc S' ∧ Ext S1 H1 S' H' ∧ SH (fun p => M p ∨ p = D) S' H' ∧ H' D = some (.lst av) ∧ AVs (fun p => M p ∨ p = D) S' H' acc av ∧ acc.length ≤ i + 1, fun H' z => ⟨xs.length - (i + 1), by omega, rfl, hlt, z⟩, fun x H3 hy => ?_⟩
      obtain ⟨e3, s3, a3⟩ := g2 x H3 hy
      -- the names' values, within the block
      have r1 := r.up e1 s1
      have e13 := e2.trans e3
      have r3 : Rl (fun p => M p ∨ p = D) S2 H3 σ nv := ⟨s3, r1.len, fun j z hz => by
        obtain ⟨v, f1, f2⟩ := r1.at_ j z hz
        exact ⟨v, f1, AV.mono ⟨fun b o hb sb mb => ⟨(e13.keep b o hb sb).1, (e13.keep b o hb sb).2, hm' b o hb mb⟩⟩ z v f2⟩⟩
      refine ⟨_, _, S2, xs[i], _, r3.wipe vs, a3, ht i xs[i] acc S2 (List.getElem?_eq_getElem hlt) i2, fun nv4 S4 σ4 H4 q4 e4 r4 z4 => ⟨?_, ?_⟩⟩
      · rw [z4 vs hj, wipe_wipe σ vs vs fun _ z => z]
      · refine ⟨_, nv4, S4, _, r4, q4, fun b S5 H5 q5 e5 s5 => bsel_if ?_⟩
        have e35 := (e3.trans e4).trans e5
        have hD5 := (e35.keep D _ hD2 (sD s2)).1
        cases b with
        | true =>
          refine ⟨_, nv4, S5, _, r4.up e5 s5, q5, fun y S6 v6 H6 q6 e6 s6 a6 => ?_⟩
          have e36 := e35.trans e6
          have hD6 := (e6.keep D _ hD5 (sD s5)).1
          have kx : Kx (fun p => M p ∨ p = D) S6 H6 (fun p => M p ∨ p = D) S6 (upd H6 D (.lst (av ++ [v6]))) := ⟨fun b o hb sb mb => ⟨by rw [upd_ne fun z => mb (.inr z)]; exact hb, sb, mb⟩⟩
          refine ⟨av, hD6, by rw [a2.len]; omega, acc ++ [y], av ++ [v6], S6, q6, ⟨fun b o hb sb => ?_⟩, ⟨fun b c hb => ⟨(s6.cell b c hb).1, ?_⟩, fun b hb => ?_⟩, upd_same, ?_, by rw [List.length_append]; simp only [List.length_cons, List.length_nil]; omega⟩
          · have z := (e2.trans e36).keep b o hb sb
            exact ⟨by rw [upd_ne (ne_of_none hb hD)]; exact z.1, z.2⟩
          · have nb : b ≠ D := fun z => by rw [z, sD s6] at hb; cases hb
            exact (s6.cell b c hb).2.up kx fun u hu => by rw [upd_ne nb]; exact hu
          · by_cases hbD : b = D
            · rw [hbD, upd_same]
              exact fun z => by cases z
            · rw [upd_ne hbD]
              exact s6.mask b hb
          · exact AVs.mono kx _ _ ((a2.up e36).app (.one a6))
        | false => exact ⟨acc, av, S5, q5, e2.trans e35, s5, hD5, a2.up e35, by omega⟩
    · have ei : i = xs.length := by omega
      subst ei
      have kx : Kx (fun p => M p ∨ p = D) S2 H2 M S2 H2 := ⟨fun b o hb sb mb => ⟨hb, sb, fun z => mb (.inl z)⟩⟩
      refine .inl ⟨y1 (Nat.le_refl _), k _ S2 _ H2 (hd acc S2 i2) (e1.trans e2) ⟨fun b c hb => ⟨fun z => (s2.cell b c hb).1 (.inl z), (s2.cell b c hb).2.up kx fun _ z => z⟩, fun b hb => s2.mask b (.inl hb)⟩ ⟨D, av, rfl, sD s2, fr.2, hD2, AVs.mono kx _ _ a2⟩⟩
theorem ea_lc {elt : Expr} {ifs : List Expr} {scope : Scope} (own : List (Str × Nat)) {wi : TIA} {g : TGA} {tt : TTA} {te : TEA} {js : List Nat} (hN : X.N.Nodup) (hi : IA X tg iter wi) (ok : blkC X.N X.env.scope scope own = true)
    (hg : ∀ (s : Shared) (H : Hp) (C : Addr) (cl : List (Str × Addr)) (fp : List Addr), GA (X.blk s H scope (compEnvC scope cl C X.env) fp) tg js g) (ht : ∀ (s : Shared) (H : Hp) (C : Addr) (cl : List (Str × Addr)) (fp : List Addr), TsA (X.blk s H scope (compEnvC scope cl C X.env) fp) ifs tt)
    (he : ∀ (s : Shared) (H : Hp) (C : Addr) (cl : List (Str × Addr)) (fp : List Addr), EA (X.blk s H scope (compEnvC scope cl C X.env) fp) elt te) (hj : ∀ j ∈ js, j ∈ own.map (·.2) := by decide) (hc : X.calm = true := by rfl) (hs : ∀ x, foldedSetIterable iter X.env x = pure x := by intro _; rfl) :
    EA X (.ListComp elt [⟨tg, iter, ifs, 0⟩] scope pos) (eLc wi g tt te (own.map (·.2))) := by
  obtain ⟨w, p1, k1⟩ := hi
  exact ⟨_, pe_lc hc hN p1 (blkOk_by ok) (fun s H C cl fp => (hg s H C cl fp).pg) (fun s H C cl fp => (ht s H C cl fp).pt) (fun s H C cl fp => (he s H C cl fp).pe) hs, lc_turns hj k1⟩
theorem sa_setLc {elt : Expr} {ifs : List Expr} {scope : Scope} (own : List (Str × Nat)) {wi : TIA} {g : TGA} {tt : TTA} {te : TEA} {js : List Nat} (i : Nat) {y : Str} {py spos : Pos} (hN : X.N.Nodup) (hi : IA X tg iter wi) (ok : blkC X.N X.env.scope scope own = true)
    (hg : ∀ (s : Shared) (H : Hp) (C : Addr) (cl : List (Str × Addr)) (fp : List Addr), GA (X.blk s H scope (compEnvC scope cl C X.env) fp) tg js g) (ht : ∀ (s : Shared) (H : Hp) (C : Addr) (cl : List (Str × Addr)) (fp : List Addr), TsA (X.blk s H scope (compEnvC scope cl C X.env) fp) ifs tt)
    (he : ∀ (s : Shared) (H : Hp) (C : Addr) (cl : List (Str × Addr)) (fp : List Addr), EA (X.blk s H scope (compEnvC scope cl C X.env) fp) elt te)
    (hk : X.env.scope.kind = .function := by rfl) (hl : (py.line == pos.line) = true := by rfl) (hn : (scope.names.any fun (n, k) => n == y && (k == .local || k == .cell)) = false := by decide +kernel) (hy : X.N[i]? = some y := by rfl) (hyl : X.env.scope.names.lookup y = some .local := by rfl)
    (hj : ∀ j ∈ js, j ∈ own.map (·.2) := by decide) (hc : X.calm = true := by rfl) (hs : ∀ x, foldedSetIterable iter X.env x = pure x := by intro _; rfl) :
    SA X (.Assign [.Name y py] (.ListComp elt [⟨tg, iter, ifs, 0⟩] scope pos) spos) (sSet i (eLc wi g tt te (own.map (·.2)))) := by
  obtain ⟨w, p1, k1⟩ := hi
  refine ⟨_, ps_setLc hc hN hy hyl ?_ p1 (blkOk_by ok) (fun s H C cl fp => (hg s H C cl fp).pg) (fun s H C cl fp => (ht s H C cl fp).pt) (fun s H C cl fp => (he s H C cl fp).pe) hs, fun M σ H nv S D D' r h l => ?_⟩
  · exact sw_true hk hyl hl hn
  · exact lc_turns hj k1 M σ H nv S _ _ r h fun a S' v H' q e s av => l.nx _ S' _ H' q e ((r.up e s).set i av)
end
end Lay

namespace Lay
open PySem L2 PyProof.Rows
/-! ### defs -/
def startN (N : List Str) (as : List A) : Nv := as.map some ++ List.replicate (N.length - as.length) none
theorem start_rel {M : Msk} {S : Sto} {H : Hp} {N : List Str} {as : List A} {vs : List V} (s : SH M S H) (a : AVs M S H as vs) : Rl M S H (L2.start N vs) (startN N as) := by
  refine ⟨s, ?_, fun i x q => ?_⟩
  · unfold L2.start startN
    rw [List.length_append, List.length_append, List.length_map, List.length_map, List.length_replicate, List.length_replicate, a.len]
  · unfold startN at q
    unfold L2.start
    by_cases hi : i < as.length
    · rw [List.getElem?_append_left (by rw [List.length_map]; exact hi), List.getElem?_map] at q
      cases e : as[i]? with
      | none => rw [e] at q; cases q
      | some z =>
        rw [e] at q
        cases q
        obtain ⟨v, h1, h2⟩ := a.get e
        refine ⟨v, ?_, h2⟩
        rw [List.getElem?_append_left (by rw [List.length_map, a.len]; exact hi), List.getElem?_map, h1]
        rfl
    · rw [List.getElem?_append_right (by rw [List.length_map]; omega), List.getElem?_replicate] at q
      split at q <;> cases q
section
variable {P : Program} {w : World} {K : PySem.W.Frag} {mg : Str → Option Value} {base : Heap}
/-- a def as the top left it -/
structure Def (K : PySem.W.Frag) (mg : Str → Option Value) (x : Str) (st : Stmt) (f : Addr) : Prop where
  ex : ∃ fd, Fun K x x st f fd
  mg : mg x = some (.ref f)
/-- what a body's proof may use of where it stands -/
abbrev cxA (P : Program) (w : World) (K : PySem.W.Frag) (mg : Str → Option Value) (base : Heap) (N : List Str) (qual : Str) (scope : Scope) (f : Addr) (cd : Value) (A : Around) (outer : List Env) (s : Shared) (H : Hp) (E : XK) : Cx := (cxOf CX0 P w K mg base N qual scope f cd A outer s H E).nox
theorem got_of {x : Str} {st : Stmt} {f : Addr} {N ps : List Str} {k : Nat} {sp : SpA} (D : Def K mg x st f) (S : FnScope N ps (defScope st)) (len : ∀ as S P, sp as S P → as.length = ps.length)
    (hb : ∀ (kV doc pm : Value) (an : Option Addr) (cdv ct : Value) (us : List Value), us.length = ps.length → bindArgs (PySem.W.fnOf x x (defArgs st) (defBody st) (defScope st) .none kV doc pm an cdv ct) ⟨us, []⟩ = pure (ps.zip us))
    (body : ∀ (cdv : Value) (A : Around) (outer : List Env) (s : Shared) (H : Hp) (E : XK), Room k (A.deeper (envOfC x (defScope st) s.heap.objs.size f cdv)) →
      ∃ ts, SB (cxA P w K mg base N x (defScope st) f cdv A outer s H E) (defBody st) ts ∧ ∀ as S P, sp as S P → ts { nx := fun _ S' => P .non S', rt := P } (startN N as) S) : Got P w K mg base (k + 1) ps x st f sp := by
  obtain ⟨fd, F⟩ := D.ex
  refine ⟨⟨fd, F.ok S (fun vs H Q E ⟨M, S', as, P', s, a, h, w⟩ => by rw [a.len]; exact len as S' P' h) (fun cdv A outer s H vs Q E hr ⟨M, S', as, P', sh, a, h, w⟩ => ?_), F, F.binds hb⟩, D.mg⟩
  obtain ⟨ts, ⟨t, p, kk⟩, rd⟩ := body cdv A outer s H E hr
  refine ⟨t, p, kk M (L2.start N vs) H (startN N as) S' { nx := fun _ S' => P' .non S', rt := P' } { nx := fun _ H' => Q .non H', rt := Q } (start_rel sh a) (rd as S' P' h) ⟨fun nv' S2 σ' H' p e r => w .non S2 .non H' p e r.sh rfl, w, fun _ _ _ _ p _ _ => p.elim, fun _ _ _ _ p _ _ => p.elim⟩⟩
theorem Got.imp {x : Str} {k : Nat} {ps : List Str} {st : Stmt} {f : Addr} {sp sp' : SpA} (G : Got P w K mg base k ps x st f sp) (h : ∀ as S Q, sp' as S Q → ∃ Q', sp as S Q' ∧ ∀ a S', Q' a S' → Q a S') : Got P w K mg base k ps x st f sp' := by
  obtain ⟨fd, F, r⟩ := G.ex
  refine ⟨⟨fd, F.imp fun vs H Q E ⟨M, S, as, P', s, a, q, w⟩ => ?_, r⟩, G.mg⟩
  obtain ⟨Q', q1, q2⟩ := h as S P' q
  exact ⟨M, S, as, Q', s, a, q1, fun z S2 v H2 p e s2 a2 => w z S2 v H2 (q2 z S2 p) e s2 a2⟩
theorem Got.mono {x : Str} {j k : Nat} {ps : List Str} {st : Stmt} {f : Addr} {sp : SpA} (G : Got P w K mg base j ps x st f sp) (h : j ≤ k) : Got P w K mg base k ps x st f sp := by
  obtain ⟨fd, F, r⟩ := G.ex
  exact ⟨⟨fd, F.mono h, r⟩, G.mg⟩
end
/-! ### calls by keywords alone -/
section
variable {X : Cx} {e : Expr} {es : List Expr} {kws : List Keyword} {tl : TAA} {p pos : Pos}
theorem pe_callN0 {CX : CXT} {k : Nat} {f : Addr} {fd : FuncData} {ps ks : List Str} {sp : Sp} {E : XK} {x : Str} {tk : TA} {g : List Value → List Value → List Value} {gV : List V → List V → List V} (F : FnOk X.prog X.w X.K X.mg X.base CX k f fd ps sp) (hr : Room k X.A) (hg : Gl X x) (hm : X.mg x = some (.ref f)) (hk : PySem.W.keepIn X.K (.ref f) = true) (hb : KBn X.K fd ps 0 ks g gV) (hx : Passes CX X E)
    (hkw : PK X kws tk) (hall : (backToKw pos (keywordEach kws X.env)).all (·.1.isSome) = true := by rfl) (hks : (backToKw pos (keywordEach kws X.env)).filterMap (·.1) = ks := by rfl)
    (hdb : (x == ("__debug__" : Str)) = false := by decide)
    (hpl : ((backTo pos (starEach [] X.env)).any (·.1) || (backToKw pos (keywordEach kws X.env)).any (·.1.isNone)) = false := by rfl) :
    PE X (.Call (.Name x p) [] kws pos) (tCallN 0 ks.length sp gV E tNil tk) := by
  refine ⟨fun pins s σ H Q I h => ?_⟩
  refine wpAny_Call_Name_kw (ld_glob I hg hm ?_ hdb)
  refine PySem.W.callWith_KW0 (h₀ := X.base) I.ok.mod.kin hk hall ?_ hpl
  refine thn (hkw.run pos pins s σ H _ I h) fun ws s2 ⟨zs, H2, I2, rz, l1, l2, q2⟩ => ⟨I2.kIn, ?_⟩
  rw [hks]
  exact run_fnN (us := []) F hr hb hx I2 .nil rz l1 l2 q2
/-- the places, from the keywords' order to the parameters' -/
def byPl {α : Type} (pl : List Nat) (l : List α) : List α := pl.filterMap (l[·]?)
theorem Vals.byPl {vs : List V} {us : List Value} (r : Vals vs us) : ∀ pl : List Nat, Vals (byPl pl vs) (byPl pl us)
  | [] => .nil
  | i :: pl => by
    unfold Lay.byPl
    rw [List.filterMap_cons, List.filterMap_cons]
    cases e : vs[i]? with
    | none =>
      rw [r.none_of e]
      exact Vals.byPl r pl
    | some v =>
      obtain ⟨u, h1, h2⟩ := r.get e
      rw [h1]
      exact .cons h2 (Vals.byPl r pl)
theorem AVs.byPl {M : Msk} {S : Sto} {H : Hp} {as : List A} {vs : List V} (a : AVs M S H as vs) : ∀ pl : List Nat, AVs M S H (byPl pl as) (byPl pl vs)
  | [] => rfl
  | i :: pl => by
    unfold Lay.byPl
    rw [List.filterMap_cons, List.filterMap_cons]
    cases e : as[i]? with
    | none =>
      have hn : vs[i]? = none := List.getElem?_eq_none_iff.mpr (by rw [a.len]; exact List.getElem?_eq_none_iff.mp e)
      rw [hn]
      exact AVs.byPl a pl
    | some z =>
      obtain ⟨v, h1, h2⟩ := a.get e
      rw [h1]
      exact ⟨v, _, rfl, h2, AVs.byPl a pl⟩
def eCallK (pl : List Nat) (sp : SpA) (tl : TAA) : TEA := fun nv S P => tl nv S fun as S1 => sp (byPl pl as) S1 P
/-- f(k = e, ..): pl tells, for each parameter, the place of its keyword -/
theorem ea_callK {k : Nat} {ps ks : List Str} {x : Str} {sp : SpA} {st : Stmt} {f : Addr} (pl : List Nat) (G : Got X.prog X.w X.K X.mg X.base k ps x st f sp) (hr : Room k X.A) (ha : KA X ks.length kws tl)
    (hb : ∀ (kV doc pm : Value) (an : Option Addr) (cdv ct : Value) (us : List Value), us.length = ks.length → bindArgs (PySem.W.fnOf x x (defArgs st) (defBody st) (defScope st) .none kV doc pm an cdv ct) ⟨[], ks.zip us⟩ = pure (ps.zip (byPl pl us)))
    (hg : Gl X x := by rfl) (hall : (backToKw pos (keywordEach kws X.env)).all (·.1.isSome) = true := by rfl) (hks : (backToKw pos (keywordEach kws X.env)).filterMap (·.1) = ks := by rfl)
    (hdb : (x == ("__debug__" : Str)) = false := by decide)
    (hpl : ((backTo pos (starEach [] X.env)).any (·.1) || (backToKw pos (keywordEach kws X.env)).any (·.1.isNone)) = false := by rfl) :
    EA X (.Call (.Name x p) [] kws pos) (eCallK pl sp tl) := by
  obtain ⟨fd, F, F2, _⟩ := G.ex
  obtain ⟨oc, od, kV, doc, pm, an, cdv, ct, osl, e2, lk, hcd⟩ := F2.ex
  obtain ⟨t, p1, kk⟩ := ha
  have KB : KBn X.K fd ps 0 ks (fun _ ws => byPl pl ws) (fun _ zs => byPl pl zs) := by
    refine ⟨fun s us ws _ h1 h2 => ?_, fun _ r => Vals.byPl r pl⟩
    have e0 : us = [] := List.length_eq_zero_iff.mp h1
    subst e0 e2
    exact BindsTo.of_eq (hb kV doc pm an cdv ct ws h2)
  refine ⟨_, pe_callN0 F hr hg G.mg F2.kp KB pass0 p1 hall hks hdb hpl, fun M σ H nv S P Q r h w => ?_⟩
  show t σ H fun zs H2 => ([] : List V).length = 0 ∧ zs.length = ks.length ∧ liftSp sp (byPl pl zs) H2 Q E0
  refine kk M σ H nv S _ _ r h fun as S1 vs H1 n q e s av => ⟨rfl, by rw [av.len, n], ?_⟩
  exact ⟨M, S1, byPl pl as, P, s, av.byPl pl, q, w.up e⟩
/-! ### calls of what a name holds -/
/-- the defs that may be held -/
abbrev Tab := Addr → Option SpA
structure Held' (P : Program) (w : World) (K : PySem.W.Frag) (mg : Str → Option Value) (base : Heap) (k : Nat) (T : Tab) : Prop where
  ex : ∀ f sp, T f = some sp → ∃ (fd : FuncData) (ps : List Str), FnOk P w K mg base CX0 k f fd ps (liftSp sp) ∧ PySem.W.keepIn K (.ref f) = true ∧ Binds K fd ps []
def eCallV (i : Nat) (T : Tab) (tl : TAA) : TEA := fun nv S P => match nv[i]? with
  | some (some (.ref f)) => ∃ sp, T f = some sp ∧ tl nv S fun as S1 => sp as S1 P
  | _ => False
theorem ea_callV {k : Nat} {x : Str} {T : Tab} (i : Nat) (G : Held' X.prog X.w X.K X.mg X.base k T) (hr : Room k X.A) (ha : LA X (e :: es) tl) (hN : X.N[i]? = some x := by rfl) (hv : Vis X.env.scope x := by first | exact Or.inl rfl | exact Or.inr (Or.inl rfl) | exact Or.inr (Or.inr rfl))
    (hdb : (x == ("__debug__" : Str)) = false := by decide) (hcd : (x == ("__classdict__" : Str)) = false := by decide)
    (he : starEach (e :: es) X.env = (false, eval e X.env) :: starEach es X.env := by rfl) (hpl : (backTo pos (starEach es X.env)).any (·.1) = false := by rfl) : EA X (.Call (.Name x p) (e :: es) [] pos) (eCallV i T tl) := by
  obtain ⟨t, p1, kk⟩ := ha
  have A : ∀ f sp, (fun f => (T f).map liftSp) f = some sp → L2.Held X.prog X.w X.K X.mg X.base k f sp := fun f sp h => by
    cases e : T f with
    | none =>
      have h' : (T f).map liftSp = some sp := h
      rw [e] at h'
      cases h'
    | some s =>
      have h' : (T f).map liftSp = some sp := h
      rw [e] at h'
      cases h'
      obtain ⟨fd, ps, F, hk, hb⟩ := G.ex f s e
      exact ⟨fd, ps, F, hk, hb⟩
  refine ⟨_, pe_callA (S := fun f => (T f).map liftSp) (i := i) A hr hN hv p1 hdb hcd he hpl, fun M σ H nv S P Q r h w => ?_⟩
  unfold eCallV at h
  split at h
  · rename_i f q
    obtain ⟨v, h1, h2⟩ := r.at_ i _ q
    obtain ⟨sp, g1, g2⟩ := h
    refine ⟨f, liftSp sp, by rw [h1, show v = _ from h2], by show (T f).map liftSp = _; rw [g1]; rfl, ?_⟩
    refine kk M σ H nv S _ _ r g2 fun as S1 vs H1 n q e s av => ?_
    exact ⟨M, S1, as, P, s, av, q, w.up e⟩
  · exact h.elim
end
end Lay

namespace Lay
open PySem L2 PyProof.Rows
/-- the built-in names that the program's module does not bind -/
structure Bi (mg : Str → Option Value) : Prop where
  isinstance_ : mg "isinstance" = none
  len_ : mg "len" = none
  abs_ : mg "abs" = none
  int_ : mg "int" = none
  bool_ : mg "bool" = none
  str_ : mg "str" = none
  list_ : mg "list" = none
  tuple_ : mg "tuple" = none
  range_ : mg "range" = none
  sum_ : mg "sum" = none
  max_ : mg "max" = none
  set_ : mg "set" = none
  sorted_ : mg "sorted" = none
  repr_ : mg "repr" = none
  enumerate_ : mg "enumerate" = none
  min_ : mg "min" = none
/-! ### isinstance, told by the value -/
def isI : A → Bool
  | .int _ => true
  | .bl _ => true
  | _ => false
def isB : A → Bool
  | .bl _ => true
  | _ => false
def isS : A → Bool
  | .str _ => true
  | _ => false
def isT : A → Bool
  | .tup _ => true
  | _ => false
def isL (S : Sto) : A → Bool
  | .lst _ => true
  | .ref p => match S p with
    | some (.lst _) => true
    | some (.frz _) => true
    | _ => false
  | _ => false
def kn (S : Sto) (x : A) : Prop := (tyN S x).isSome = true
section
variable {S : Sto} {x : A} {P : A → Sto → Prop}
theorem isi_of {n : String} {f : A → Bool} (hk : kn S x) (h : ∀ t, tyN S x = some t → kitB t n = some (f x)) (p : P (.bl (f x)) S) : rIsiA [x, .ty n] S P := by
  cases e : tyN S x with
  | none =>
    unfold kn at hk
    rw [e] at hk
    cases hk
  | some t => exact ⟨t, _, e, h t e, p⟩
theorem isi_int (hk : kn S x) (p : P (.bl (isI x)) S) : rIsiA [x, .ty "int"] S P := isi_of hk (fun t e => by
  cases x with
  | ref q =>
    unfold tyN at e
    dsimp only at e
    split at e <;> first | (cases e; first | (show kitB _ _ = some true; decide +kernel) | (show kitB _ _ = some false; decide +kernel)) | cases e
  | ty _ => cases e
  | _ => cases e; first | (show kitB _ _ = some true; decide +kernel) | (show kitB _ _ = some false; decide +kernel)) p
theorem isi_bool (hk : kn S x) (p : P (.bl (isB x)) S) : rIsiA [x, .ty "bool"] S P := isi_of hk (fun t e => by
  cases x with
  | ref q =>
    unfold tyN at e
    dsimp only at e
    split at e <;> first | (cases e; first | (show kitB _ _ = some true; decide +kernel) | (show kitB _ _ = some false; decide +kernel)) | cases e
  | ty _ => cases e
  | _ => cases e; first | (show kitB _ _ = some true; decide +kernel) | (show kitB _ _ = some false; decide +kernel)) p
theorem isi_str (hk : kn S x) (p : P (.bl (isS x)) S) : rIsiA [x, .ty "str"] S P := isi_of hk (fun t e => by
  cases x with
  | ref q =>
    unfold tyN at e
    dsimp only at e
    split at e <;> first | (cases e; first | (show kitB _ _ = some true; decide +kernel) | (show kitB _ _ = some false; decide +kernel)) | cases e
  | ty _ => cases e
  | _ => cases e; first | (show kitB _ _ = some true; decide +kernel) | (show kitB _ _ = some false; decide +kernel)) p
theorem isi_tuple (hk : kn S x) (p : P (.bl (isT x)) S) : rIsiA [x, .ty "tuple"] S P := isi_of hk (fun t e => by
  cases x with
  | ref q =>
    unfold tyN at e
    dsimp only at e
    split at e <;> first | (cases e; first | (show kitB _ _ = some true; decide +kernel) | (show kitB _ _ = some false; decide +kernel)) | cases e
  | ty _ => cases e
  | _ => cases e; first | (show kitB _ _ = some true; decide +kernel) | (show kitB _ _ = some false; decide +kernel)) p
theorem isi_list (hk : kn S x) (p : P (.bl (isL S x)) S) : rIsiA [x, .ty "list"] S P := isi_of hk (fun t e => by
  cases x with
  | ref q =>
    unfold tyN at e
    dsimp only at e
    split at e
    · rename_i q1 q2
      cases e
      have z : isL S (.ref q) = true := by unfold isL; dsimp only; rw [q2]
      rw [z]
      decide +kernel
    · rename_i q1 q2
      cases e
      have z : isL S (.ref q) = true := by unfold isL; dsimp only; rw [q2]
      rw [z]
      decide +kernel
    · cases e
  | ty _ => cases e
  | _ => cases e; first | (show kitB _ _ = some true; decide +kernel) | (show kitB _ _ = some false; decide +kernel)) p
/-- isinstance(x, (list, tuple)) -/
theorem isi_lt (hk : kn S x) (p : P (.bl (isL S x || isT x)) S) : rIsiTA [x, .tup [.ty "list", .ty "tuple"]] S P := by
  cases e : tyN S x with
  | none =>
    unfold kn at hk
    rw [e] at hk
    cases hk
  | some t =>
    refine ⟨t, _, e, ?_, p⟩
    cases x with
    | ref q =>
      unfold tyN at e
      dsimp only at e
      split at e
      · rename_i q1 q2
        cases e
        have z : isL S (.ref q) = true := by unfold isL; dsimp only; rw [q2]
        rw [z]
        show kitBs _ _ = some true
        decide +kernel
      · rename_i q1 q2
        cases e
        have z : isL S (.ref q) = true := by unfold isL; dsimp only; rw [q2]
        rw [z]
        show kitBs _ _ = some true
        decide +kernel
      · cases e
    | ty _ => cases e
    | _ => cases e; first | (show kitBs _ _ = some true; decide +kernel) | (show kitBs _ _ = some false; decide +kernel)
end
/-! ### sizes of ints -/
def Bd (k : Nat) (i : Int) : Prop := i.natAbs < 2 ^ k
theorem Bd.mulW {i j : Int} {a b : Nat} (ha : Bd a i) (hb : Bd b j) (h0 : 0 < a := by decide) (h1 : 0 < b := by decide) (h : a + b ≤ 1000000 := by decide) : CMulW i j := wide_mul ha hb h0 h1 h
theorem Bd.divW {i j : Int} {b : Nat} (hb : Bd b j) (h : 0 < j) (h0 : 0 < b := by decide) (h9 : b ≤ 9000 := by decide) : CDivW i j := wide_div h hb h0 h9
theorem Bd.divX {i j : Int} {b : Nat} (hb : Bd b j) (h : j ≠ 0) (h0 : 0 < b := by decide) (h9 : b ≤ 9000 := by decide) : CDivX i j := ⟨h, Nat.lt_of_lt_of_le (PySem.Flt.log2_lt_of h0 hb) h9⟩
theorem Bd.le {i : Int} {a b : Nat} (ha : Bd a i) (h : a ≤ b := by decide) : Bd b i := Nat.lt_of_lt_of_le ha (Nat.pow_le_pow_right (by decide) h)
theorem Bd.add {i j : Int} {a : Nat} (ha : Bd a i) (hb : Bd a j) : Bd (a + 1) (i + j) := by
  unfold Bd at *
  rw [Nat.pow_succ]
  omega
theorem Bd.sub {i j : Int} {a : Nat} (ha : Bd a i) (hb : Bd a j) : Bd (a + 1) (i - j) := by
  unfold Bd at *
  rw [Nat.pow_succ]
  omega
theorem Bd.mul {i j : Int} {a b : Nat} (ha : Bd a i) (hb : Bd b j) : Bd (a + b) (i * j) := wide_lt ha hb
theorem Bd.neg {i : Int} {a : Nat} (ha : Bd a i) : Bd a (-i) := by unfold Bd; rw [Int.natAbs_neg]; exact ha
theorem Bd.of_le {i j : Int} {a : Nat} (ha : Bd a j) (h : i.natAbs ≤ j.natAbs) : Bd a i := Nat.lt_of_le_of_lt h ha
/-- an int between two small bounds -/
theorem Bd.small {i : Int} {m : Nat} (a : Nat) (h : i.natAbs ≤ m) (hm : m < 2 ^ a := by decide) : Bd a i := Nat.lt_of_le_of_lt h hm
theorem bsel_true {p q : Prop} : bsel true p q = p := rfl
theorem bsel_false {p q : Prop} : bsel false p q = q := rfl
/-- the known answer of a test -/
theorem sel_i {b : Bool} {p q : Prop} (h1 : b = true → p) (h2 : b = false → q) : bsel b p q := bsel_i h1 h2
/-! ### == with [] -/
theorem eqv_nil (ds : List PyData) : PyData.eqv (.list ds) (.list []) = ds.isEmpty := by
  cases ds <;> simp [PyData.eqv, PyData.eqvAll]
theorem pyds_len : ∀ {xs : List A} {ds : List PyData}, pyds xs = some ds → ds.length = xs.length
  | [], _, h => by cases h; rfl
  | x :: xs, _, h => by
    unfold pyds at h
    split at h
    · rename_i d ds e1 e2
      cases h
      rw [List.length_cons, List.length_cons, pyds_len e2]
    · cases h
theorem shaped_nil : SeqAt.shaped (.list []) = true := by decide
theorem rEq_nil {neg : Bool} {S : Sto} {acc : List A} {P : A → Sto → Prop} (h : acc ≠ [] → ∃ ds, pyds acc = some ds ∧ SeqAt.shaped (.list ds) = true) (p : P (.bl (if neg then !acc.isEmpty else acc.isEmpty)) S) : rEqA neg (.lst acc) (.lst []) S P := by
  by_cases e : acc = []
  · subst e
    exact ⟨_, _, rfl, rfl, shaped_nil, shaped_nil, by rw [eqv_nil]; exact p⟩
  · obtain ⟨ds, h1, h2⟩ := h e
    refine ⟨.list ds, _, by show (pyds acc).map _ = _; rw [h1]; rfl, rfl, h2, shaped_nil, ?_⟩
    rw [eqv_nil]
    have : ds.isEmpty = acc.isEmpty := by
      have := pyds_len h1
      cases ds <;> cases acc <;> simp_all
    rw [this]
    exact p
theorem pyds_ints : ∀ ks : List Int, pyds (ks.map .int) = some (ks.map .int)
  | [] => rfl
  | k :: ks => by
    rw [List.map_cons]
    unfold pyds
    rw [pyds_ints ks]
    rfl
theorem lay_ints : ∀ ks : List Int, PyData.canLayAll0 (ks.map .int) = true ∧ PyData.depthAll (ks.map .int) = 0
  | [] => ⟨rfl, rfl⟩
  | k :: ks => by
    obtain ⟨h1, h2⟩ := lay_ints ks
    refine ⟨?_, ?_⟩
    · rw [List.map_cons]
      unfold PyData.canLayAll0
      rw [h1]
      rfl
    · rw [List.map_cons]
      unfold PyData.depthAll
      rw [h2]
      rfl
theorem shaped_ints (ks : List Int) : SeqAt.shaped (.list (ks.map .int)) = true := by
  obtain ⟨h1, h2⟩ := lay_ints ks
  unfold SeqAt.shaped PyData.canLay0 PyData.depth
  rw [h1, h2]
  rfl
theorem lstr_ref {S : Sto} {p : Addr} {xs : List A} (h : S p = some (.lst xs)) : lstr S (.ref p) = some xs := by
  unfold lstr
  dsimp only
  rw [h]
theorem lstr_frz {S : Sto} {p : Addr} {xs : List A} (h : S p = some (.frz xs)) : lstr S (.ref p) = some xs := by
  unfold lstr
  dsimp only
  rw [h]
/-! ### no refs inside -/
mutual
def nr : A → Bool
  | .ref _ => false
  | .ty _ => false
  | .lst xs => nrs xs
  | .tup xs => nrs xs
  | _ => true
def nrs : List A → Bool
  | [] => true
  | x :: xs => nr x && nrs xs
end
theorem kn_nr {S : Sto} {x : A} (h : nr x = true) : kn S x := by
  cases x <;> first | rfl | cases h
theorem nrs_mem {x : A} : ∀ {xs : List A}, nrs xs = true → x ∈ xs → nr x = true
  | y :: ys, h, m => by
    unfold nrs at h
    rw [Bool.and_eq_true] at h
    rcases List.mem_cons.mp m with e | e
    · rw [e]; exact h.1
    · exact nrs_mem h.2 e
theorem got_none {P : Program} {w : World} {K : PySem.W.Frag} {mg : Str → Option Value} {base : Heap} {x : Str} {st : Stmt} {f : Addr} {ps : List Str} {k : Nat} {sp : SpA} (D : Def K mg x st f) (h : ∀ as S P, ¬ sp as S P)
    (hb : ∀ (kV doc pm : Value) (an : Option Addr) (cdv ct : Value) (us : List Value), us.length = ps.length → bindArgs (PySem.W.fnOf x x (defArgs st) (defBody st) (defScope st) .none kV doc pm an cdv ct) ⟨us, []⟩ = pure (ps.zip us)) : Got P w K mg base k ps x st f sp := by
  obtain ⟨fd, F⟩ := D.ex
  exact ⟨⟨fd, ⟨fun vs H Q E ⟨M, S, as, P', s, a, q, w⟩ => absurd q (h as S P'), fun A outer s H args us vs Q E hr e0 hb r ⟨M, S, as, P', _, a, q, w⟩ => absurd q (h as S P')⟩, F, F.binds hb⟩, D.mg⟩
/-- at most so deep -/
def dle : Nat → A → Bool
  | 0, _ => false
  | n + 1, .lst xs => xs.all (dle n) && decide (xs.length ≤ 1000000)
  | n + 1, .tup xs => xs.all (dle n) && decide (xs.length ≤ 1000000)
  | _ + 1, _ => true
theorem cutA_ints (ns : List Int) (lo hi : Option Int) : ∃ ms : List Int, cutA (ns.map .int) lo hi = ms.map .int := by
  unfold cutA
  rw [← List.map_drop, ← List.map_take]
  exact ⟨_, rfl⟩
theorem atI_nat' {α : Type} {xs : List α} {i : Nat} {z : α} (h : xs[i]? = some z) : atI xs (i : Int) = some z := atI_nat h
theorem atI_pos {α : Type} {xs : List α} {i : Int} {z : α} (h0 : 0 ≤ i) (h : xs[i.toNat]? = some z) : atI xs i = some z := by
  have e := atI_nat' (xs := xs) (i := i.toNat) h
  rwa [show ((i.toNat : Nat) : Int) = i by omega] at e
/-- a statement, then the rest, with a word between them -/
def sCut (t u : TSA) : TSA := fun D nv S => ∃ Mid : Nv → Sto → Prop, t { D with nx := Mid } nv S ∧ ∀ nv' S', Mid nv' S' → u D nv' S'
theorem sb_cut {X : Cx} {st : Stmt} {rest : List Stmt} {t u : TSA} (h1 : SA X st t) (h2 : SB X rest u) : SB X (st :: rest) (sCut t u) := by
  obtain ⟨t1, p1, k1⟩ := h1
  obtain ⟨t2, p2, k2⟩ := h2
  refine ⟨_, pss_cons p1 p2, fun M σ H nv S D D' r ⟨Mid, h, hu⟩ l => ?_⟩
  exact k1 M σ H nv S _ _ r h ⟨fun nv' S' σ' H' q e r' => k2 M σ' H' nv' S' D D' r' (hu nv' S' q) (l.up e), l.rt, l.bk, l.ct⟩
theorem int_dvd {a b d : Int} (g : Int.gcd a b = 1) (h : b ∣ a * d) : b ∣ d := by
  have h1 : b.natAbs ∣ a.natAbs * d.natAbs := by
    rw [← Int.natAbs_mul]
    exact Int.natAbs_dvd_natAbs.mpr h
  have g2 : Nat.Coprime b.natAbs a.natAbs := by
    unfold Nat.Coprime
    rw [Nat.gcd_comm]
    exact g
  exact Int.natAbs_dvd_natAbs.mp (g2.dvd_of_dvd_mul_left h1)
/-! ### the end -/
def noLst (K : PySem.W.Frag) : Bool := K.all fun p => match p.2.cls with
  | .type n => n != "list"
  | _ => true
theorem noLst_no {K : PySem.W.Frag} {a : Addr} {o : Obj} (h : noLst K = true) (e : K.lookup a = some o) : o.cls ≠ .type "list" := by
  intro z
  have m : ∀ {l : PySem.W.Frag}, l.lookup a = some o → (a, o) ∈ l := fun {l} => by
    induction l with
    | nil => intro e; cases e
    | cons p r ih =>
      intro e
      obtain ⟨b, u⟩ := p
      rw [List.lookup_cons] at e
      cases hb : a == b with
      | true =>
        rw [hb] at e
        cases e
        rw [beq_iff_eq] at hb
        rw [hb]
        exact List.mem_cons_self
      | false =>
        rw [hb] at e
        exact List.mem_cons_of_mem _ (ih e)
  have q := List.all_eq_true.mp h _ (m e)
  simp only [z] at q
  exact absurd q (by decide)
theorem avs_of_ints {M : Msk} {S : Sto} {H : Hp} : ∀ ns : List Int, AVs M S H (ns.map .int) (ns.map .int)
  | [] => rfl
  | n :: ns => ⟨_, _, rfl, rfl, avs_of_ints ns⟩
/-- the law's promise from the script on -/
theorem end_sp {K : PySem.W.Frag} {sp : SpA} (hN : noLst K = true) (h : ∀ (a : Addr) (S : Sto) (ns : List Int), ns.length ≤ 63 → S a = some (.frz (ns.map .int)) → sp [.ref a] S fun r _ => r = .bl true)
    (H : Hp) (a : Addr) (ns : List Int) (hl : ns.length ≤ 63) (hO : Only H) (hS : SqL K H a (ns.map V.int)) : liftSp sp [.ref a] H (fun v _ => v = .bl true) fun _ _ _ => False := by
  have fz : ∃ o, H a = some (.frz o (.lst (ns.map V.int))) := by
    rcases hS with (q | ⟨o, q⟩) | ⟨o, its, n, e1, e2, _⟩
    · rcases hO a with z | ⟨o, xs, z⟩
      · rw [q] at z; cases z
      · rw [q] at z; cases z
    · exact ⟨o, q⟩
    · exact absurd e2 (noLst_no hN e1)
  obtain ⟨o, q⟩ := fz
  refine ⟨fun _ => False, fun b => if b = a then some (.frz (ns.map .int)) else none, [.ref a], fun r _ => r = .bl true, ⟨fun b c hb => ⟨id, ?_⟩, fun _ z => z.elim⟩, ⟨_, _, rfl, rfl, rfl⟩, h a _ ns hl (if_pos rfl), fun r S' v H' p e s av => ?_⟩
  · by_cases hba : b = a
    · rw [if_pos hba] at hb
      cases hb
      subst hba
      exact ⟨o, _, q, avs_of_ints ns⟩
    · rw [if_neg hba] at hb
      cases hb
  · rw [p] at av
    exact av
theorem Fun.same {K : PySem.W.Frag} {x qual y qual' : Str} {st st' : Stmt} {f : Addr} {fd fd' : FuncData} (a : Fun K x qual st f fd) (b : Fun K y qual' st' f fd') : fd = fd' := by
  obtain ⟨_, _, _, _, _, _, _, _, _, _, l1, _⟩ := a.ex
  obtain ⟨_, _, _, _, _, _, _, _, _, _, l2, _⟩ := b.ex
  rw [l1] at l2
  injection l2 with l3
  injection l3 with _ _ l4 _
  injection l4
theorem def_mk {K : PySem.W.Frag} {mg : Str → Option Value} {h : Heap} {x : Str} {st : Stmt} {f : Addr} {fd : FuncData} (X : K.In h) (G : h.Ns mainGlobals mg) (a : PySem.W.nsIn K mainGlobals x = some (some (.ref f))) (F : Fun K x x st f fd) : Def K mg x st f := ⟨⟨_, F⟩, PySem.W.mg_of X G a⟩
theorem walk_end {l : PySem.W.OpenLaw} {q : Program} {loose : List Str} {XP : (Str → Option Value) → Heap → Prop} {YP : World → Heap → Prop} {d : DefRec} {K : Params → PySem.W.Frag} {k : Nat} {sp : SpA} (hn : l.most = some 63) (hdf : d.params.defaults = []) (hr : Room k callerA)
    (hY : ∀ (w : World) (h : Heap), YP w h → (K w.params).In h) (hN : ∀ w : World, noLst (K w.params) = true)
    (hsp : ∀ (a : Addr) (S : Sto) (ns : List Int), ns.length ≤ 63 → S a = some (.frz (ns.map .int)) → sp [.ref a] S fun r _ => r = .bl true)
    (F : ∀ (w : World) (mg : Str → Option Value) (fa : Addr) (h : Heap), (K w.params).In h → h.Ns mainGlobals mg → mg d.name = some (.ref fa) →
      ∃ fd : FuncData, (∀ (s : Shared) (u : Value), BindsTo s fd ⟨[u], []⟩ [("script", u)]) ∧ ∀ base : Heap, (K w.params).In base → base.Ns mainGlobals mg → FnOk l.prog w (K w.params) mg base CX0 k fa fd ["script"] (liftSp sp)) :
    PySem.W.WalkO q loose XP YP l.row.toRowW d [] (fun f vs => PySem.call f vs) :=
  L2.walk_of (n := 63) (k := k) (x := "script") (CX := fun _ => CX0) (sp := fun _ => liftSp sp) hn (by decide) hdf hr hY F (fun w H a ns hl hO hS => end_sp (hN w) hsp H a ns hl hO hS) fun _ _ _ _ _ z => z
theorem Fun.ne {K : PySem.W.Frag} {x qual y qual' : Str} {st st' : Stmt} {f g : Addr} {fd fd' : FuncData} (a : Fun K x qual st f fd) (b : Fun K y qual' st' g fd') (h : x ≠ y) : f ≠ g := by
  intro e
  subst e
  have e2 := Fun.same a b
  obtain ⟨_, _, _, _, _, _, _, _, _, e3, _⟩ := a.ex
  obtain ⟨_, _, _, _, _, _, _, _, _, e4, _⟩ := b.ex
  rw [e3, e4] at e2
  exact h (congrArg FuncData.name e2)
end Lay

namespace Lay
open PySem L2 PyProof.Rows PySem.W
/-! ### the errors of the program: def __init__(self, value=None): super().__init__(value); self.value = value -/
abbrev errScope : Scope := { kind := .function, names := [("self", .local), ("value", .local), ("__class__", .free), ("super", .globalImplicit)], isGenerator := false, isCoroutine := false, more := [] }
abbrev errArgs (q1 q2 q3 : Pos) : Arguments := { posonlyargs := [], args := [{ arg := "self", annotation := none, pos := q1 }, { arg := "value", annotation := none, pos := q2 }], vararg := none, kwonlyargs := [], kw_defaults := [], kwarg := none, defaults := [.Constant .none 0 q3] }
abbrev errBody (p0 p1 p2 p3 p4 p5 p6 p7 p8 p9 : Pos) : List Stmt :=
  [.Expr (.Call (.Attribute (.Call (.Name "super" p0) [] [] p1) "__init__" p2) [.Name "value" p3] [] p4) p5,
   .Assign [.Attribute (.Name "self" p6) "value" p7] (.Name "value" p8) p9]
/-- the promise of __init__ -/
def spErr (C : Addr) : Sp := fun vs H Q _ => ∃ a y, vs = [.ref a, y] ∧ H a = some (exo a C none) ∧ ∀ dx, H dx = none → dx ≠ a → Q .non (upd (upd H dx (exd dx [("value", y)])) a (exo a C (some dx)))
section
variable {prog : Program} {w : World} {A : Around} {E : Value → Shared → Prop} {h : Heap} {g : Array GenState} {d : Drawn} {t : Nat} {os : OsState}
variable {nm q : Str} {C N : Addr} {bs bm : List Value} {hdct : Bool} {sn : List Str} {sub : List Value} {ab : Bool} {col : Option Bool} {dd : Option Addr} {k0 k1 k2 k3 k5 : Option Value}
/-- super().__init__(..), the wrapper called -/
theorem call_mw {u e t0 : Addr} {rest : List Value} {Q : Value → Shared → Prop}
    (hC : h.get? C = some (excClassObj nm q C N bs bm hdct sn sub ab col dd k0 k1 k2 k3 k5 "ValueError.__new__")) (he : h.get? e = some (HandSPX.excO C t0)) (hu : h.get? u = some (kxs_mw "ValueError.__init__" e)) (hrest : rest.length ≤ sizeLine)
    (hq : ∀ h' t1, (∀ b o, b ≠ e → h.get? b = some o → h'.get? b = some o) → h'.get? e = some (HandSPX.excO C t1) → Q .none ⟨h', g, d, t, os⟩) :
    wpAny (model prog w) A (call (.ref u) rest) Q E ⟨h, g, d, t, os⟩ := by
  refine wpAny_call (codeAny_of_tree ?_)
  show wpAny _ A.in1 (callAny (.ref u) ⟨rest, []⟩) _ _ _
  simp only [callAny]
  refine wpAny_bind (wpAny_load hu ?_)
  simp only [kxs_mw, show (Value.type "method-wrapper" == Value.type "method" || Value.type "method-wrapper" == Value.type "builtin_function_or_method" || Value.type "method-wrapper" == Value.type "method-wrapper") = true by decide, if_true]
  refine W.KFB.if_so (by decide) ?_
  refine wpAny_bind (PySem.ESX.check_bound F.excBase_ValueError hC he rfl ?_)
  refine wpAny_bind (wpAny_pure (wpAny_pure ?_))
  refine ⟨Code.quiet_builtin _ (by decide +kernel), codeAny_builtin F.excBase_ValueError.initEntry ?_⟩
  rw [Around.under_plainId F.excBase_ValueError.init.plain _]
  wp_walk
  refine hq _ h.objs.size (fun b o hb ho => ?_) ?_
  · rw [Heap.get?_update_other _ _ (Ne.symm hb)]
    exact Heap.get?_push_of_some _ ho
  · rw [Heap.get?_update_self _ (Heap.get?_push_of_some _ he) rfl]
    rfl
end
theorem err_call {env : Env} {p0 p1 p2 p3 p4 : Pos} (hl : (p2.endLine == p4.line) = true) : eval (.Call (.Attribute (.Call (.Name "super" p0) [] [] p1) "__init__" p2) [.Name "value" p3] [] p4) env = (do
      let ov ← attributeBase (.Call (.Name "super" p0) [] [] p1) "__init__" env (eval (.Call (.Name "super" p0) [] [] p1) env)
      standAt p2.atName
      let (f, first) ← holding [ov] (getMethod ov "__init__" (do return (← importBound (.Call (.Name "super" p0) [] [] p1) env).getD true))
      callWith p4 f first (backTo p4 (starEach [.Name "value" p3] env)) []) := by
  show (do
    let ov ← attributeBase (.Call (.Name "super" p0) [] [] p1) "__init__" env (eval (.Call (.Name "super" p0) [] [] p1) env)
    standAt p2.atName
    methodCall (.Call (.Name "super" p0) [] [] p1) "__init__" p2 p4 env ov (1 + 0) (backTo p4 (starEach [.Name "value" p3] env)) (backToKw p4 (keywordEach [] env))) = _
  have e : ∀ ov, methodCall (.Call (.Name "super" p0) [] [] p1) "__init__" p2 p4 env ov (1 + 0) (backTo p4 (starEach [.Name "value" p3] env)) (backToKw p4 (keywordEach [] env)) = (do
      let (f, first) ← holding [ov] (getMethod ov "__init__" (do return (← importBound (.Call (.Name "super" p0) [] [] p1) env).getD true))
      callWith p4 f first (backTo p4 (starEach [.Name "value" p3] env)) []) := fun ov => by
    unfold methodCall methodCallPos
    rw [hl]
    rfl
  simp only [e]
/-- what is written of such a class -/
structure ErrI (P : Program) (K : Frag) (mg : Str → Option Value) (C fI : Addr) (fd : FuncData) : Prop where
  T : OexC K C
  iC : findIn K (.ref C) "__init__" = some (some (.ref fI))
  tI : typeIn K (.ref fI) = some (.type "function")
  fn : ∃ (qual : Str) (p0 p1 p2 p3 p4 p5 p6 p7 p8 p9 q1 q2 q3 : Pos) (dV kV doc pm ct oc : Value) (an od : Option Addr) (cc cda : Addr) (osl : Array (Option Value)),
    fd = ksFn "__init__" qual (errArgs q1 q2 q3) (errBody p0 p1 p2 p3 p4 p5 p6 p7 p8 p9) errScope dV kV doc pm an (.ref cda) ct cc ∧
    (p2.endLine == p4.line) = true ∧ K.lookup fI = some ⟨oc, od, .func fd, osl⟩ ∧ codeIn K (.ref cda) qual = true ∧
    (∃ ccl cdd vs ccs file tf, K.lookup cda = some ⟨ccl, cdd, .fields vs, ccs⟩ ∧ vs[2]? = some (.str file tf) ∧ ((P.main.file : Str) == file) = true) ∧
    (∃ cl cld csl, K.lookup cc = some ⟨cl, cld, .cell (some (.ref C)), csl⟩) ∧
    (∃ (T : Addr) (o : Obj) (z : Value) (m : Nat), dV = .ref T ∧ K.lookup T = some o ∧ o.data = .seq [z].toArray m)
  su : mg "super" = none
  top : (P.main.scope.names.lookup ("super" : Str)).isSome = false
  op : nsIn K cStatics "thirdparty.any" = some none
  no : findIn K (.ref C) "value" = some none
  up : ks_superIn K C C "__init__" = some (some (.builtin "ValueError.__init__"))
  sv : subIn K (.ref C) (.type "ValueError") = some true
  se : mroIn K C (.ref C) = some true
section
variable {P : Program} {w : World} {K : Frag} {mg : Str → Option Value} {base : Heap} {CX : CXT} {k : Nat} {C fI : Addr} {fd : FuncData}
theorem init_fn (I : ErrI P K mg C fI fd) : FnOk P w K mg base CX (k + 1) fI fd ["self", "value"] (spErr C) := by
  refine ⟨fun vs H Q E ⟨a, y, e, _⟩ => by rw [e]; rfl, fun A outer s H args us vs Q E hr e0 hb r ⟨a, y, ev, ea, q⟩ => ?_⟩
  subst ev
  cases r with
  | @cons _ u0 _ ur ra rr =>
  obtain rfl : u0 = Value.ref a := ra
  cases rr with
  | @cons _ u _ ur ry rr =>
  cases rr
  obtain ⟨T, iC, tI, ⟨qual, p0, p1, p2, p3, p4, p5, p6, p7, p8, p9, q1, q2, q3, dV, kV, doc, pm, ct, oc, an, od, cc, cda, osl, rfl, hline, lk, hcd, ⟨ccl, cdd, cvs, ccs, file, tf, hcode, hvs, hfile⟩, ⟨cl, cld, csl, hcell⟩, _⟩, su, top, op, no, up, sv, se⟩ := I
  obtain ⟨nm, qn, N, bs, bm, sn, sub, ab, col, dd, k0, k1, k2, k3, k5, hC, hbm⟩ := T.cls
  have KX : K.In s.heap := e0.mod.kin.keeps fun b o e => (e0.bs b o e).1
  have lim : s.heap.NoLimit := e0.mod.nolimit.keeps fun b o e => (e0.bs b o e).1
  have hcl : clsIn K C = some { name := nm, bases := bs, mro := .ref C :: bm, ns := N, qualname := qn, hasDict := true, slotNames := sn, subclasses := sub, abstract := ab, collection := col, hasDel := false } := by unfold clsIn; rw [hC] <;> rfl
  obtain ⟨t1, ho⟩ := exo_at e0.hok ea
  refine ks_codeAny_call_defAt hr.depth (KX _ _ lk) rfl lim (codeRec_of KX hcd) rfl hb (show ∀ x ∈ errScope.names, x.2 ≠ .cell by decide) ?_ (fun h₁ hns hk₁ => ?_)
  · intro x hx
    simp only [List.zip_cons_cons, List.zip_nil_right, List.mem_cons, List.not_mem_nil, or_false] at hx
    rcases hx with rfl | rfl <;> rfl
  obtain ⟨hp, gg, dr, tk, os⟩ := s
  have g0 : hp.Ns mainGlobals mg := e0.mod.glob.keeps fun b o e => (e0.bs b o e).1
  have g1 : h₁.Ns mainGlobals mg := g0.keeps hk₁
  obtain ⟨mb, hb1, hb2⟩ := e0.mod.blt
  have b1 : h₁.Ns builtinsNs mb := (hb1.keeps fun b o e => (e0.bs b o e).1).keeps hk₁
  have K1 : K.In h₁ := KX.keeps hk₁
  have ho1 := hk₁ _ _ ho
  have hC1 := K1 _ _ hC
  have up' : alongIn K "__init__" (((Value.ref C :: bm).dropWhile (· != .ref C)).drop 1) = some (some (.builtin "ValueError.__init__")) := by
    unfold ks_superIn at up
    rw [hcl] at up
    exact up
  have hv0 : List.lookup ("self" : Str) ([("self", Value.ref a), ("value", u)] : List (Str × Value)).reverse = some (Value.ref a) := rfl
  have hv1 : List.lookup ("value" : Str) ([("self", Value.ref a), ("value", u)] : List (Str × Value)).reverse = some u := rfl
  refine ks_wpAt_execs_cons ?_
  refine ks_wpAt_Expr_any ?_
  refine ks_wpAt_MethodCall (he := err_call hline) ?_
  refine ks_wpAt_super_base (f := fI) (cc := cda) rfl rfl (by decide) rfl (hk₁ _ _ (KX _ _ lk)) rfl rfl rfl (K1 _ _ hcode) rfl hvs hfile top ?_
  refine ks_loadName_global rfl rfl (Calls.loadGlobal_builtin g1 su b1 ((hb2 _ (by decide)).trans (by decide +kernel)) ⟨rfl, ?_⟩)
  refine wpAny_loadName_free rfl rfl rfl ⟨_, K1 _ _ hcell, rfl⟩ ?_
  refine wpAny_loadName_local rfl rfl hns hv0 ?_
  refine ks_wpAny_isType_cls hC1 rfl ⟨rfl, ?_⟩
  refine ks_wpAny_call_super hC1 rfl ho1 rfl (fun c e => by cases e) (looks_mroIn K1 se) (fun h2 e2 k2 => ?_)
  have K2 : K.In h2 := K1.keeps k2
  have I2 : InstAt h2 a { cls := .ref C, dict := none, data := .fields #[.ref t1, .none, .none, .none, .bool false, .none] } C none := ⟨k2 _ _ ho1, rfl, rfl, trivial⟩
  refine kxs_getMethod kxs_ValueError e2 (looks_opaque K2 op) (l₀ := .ref C :: bm) ((looks_clsIn K2 hcl).andThen .now) rfl K2 up' (I2.type.andThen (looks_subIn K2 sv)) (ks_ne K2 I2 hcl) (by decide) ?_
  have k3 : ∀ b o, h₁.get? b = some o → (h2.push (kxs_mw "ValueError.__init__" a)).get? b = some o := fun b o e => Heap.get?_push_of_some _ (k2 b o e)
  have n3 := hns.keeps k3
  show wpAny _ _ (callWith p4 (.ref h2.objs.size) [] (backTo p4 (starEach [.Name "value" p3] _)) []) _ _ _
  refine kxs_callWith (i := "ValueError.__init__") (x := a) rfl (Calls.evalArgs_plain (Calls.spliced_cons (PySem.ESX.ldL n3 hv1 (Calls.spliced_nil ⟨Heap.get?_push_at rfl rfl, ?_⟩))))
  refine call_mw (K1.keeps k3 _ _ hC) (k3 _ _ ho1) (Heap.get?_push_at rfl rfl) (by show 1 ≤ sizeLine; rw [sizeLine_eq]; decide) fun h4 t4 k4 e4 => ?_
  have k14 : ∀ b o, b ≠ a → hp.get? b = some o → h4.get? b = some o := fun b o n e => k4 b o n (k3 _ _ (hk₁ _ _ e))
  have Ca : C ≠ a := fun z => by
    have := ks_ne K2 I2 hcl
    exact this z.symm
  have aL : hp.objs.size ≠ a := Nat.ne_of_gt (Heap.lt_size ho)
  obtain ⟨oL, es, ep, hL, rL⟩ := n3
  have n4 : h4.Ns hp.objs.size _ := ⟨oL, es, ep, k4 _ _ aL hL, rL⟩
  have bsa : ∀ b o, base.get? b = some o → b ≠ a := fun b o e z => by
    have n := (e0.bs b o e).2
    rw [z, ea] at n
    cases n
  have K4 : K.In h4 := e0.mod.kin.keeps fun b o e => k14 b o (bsa b o e) (e0.bs b o e).1
  refine ks_wpAt_execs_cons ?_
  refine ks_wpAt_Assign_Attr (wpAt_of_wpAny (PySem.ESX.ldL n4 hv1 (PySem.ESX.ldL n4 hv0 ?_)))
  refine set_plain K4 (ox := { cls := .ref C, dict := none, data := .fields #[.ref t4, .none, .none, .none, .bool false, .none] }) (od := none) ⟨e4, rfl, rfl, trivial⟩ T.sa ?_
  refine PySem.HandSPX.exc_osa K4 e4 hcl (show PySem.HandSPX.refsVE (.ref C :: bm) = true from hbm) rfl no (fun h5 tk5 dx k5 dn dne hx hn => ?_)
  refine wpAt_of_wpAny (wpAny_execs_nil ?_)
  have hL4 : h4.get? hp.objs.size = some oL := k4 _ _ aL hL
  have dl : hp.objs.size ≤ dx := Nat.le_of_lt (Nat.lt_of_lt_of_le (Heap.lt_size hL4) dn)
  have hnd : H dx = none := e0.hok.fresh dl
  have nd : ∀ {b : Addr} {o : Obj}, hp.get? b = some o → b ≠ dx := fun {b o} z => Nat.ne_of_lt (Nat.lt_of_lt_of_le (Heap.lt_size z) dl)
  have na : ∀ {b : Addr}, H b = none → b ≠ a := fun {b} n z => by
    rw [z, ea] at n
    cases n
  have k15 : ∀ b o, b ≠ a → hp.get? b = some o → h5.get? b = some o := fun b o n e => k5 b o n (k14 b o n e)
  have U : Un (frs outer) [] H (upd (upd H dx (exd dx [("value", y)])) a (exo a C (some dx))) hp h5 := {
    keep := fun b o z n _ _ => k15 b o (na n) z
    slot := fun b o z n _ _ => ⟨o.slots, k15 b o (na n) z⟩
    free := fun b o z n _ => by rw [upd_ne (na n), upd_ne (nd z)]; exact n
    there := fun b o z _ => by
      by_cases hb : b = a
      · exact ⟨_, by rw [hb]; exact hx⟩
      · exact ⟨o, k15 b o hb z⟩
    tups := fun b xs z => by rw [upd_ne (at_ne ea z exo_tup), upd_ne (ne_of_none z hnd)]; exact z
    frzs := fun b o v z => by rw [upd_ne (at_ne ea z exo_frz), upd_ne (ne_of_none z hnd)]; exact z
    tbls := fun b ps z => ⟨#[], by rw [upd_ne (at_ne ea z exo_tbl), upd_ne (ne_of_none z hnd), z]; simp⟩ }
  have hok5 : HOk P w (upd (upd H dx (exd dx [("value", y)])) a (exo a C (some dx))) h5 := fun b o z => by
    by_cases hb : b = a
    · subst hb
      rw [upd_same] at z
      cases z
      exact exo_ok hx
    · rw [upd_ne hb] at z
      by_cases hd : b = dx
      · subst hd
        rw [upd_same] at z
        cases z
        exact exd_ok hn (relO_put (fs := []) ry fun g => True.intro)
      · rw [upd_ne hd] at z
        exact (e0.hok b o z).stay (fun c v hc x => k15 c v (by
            rcases hc with hc | hc
            · rw [hc]
              exact hb
            · exact at_ne ea hc exo_own) x)
          (fun c hc => by rw [upd_ne (at_ne ea hc exo_own), upd_ne (ne_of_none hc hnd)]; exact hc) (fun c xs hc => by rw [upd_ne (at_ne ea hc exo_tup), upd_ne (ne_of_none hc hnd)]; exact hc)
  exact ⟨.non, _, rfl, e0.bare, U, hok5, rfl, q dx hnd dne⟩
end
end Lay

namespace Lay
open PySem L2 PyProof.Rows
/-! ### exceptions: statements that may raise -/
/-- the exception's dict stands, with its value -/
structure Xd (M : Msk) (S : Sto) (H : Hp) (x : A) (dx : Addr) : Prop where
  ex : ∃ u, H dx = some (.xd [("value", u)]) ∧ S dx = none ∧ ¬ M dx ∧ AV M S H x u
def LkX (M : Msk) (S : Sto) (H : Hp) (p : Nv → Addr → A → Sto → Prop) (W : WX) : Prop := ∀ nv' C x S' σ' H' dx, p nv' C x S' → Ext S H S' H' → Rl M S' H' σ' nv' → Xd M S' H' x dx → W (.ref C) (some dx) σ' H'
theorem LkX.up {M : Msk} {S S' : Sto} {H H' : Hp} {p : Nv → Addr → A → Sto → Prop} {W : WX} (h : LkX M S H p W) (e : Ext S H S' H') : LkX M S' H' p W := fun nv C x S2 σ2 H2 dx a b c d => h nv C x S2 σ2 H2 dx a (e.trans b) c d
def SRX (W : WX) (t : TS) (ts : TSA) : Prop := ∀ M σ H nv S D D', Rl M S H σ nv → ts D nv S → Link M S H D D' → LkX M S H D.ex W → t D' σ H
structure SX (X : Cx) (W : WX) (st : Stmt) (ts : TSA) : Prop where
  ex : ∃ t, PS X st t ∧ SRX W t ts
structure BX (X : Cx) (W : WX) (st : List Stmt) (ts : TSA) : Prop where
  ex : ∃ t, PSs X st t ∧ SRX W t ts
abbrev TEX := Nv → Sto → (A → Sto → Prop) → (Addr → A → Sto → Prop) → Prop
/-- an expression that may raise -/
def ERX (W : WX) (t : TE) (te : TEX) : Prop := ∀ M σ H nv S P PE Q, Rl M S H σ nv → te nv S P PE → Wk M P S H Q → (∀ C x S' H' dx, PE C x S' → Ext S H S' H' → SH M S' H' → Xd M S' H' x dx → W (.ref C) (some dx) σ H') → t σ H Q
structure EX (X : Cx) (W : WX) (e : Expr) (te : TEX) : Prop where
  ex : ∃ t, PE X e t ∧ ERX W t te
abbrev SpX := List A → Sto → (A → Sto → Prop) → (Addr → A → Sto → Prop) → Prop
def WkX (M : Msk) (PE : Addr → A → Sto → Prop) (S : Sto) (H : Hp) (E : XK) : Prop := ∀ C x S' H' dx, PE C x S' → Ext S H S' H' → SH M S' H' → Xd M S' H' x dx → E (.ref C) (some dx) H'
def liftSpX (sp : SpX) : Sp := fun vs H Q E => ∃ M S as P PE, SH M S H ∧ AVs M S H as vs ∧ sp as S P PE ∧ Wk M P S H Q ∧ WkX M PE S H E
structure GotX (P : Program) (w : World) (K : PySem.W.Frag) (mg : Str → Option Value) (base : Heap) (k : Nat) (ps : List Str) (x : Str) (st : Stmt) (f : Addr) (sp : SpX) : Prop where
  ex : ∃ fd, FnOk P w K mg base (CX P w) k f fd ps (liftSpX sp) ∧ Fun K x x st f fd ∧ Binds K fd ps []
  mg : mg x = some (.ref f)
section
variable {X : Cx} {W : WX} {st : Stmt} {rest body els : List Stmt} {t u : TSA} {e c : Expr} {te : TEA} {tx : TEX} {tc : TTA} {pos : Pos}
theorem sx_of (h : SA X st t) : SX X W st t := by
  obtain ⟨t1, p, k⟩ := h
  exact ⟨_, p, fun M σ H nv S D D' r q l _ => k M σ H nv S D D' r q l⟩
theorem bx_of (h : SB X rest t) : BX X W rest t := by
  obtain ⟨t1, p, k⟩ := h
  exact ⟨_, p, fun M σ H nv S D D' r q l _ => k M σ H nv S D D' r q l⟩
theorem bx_nil : BX X W [] sNil := bx_of sb_nil
theorem bx_cons (h1 : SX X W st t) (h2 : BX X W rest u) : BX X W (st :: rest) (sSeq t u) := by
  obtain ⟨t1, p1, k1⟩ := h1
  obtain ⟨t2, p2, k2⟩ := h2
  refine ⟨_, pss_cons p1 p2, fun M σ H nv S D D' r h l lx => ?_⟩
  exact k1 M σ H nv S _ _ r h ⟨fun nv' S' σ' H' q e r' => k2 M σ' H' nv' S' D D' r' q (l.up e) (lx.up e), l.rt, l.bk, l.ct⟩ lx
theorem bx_one (h1 : SX X W st t) : BX X W [st] t := by
  obtain ⟨t1, p1, k1⟩ := h1
  exact ⟨_, pss_one p1, k1⟩
theorem bx_cut (h1 : SX X W st t) (h2 : BX X W rest u) : BX X W (st :: rest) (sCut t u) := by
  obtain ⟨t1, p1, k1⟩ := h1
  obtain ⟨t2, p2, k2⟩ := h2
  refine ⟨_, pss_cons p1 p2, fun M σ H nv S D D' r ⟨Mid, h, hu⟩ l lx => ?_⟩
  exact k1 M σ H nv S _ _ r h ⟨fun nv' S' σ' H' q e r' => k2 M σ' H' nv' S' D D' r' (hu nv' S' q) (l.up e) (lx.up e), l.rt, l.bk, l.ct⟩ lx
theorem sx_if (hc : TA' X c tc) (ha : BX X W body t) (hb : BX X W els u) : SX X W (.If c body els pos) (sIf tc t u) := by
  obtain ⟨t0, p0, k0⟩ := hc
  obtain ⟨t1, p1, k1⟩ := ha
  obtain ⟨t2, p2, k2⟩ := hb
  refine ⟨_, ps_if p0 p1 p2, fun M σ H nv S D D' r h l lx => ?_⟩
  refine k0 M σ H nv S _ _ r h fun b S1 H1 q e s => bsel_if ?_
  cases b with
  | true => exact k1 M σ H1 nv S1 D D' (r.up e s) q (l.up e) (lx.up e)
  | false => exact k2 M σ H1 nv S1 D D' (r.up e s) q (l.up e) (lx.up e)
theorem sx_for {tg iter : Expr} {wi : TIA} {g : TGA} {js : List Nat} (hp : PassesOwn (model X.prog X.w) X.A X.env X.xe) (hi : IA X tg iter wi) (hg : GA X tg js g) (hb : BX X W body t) (hc : X.calm = true := by rfl)
    (hs : ∀ x, foldedSetIterable iter X.env x = pure x := by intro _; rfl) : SX X W (.For tg iter body [] pos) (sFor wi g t) := by
  obtain ⟨w, p1, k1⟩ := hi
  obtain ⟨t1, p2, k2⟩ := hg
  obtain ⟨t2, p3, k3⟩ := hb
  refine ⟨_, ps_for hp hc p1 p2 p3 hs, fun M σ H nv S D D' r h l lx => ?_⟩
  refine k1 M σ H nv S _ _ r h fun xs Kp S1 H1 J q e1 s1 yl => ?_
  obtain ⟨I, h0, hk, ht, hd⟩ := q
  refine ⟨fun i m σ' H' => m = xs.length - i ∧ i ≤ xs.length ∧ ∃ nv' S', I i nv' S' ∧ Ext S1 H1 S' H' ∧ Rl M S' H' σ' nv', ⟨xs.length, by simp, Nat.zero_le _, nv, S1, h0, .refl, r.up e1 s1⟩, ?_⟩
  rintro i m σ2 H2 ⟨rfl, hi, nv2, S2, i2, e2, r2⟩
  obtain ⟨y1, y2⟩ := yl.y M S2 H2 (fun _ _ _ z => z) e2 r2.sh (hk i nv2 S2 hi i2) i
  by_cases hlt : i < xs.length
  · obtain ⟨g1, g2⟩ := y2 xs[i] (List.getElem?_eq_getElem hlt)
    refine .inr ⟨g1, fun σ' H' => ∃ nv' S', I (i + 1) nv' S' ∧ Ext S1 H1 S' H' ∧ Rl M S' H' σ' nv', fun σ' H' z => ⟨xs.length - (i + 1), by omega, rfl, hlt, z⟩, fun x H3 hy => ?_⟩
    obtain ⟨e3, s3, a3⟩ := g2 x H3 hy
    have r3 := r2.up e3 s3
    refine k2 M σ2 H3 nv2 S2 xs[i] x _ _ r3 a3 (ht i xs[i] nv2 S2 (List.getElem?_eq_getElem hlt) i2) fun nv4 S4 σ4 H4 q4 e4 r4 _ => ?_
    have ee := (e2.trans e3).trans e4
    exact k3 M σ4 H4 nv4 S4 _ _ r4 q4 ⟨fun nv' S' σ' H' n e r' => ⟨nv', S', n, ee.trans e, r'⟩, l.rt.up (e1.trans ee), l.nx.up (e1.trans ee), fun nv' S' σ' H' n e r' => ⟨nv', S', n, ee.trans e, r'⟩⟩ (lx.up (e1.trans ee))
  · have ei : i = xs.length := by omega
    subst ei
    exact .inl ⟨y1 (Nat.le_refl _), l.nx nv2 S2 σ2 H2 (hd nv2 S2 i2) (e1.trans e2) r2⟩
/-! ### statements with an expression that may raise -/
def xDrop (te : TEX) : TSA := fun D nv S => te nv S (fun _ S1 => D.nx nv S1) (fun C x S1 => D.ex nv C x S1)
theorem sx_expr (he : EX X W e tx) (hs : swapsWith e none pos.line X.env = pure false := by rfl) : SX X W (.Expr e pos) (xDrop tx) := by
  obtain ⟨t1, p1, k1⟩ := he
  exact ⟨_, ps_expr p1 hs, fun M σ H nv S D D' r h l lx => k1 M σ H nv S _ _ _ r h (fun a S' v H' q e s av => l.nx nv S' σ H' q e (r.up e s)) fun C x S' H' dx q e s d => lx nv C x S' σ H' dx q e (r.up e s) d⟩
def xRet (te : TEX) : TSA := fun D nv S => te nv S D.rt (fun C x S1 => D.ex nv C x S1)
theorem sx_ret (he : EX X W e tx) : SX X W (.Return (some e) pos) (xRet tx) := by
  obtain ⟨t1, p1, k1⟩ := he
  exact ⟨_, ps_ret p1, fun M σ H nv S D D' r h l lx => k1 M σ H nv S _ _ _ r h l.rt fun C x S' H' dx q e s d => lx nv C x S' σ H' dx q e (r.up e s) d⟩
def xSet (i : Nat) (te : TEX) : TSA := fun D nv S => te nv S (fun a S1 => D.nx (nv.set i (some a)) S1) (fun C x S1 => D.ex nv C x S1)
theorem sx_set (i : Nat) {x : Str} {pos' : Pos} (hN : X.N.Nodup) (he : EX X W e tx) (hi : X.N[i]? = some x := by rfl) (hx : Loc X.env.scope x := by first | exact .inl rfl | exact .inr rfl) (hs : swapsWith e (some (.Name x pos')) pos.line X.env = pure false := by rfl)
    (hf : X.fn x = true ∨ X.env.scope.names.lookup x = some .local := by first | exact .inl rfl | exact .inr rfl) : SX X W (.Assign [.Name x pos'] e pos) (xSet i tx) := by
  obtain ⟨t1, p1, k1⟩ := he
  exact ⟨_, ps_set hN hi hx p1 hs hf, fun M σ H nv S D D' r h l lx => k1 M σ H nv S _ _ _ r h (fun a S' v H' q e s av => l.nx _ S' _ H' q e ((r.up e s).set i av)) fun C x S' H' dx q e s d => lx nv C x S' σ H' dx q e (r.up e s) d⟩
end
/-! ### calls that may raise -/
section
variable {X : Cx} {W : WX} {x : Str} {k : Nat} {f : Addr} {fd : FuncData} {ps : List Str} {e : Expr} {es : List Expr} {tl : TAA} {p pos : Pos}
theorem run_fnW {sp : Sp} {pins : List (Addr × Obj)} {σ : L2.St} {H : Hp} {s : Shared} {Q : VK} {us : List Value} {vs : List V} (tk : Takes X W) (F : FnOk X.prog X.w X.K X.mg X.base (CX X.prog X.w) k f fd ps sp) (hr : Room k X.A) (hb : Binds X.K fd ps [])
    (I : Inv X pins σ H s) (r : Vals vs us) (h : sp vs H Q fun cls d H' => W cls d σ H') : wpAny (model X.prog X.w) X.A (call (.ref f) us) (EP X pins σ Q) X.xe s := by
  have hl : (us ++ []).length = ps.length := by rw [List.append_nil, ← r.length]; exact F.len _ _ _ _ h
  have r2 : Vals vs (us ++ []) := by rw [List.append_nil]; exact r
  refine wpAny_call (codeAny_mono (F.run X.A X.stack s H ⟨us, []⟩ (us ++ []) vs Q (fun cls d H' => W cls d σ H') hr I.env0 (hb s us I.kIn hl) r2 h) fun r s' hq => ?_)
  cases r with
  | error e => exact tk e s' (XE.of_call I (fun cls d H' z => z) hq)
  | ok fl =>
    cases fl with
    | ret u => exact I.after hq
    | next => exact False.elim hq
    | brk => exact False.elim hq
    | cont => exact False.elim hq
def tCallW (W : WX) (sp : Sp) (t : TA) : TE := fun σ H Q => t σ H fun vs H1 => sp vs H1 Q fun cls d H' => W cls d σ H'
theorem pe_callW {sp : Sp} {t : TA} (tk : Takes X W) (F : FnOk X.prog X.w X.K X.mg X.base (CX X.prog X.w) k f fd ps sp) (hr : Room k X.A) (hg : Gl X x) (hm : X.mg x = some (.ref f)) (hk : PySem.W.keepIn X.K (.ref f) = true) (hb : Binds X.K fd ps [])
    (ha : PA X (e :: es) t) (hdb : (x == ("__debug__" : Str)) = false := by decide) (he : starEach (e :: es) X.env = (false, eval e X.env) :: starEach es X.env := by rfl) (hpl : (backTo pos (starEach es X.env)).any (·.1) = false := by rfl) :
    PE X (.Call (.Name x p) (e :: es) [] pos) (tCallW W sp t) := by
  refine ⟨fun pins s σ H Q I h => ?_⟩
  refine wpAny_Call_Name_kw (ld_glob I hg hm ?_ hdb)
  refine PySem.W.callWith_K (h₀ := X.base) I.ok.mod.kin hk (thn (ha.run pos pins s σ H _ I h) fun us s1 ⟨vs, H1, I1, r, q⟩ => ⟨I1.kIn, ?_⟩) he hpl
  exact run_fnW tk F hr hb I1 r q
def xCall (sp : SpX) (tl : TAA) : TEX := fun nv S P PE => tl nv S fun as S1 => sp as S1 P PE
theorem ex_call {sp : SpX} {st : Stmt} (tk : Takes X W) (G : GotX X.prog X.w X.K X.mg X.base k ps x st f sp) (hr : Room k X.A) (ha : LA X (e :: es) tl) (hg : Gl X x := by rfl)
    (hdb : (x == ("__debug__" : Str)) = false := by decide) (he : starEach (e :: es) X.env = (false, eval e X.env) :: starEach es X.env := by rfl) (hpl : (backTo pos (starEach es X.env)).any (·.1) = false := by rfl) :
    EX X W (.Call (.Name x p) (e :: es) [] pos) (xCall sp tl) := by
  obtain ⟨fd, F, F2, hb⟩ := G.ex
  obtain ⟨t, p, kk⟩ := ha
  refine ⟨_, pe_callW tk F hr hg G.mg F2.kp hb p hdb he hpl, fun M σ H nv S P PE Q r h w wx => ?_⟩
  refine kk M σ H nv S _ _ r h fun as S1 vs H1 n q e s av => ?_
  exact ⟨M, S1, as, P, PE, s, av, q, fun z S2 v2 H2 q2 e2 s2 a2 => w z S2 v2 H2 q2 (e.trans e2) s2 a2, fun C y S2 H2 dx q2 e2 s2 d2 => wx C y S2 H2 dx q2 (e.trans e2) s2 d2⟩
/-! ### of what a name holds -/
abbrev TabX := Addr → Option SpX
structure HeldX (P : Program) (w : World) (K : PySem.W.Frag) (mg : Str → Option Value) (base : Heap) (k : Nat) (T : TabX) : Prop where
  ex : ∀ f sp, T f = some sp → ∃ (fd : FuncData) (ps : List Str), FnOk P w K mg base (CX P w) k f fd ps (liftSpX sp) ∧ PySem.W.keepIn K (.ref f) = true ∧ Binds K fd ps []
def tCallVW (W : WX) (i : Nat) (T : TabX) (t : TA) : TE := fun σ H Q => ∃ f sp, σ[i]? = some (some (.ref f)) ∧ T f = some sp ∧ t σ H fun vs H1 => liftSpX sp vs H1 Q fun cls d H' => W cls d σ H'
theorem pe_callVW {T : TabX} {t : TA} {i : Nat} (tk : Takes X W) (G : HeldX X.prog X.w X.K X.mg X.base k T) (hr : Room k X.A) (hN : X.N[i]? = some x) (hv : Vis X.env.scope x) (ha : PA X (e :: es) t)
    (hdb : (x == ("__debug__" : Str)) = false := by decide) (hcd : (x == ("__classdict__" : Str)) = false := by decide)
    (he : starEach (e :: es) X.env = (false, eval e X.env) :: starEach es X.env := by rfl) (hpl : (backTo pos (starEach es X.env)).any (·.1) = false := by rfl) : PE X (.Call (.Name x p) (e :: es) [] pos) (tCallVW W i T t) := by
  refine ⟨fun pins s σ H Q I h => ?_⟩
  obtain ⟨f, sp, hs, hS, ht⟩ := h
  obtain ⟨fd, ps, F, hk, hb⟩ := G.ex f sp hS
  refine wpAny_Call_Name_kw (thn ((pe_var (pos := p) hN hv hdb hcd).run pins s σ H (fun x H1 => x = .ref f ∧ t σ H1 fun vs H1 => liftSpX sp vs H1 Q fun cls d H' => W cls d σ H') I ⟨_, hs, rfl, ht⟩) fun u s1 ⟨y, H1, I1, r1, ey, ht⟩ => ?_)
  subst ey
  obtain rfl : u = Value.ref f := r1
  refine PySem.W.callWith_K (h₀ := X.base) I.ok.mod.kin hk (thn (ha.run pos pins s1 σ H1 _ I1 ht) fun us s2 ⟨vs, H2, I2, r, q⟩ => ⟨I2.kIn, ?_⟩) he hpl
  exact run_fnW tk F hr hb I2 r q
def xCallV (i : Nat) (T : TabX) (tl : TAA) : TEX := fun nv S P PE => match nv[i]? with
  | some (some (.ref f)) => ∃ sp, T f = some sp ∧ tl nv S fun as S1 => sp as S1 P PE
  | _ => False
theorem ex_callV {T : TabX} (i : Nat) (tk : Takes X W) (G : HeldX X.prog X.w X.K X.mg X.base k T) (hr : Room k X.A) (ha : LA X (e :: es) tl) (hN : X.N[i]? = some x := by rfl) (hv : Vis X.env.scope x := by first | exact Or.inl rfl | exact Or.inr (Or.inl rfl) | exact Or.inr (Or.inr rfl))
    (hdb : (x == ("__debug__" : Str)) = false := by decide) (hcd : (x == ("__classdict__" : Str)) = false := by decide)
    (he : starEach (e :: es) X.env = (false, eval e X.env) :: starEach es X.env := by rfl) (hpl : (backTo pos (starEach es X.env)).any (·.1) = false := by rfl) : EX X W (.Call (.Name x p) (e :: es) [] pos) (xCallV i T tl) := by
  obtain ⟨t, p1, kk⟩ := ha
  refine ⟨_, pe_callVW (i := i) tk G hr hN hv p1 hdb hcd he hpl, fun M σ H nv S P PE Q r h w wx => ?_⟩
  unfold xCallV at h
  split at h
  · rename_i f q
    obtain ⟨v, h1, h2⟩ := r.at_ i _ q
    obtain ⟨sp, g1, g2⟩ := h
    refine ⟨f, sp, by rw [h1, show v = _ from h2], g1, ?_⟩
    refine kk M σ H nv S _ _ r g2 fun as S1 vs H1 n q e s av => ?_
    exact ⟨M, S1, as, P, PE, s, av, q, fun z S2 v2 H2 q2 e2 s2 a2 => w z S2 v2 H2 q2 (e.trans e2) s2 a2, fun C y S2 H2 dx q2 e2 s2 d2 => wx C y S2 H2 dx q2 (e.trans e2) s2 d2⟩
  · exact h.elim
end
/-! ### defs that may raise -/
section
variable {P : Program} {w : World} {K : PySem.W.Frag} {mg : Str → Option Value} {base : Heap}
abbrev cxX (P : Program) (w : World) (K : PySem.W.Frag) (mg : Str → Option Value) (base : Heap) (N : List Str) (qual : Str) (scope : Scope) (f : Addr) (cd : Value) (A : Around) (outer : List Env) (s : Shared) (H : Hp) (E : XK) : Cx := cxOf (CX P w) P w K mg base N qual scope f cd A outer s H E
theorem gotx_of {x : Str} {st : Stmt} {f : Addr} {N ps : List Str} {k : Nat} {sp : SpX} (D : Def K mg x st f) (S : FnScope N ps (defScope st)) (len : ∀ as S P PE, sp as S P PE → as.length = ps.length)
    (hb : ∀ (kV doc pm : Value) (an : Option Addr) (cdv ct : Value) (us : List Value), us.length = ps.length → bindArgs (PySem.W.fnOf x x (defArgs st) (defBody st) (defScope st) .none kV doc pm an cdv ct) ⟨us, []⟩ = pure (ps.zip us))
    (body : ∀ (cdv : Value) (A : Around) (outer : List Env) (s : Shared) (H : Hp) (E : XK), Room k (A.deeper (envOfC x (defScope st) s.heap.objs.size f cdv)) →
      Takes (cxX P w K mg base N x (defScope st) f cdv A outer s H E) (fun cls d _ H => E cls d H) →
      PassesOwn (model P w) (cxX P w K mg base N x (defScope st) f cdv A outer s H E).A (cxX P w K mg base N x (defScope st) f cdv A outer s H E).env (cxX P w K mg base N x (defScope st) f cdv A outer s H E).xe →
      ∃ ts, BX (cxX P w K mg base N x (defScope st) f cdv A outer s H E) (fun cls d _ H => E cls d H) (defBody st) ts ∧ ∀ as S P PE, sp as S P PE → ts { nx := fun _ S' => P .non S', rt := P, ex := fun _ C x S' => PE C x S' } (startN N as) S) : GotX P w K mg base (k + 1) ps x st f sp := by
  obtain ⟨fd, F⟩ := D.ex
  obtain ⟨oc, od, kV, doc, pm, an, cdv, ct, osl, e2, lk, hcd⟩ := F.ex
  refine ⟨⟨fd, ?_, F, F.binds hb⟩, D.mg⟩
  subst e2
  refine fn_of lk hcd S (fun vs H Q E ⟨M, S', as, P', PE', s, a, h, w⟩ => by rw [a.len]; exact len as S' P' PE' h) fun A outer s H vs Q E hr ⟨M, S', as, P', PE', sh, a, h, w, wx⟩ => ?_
  obtain ⟨ts, ⟨t, p, kk⟩, rd⟩ := body cdv A outer s H E hr (takes_of rfl rfl rfl rfl) PassesOwn.leaving
  refine ⟨t, p, kk M (L2.start N vs) H (startN N as) S' { nx := fun _ S' => P' .non S', rt := P', ex := fun _ C x S' => PE' C x S' } { nx := fun _ H' => Q .non H', rt := Q } (start_rel sh a) (rd as S' P' PE' h) ⟨fun nv' S2 σ' H' p e r => w .non S2 .non H' p e r.sh rfl, w, fun _ _ _ _ p _ _ => p.elim, fun _ _ _ _ p _ _ => p.elim⟩ fun nv' C y S2 σ' H2 dx q e r d => wx C y S2 H2 dx q e r.sh d⟩
/-- a promise without exceptions -/
theorem GotX.calm {x : Str} {k : Nat} {ps : List Str} {st : Stmt} {f : Addr} {sp : SpX} {sp' : SpA} (G : GotX P w K mg base k ps x st f sp) (h : ∀ as S Q, sp' as S Q → sp as S Q fun _ _ _ => False) : Got P w K mg base k ps x st f sp' := by
  obtain ⟨fd, F, r⟩ := G.ex
  refine ⟨⟨fd, ⟨fun vs H Q E ⟨M, S, as, P', s, a, q, w⟩ => F.len vs H Q (fun _ _ _ => False) ⟨M, S, as, P', _, s, a, h as S P' q, w, fun _ _ _ _ _ z => z.elim⟩, fun A outer s H args us vs Q E hr e0 hb rv ⟨M, S, as, P', sh, a, q, w⟩ => ?_⟩, r⟩, G.mg⟩
  refine codeAny_mono (F.run A outer s H args us vs Q (fun _ _ _ => False) hr e0 hb rv ⟨M, S, as, P', _, sh, a, h as S P' q, w, fun _ _ _ _ _ z => z.elim⟩) fun r s' hq => ?_
  cases r with
  | error e =>
    obtain ⟨_, _, _, _, _, _, _, _, _, _, _, _, z⟩ := hq
    exact z.elim
  | ok fl =>
    cases fl with
    | ret u => exact hq
    | next => exact hq
    | brk => exact hq
    | cont => exact hq
theorem FnOk.x {k : Nat} {ps : List Str} {f : Addr} {fd : FuncData} {sp : SpA} {sp' : SpX} (F : FnOk P w K mg base CX0 k f fd ps (liftSp sp)) (h : ∀ as S Q QE, sp' as S Q QE → sp as S Q) : FnOk P w K mg base (CX P w) k f fd ps (liftSpX sp') := by
  refine ⟨fun vs H Q E ⟨M, S, as, P', PE', s, a, q, w, _⟩ => F.len vs H Q E ⟨M, S, as, P', s, a, h as S P' PE' q, w⟩, fun A outer s H args us vs Q E hr e0 hb rv ⟨M, S, as, P', PE', sh, a, q, w, _⟩ => ?_⟩
  refine codeAny_mono (F.run A outer s H args us vs Q E hr e0 hb rv ⟨M, S, as, P', sh, a, h as S P' PE' q, w⟩) fun r s' hq => ?_
  cases r with
  | error e => exact hq.elim
  | ok fl =>
    cases fl with
    | ret u => exact hq
    | next => exact hq
    | brk => exact hq
    | cont => exact hq
theorem Got.x {x : Str} {k : Nat} {ps : List Str} {st : Stmt} {f : Addr} {sp : SpA} (G : Got P w K mg base k ps x st f sp) : GotX P w K mg base k ps x st f (fun as S Q _ => sp as S Q) := by
  obtain ⟨fd, F, r⟩ := G.ex
  exact ⟨⟨fd, FnOk.x F fun _ _ _ _ h => h, r⟩, G.mg⟩
theorem GotX.imp {x : Str} {k : Nat} {ps : List Str} {st : Stmt} {f : Addr} {sp sp' : SpX} (G : GotX P w K mg base k ps x st f sp) (h : ∀ as S Q QE, sp' as S Q QE → sp as S Q QE) : GotX P w K mg base k ps x st f sp' := by
  obtain ⟨fd, F, r⟩ := G.ex
  exact ⟨⟨fd, F.imp fun vs H Q E ⟨M, S, as, P', PE', s, a, q, w, wx⟩ => ⟨M, S, as, P', PE', s, a, h _ _ _ _ q, w, wx⟩, r⟩, G.mg⟩
theorem GotX.mono {x : Str} {j k : Nat} {ps : List Str} {st : Stmt} {f : Addr} {sp : SpX} (G : GotX P w K mg base j ps x st f sp) (h : j ≤ k) : GotX P w K mg base k ps x st f sp := by
  obtain ⟨fd, F, r⟩ := G.ex
  exact ⟨⟨fd, F.mono h, r⟩, G.mg⟩
end
end Lay

namespace Lay
open PySem L2 PyProof.Rows
/-! ### the program's errors: a table of their classes -/
abbrev TabE := Addr → Option Str
structure ErrT (P : Program) (K : PySem.W.Frag) (mg : Str → Option Value) (R : Addr) (T : TabE) : Prop where
  rent : mg "RentError" = some (.ref R)
  init : ∀ C x, T C = some x → mg x = some (.ref C) ∧ (∃ fI fd, ErrI P K mg C fI fd) ∧ XfC K C ∧ ExcC K C ∧ PySem.W.exmOne K (.ref C) (.ref R) = some true
  kit : ∀ C D x y, T C = some x → T D = some y → PySem.W.kitOne K (.ref C) (.ref D) = some (decide (x = y))
section
variable {X : Cx} {W : WX} {R : Addr} {T : TabE} {x n : Str} {e : Expr} {te : TEA} {p pos pos' np : Pos}
/-! ### raise X(e) -/
def sRaise (C : Addr) (te : TEA) : TSA := fun D nv S => te nv S fun x S1 => D.ex nv C x S1
theorem sx_raise {C : Addr} {x : Str} {p2 : Pos} {k : Nat} (tk : Takes X W) (ET : ErrT X.prog X.K X.mg R T) (hT : T C = some x) (hr : Room (k + 2) X.A) (he : EA X e te) (hc : X.calm = true := by rfl) (hg : Gl X x := by rfl)
    (hdb : (x == ("__debug__" : Str)) = false := by decide) (hs : starEach [e] X.env = (false, eval e X.env) :: starEach [] X.env := by rfl) : SX X W (.Raise (some (.Call (.Name x p) [e] [] p2)) none pos) (sRaise C te) := by
  obtain ⟨hm, ⟨fI, fd, I⟩, _⟩ := ET.init C x hT
  obtain ⟨t, p1, kk⟩ := la_cons he la_nil hs
  have hb : Binds X.K fd ["self", "value"] [] := by
    obtain ⟨qual, p0, p1, p2, p3, p4, p5, p6, p7, p8, p9, q1, q2, q3, dV, kV, doc, pm, ct, oc, an, od, cc, cda, osl, rfl, _, _, _, _, _, ⟨TT, o, z, m, rfl, lT, oT⟩⟩ := I.fn
    intro s us KX hl
    rw [List.append_nil] at hl ⊢
    match us, hl with
    | [u1, u2], _ =>
      have key : ∃ k, bindArgs (PySem.W.ksFn "__init__" qual (errArgs q1 q2 q3) (errBody p0 p1 p2 p3 p4 p5 p6 p7 p8 p9) errScope (.ref TT) kV doc pm an (.ref cda) ct cc) ⟨[u1, u2], []⟩ = seqItems? (.ref TT) >>= k ∧ k (some [z].toArray) = pure ((["self", "value"] : List Str).zip [u1, u2]) := ⟨_, rfl, rfl⟩
      obtain ⟨k, e1, e2⟩ := key
      refine BindsTo.of_looks fun M => ?_
      rw [e1]
      exact looks_items KX lT oT (.of_pure e2)
  refine ⟨_, ps_raise hc tk (pmk_oex I.T I.iC I.tI (init_fn (w := X.w) (base := X.base) (CX := CX0) (k := k) I) hr hb .nil (fun _ _ _ _ _ _ _ z => z.elim) hg hm p1 hdb hs rfl), fun M σ H nv S D D' r h l lx => ?_⟩
  refine kk M σ H nv S (fun as S1 => ∃ y, as = [y] ∧ D.ex nv C y S1) _ r ?_ fun as S1 vs H1 n q e s av => ?_
  · have h' : te nv S fun x S1 => D.ex nv C x S1 := h
    show te nv S fun z S1 => ∃ y, [z] = [y] ∧ D.ex nv C y S1
    have e : (fun (z : A) (S1 : Sto) => ∃ y, [z] = [y] ∧ D.ex nv C y S1) = fun z S1 => D.ex nv C z S1 := by
      funext z S1
      exact propext ⟨fun ⟨y, e, h⟩ => by cases e; exact h, fun h => ⟨z, rfl, h⟩⟩
    rw [e]
    exact h'
  · obtain ⟨y, rfl, q⟩ := q
    obtain ⟨v, rfl, a1⟩ := avs1 av
    refine ⟨by show 1 ≤ 1000; decide, fun a ha => ⟨a, v, rfl, upd_same, fun dx hdx ne => ⟨rfl, dx, [("value", v)], upd_same, by rw [upd_ne ne, upd_same], ?_, ?_⟩⟩⟩
    · rw [upd_ne ne] at hdx
      exact hdx
    · rw [upd_ne ne] at hdx
      have eH : upd (del (upd (upd (upd H1 a (exo a C none)) dx (exd dx [("value", v)])) a (exo a C (some dx))) a) dx (.xd [("value", v)]) = upd H1 dx (.xd [("value", v)]) := by
        funext b
        by_cases hbd : b = dx
        · rw [hbd, upd_same, upd_same]
        · rw [upd_ne hbd, upd_ne hbd]
          by_cases hba : b = a
          · rw [hba, del_same, ha]
          · rw [del_ne hba, upd_ne hba, upd_ne hbd, upd_ne hba]
      rw [eH]
      have fr := s.free hdx
      obtain ⟨e2, s2⟩ := s.laid hdx (.xd [("value", v)])
      exact lx nv C y S1 σ _ dx q (e.trans e2) ((r.up e s).up e2 s2) ⟨v, upd_same, fr.1, fr.2, a1.up e2⟩
/-! ### try: body / except X as n: suite, where the exception may live on -/
theorem Inv.track {pins : List (Addr × Obj)} {σ : L2.St} {H : Hp} {s : Shared} {a : Addr} {o : HO} (I : Inv X pins σ H s) (na : H a = none) (n0 : X.s_0.heap.get? a = none) (nl : a ≠ X.env.locals) (nc : ∀ x c, X.env.cells.lookup x = some c → c ≠ a)
    (np : ∀ p ∈ X.pn ++ pins, p.1 ≠ a) (ho : ObjOk X.prog X.w (upd H a o) s.heap a o) : Inv X pins σ (upd H a o) s := by
  have ne : ∀ {b : Addr} {u : HO}, H b = some u → b ≠ a := fun {b u} e => ne_of_none e na
  refine ⟨I.ok, I.os, I.bare, ⟨fun b u e n hb hx => I.base.keep b u e n hb hx, fun b u e n hb hx => I.base.slot b u e n hb hx, fun b u e n hx => ?_, fun b u e hx => I.base.there b u e hx, fun b xs e => ?_, fun b u v e => ?_, fun b ps e => ?_⟩, I.loc, I.cell, ?_, fun y c e => ?_, fun p hp => ?_, fun b u e => ?_, I.len⟩
  · have hb : b ≠ a := fun z => by rw [z, n0] at e; cases e
    rw [upd_ne hb]
    exact I.base.free b u e n hx
  · have z := I.base.tups b xs e
    rw [upd_ne (ne z)]
    exact z
  · have z := I.base.frzs b u v e
    rw [upd_ne (ne z)]
    exact z
  · obtain ⟨more, z⟩ := I.base.tbls b ps e
    exact ⟨more, by rw [upd_ne (ne z)]; exact z⟩
  · rw [upd_ne nl.symm]
    exact I.free
  · rw [upd_ne (nc y c e)]
    exact I.freeC y c e
  · obtain ⟨h1, h2, h3⟩ := I.pin p hp
    exact ⟨h1, by rw [upd_ne (np p hp)]; exact h2, h3⟩
  · by_cases hb : b = a
    · subst hb
      rw [upd_same] at e
      cases e
      exact ho
    · rw [upd_ne hb] at e
      exact (I.hok b u e).stay (fun _ _ _ z => z) (fun c z => by rw [upd_ne (ne z)]; exact z) fun c xs z => by rw [upd_ne (ne z)]; exact z
theorem exv_ok {P : Program} {w : World} {H : Hp} {h : Heap} {a : Addr} {cls : Value} {d : Option Addr} {oe : Obj} {vs : Array Value} (he : h.get? a = some oe) (hz : Zc cls d oe) (hd : oe.data = .fields vs) : ObjOk P w H h a (exv a cls d) :=
  ⟨⟨oe, vs, he, hz, hd⟩, ⟨oe, he⟩, fun h1 h2 ⟨o, v, q1, q2, q3⟩ k => ⟨o, v, k _ q1, q2, q3⟩⟩
def wEs (K : PySem.W.Frag) (c : Value) (i : Nat) (ts : TS) (Wout : WX) (D : Ends) : WX := fun cls d σ H =>
  ∃ b, PySem.W.exmOne K cls c = some b ∧ (b = true → ∀ a, H a = none → ts { nx := fun σ' H' => D.nx (σ'.set i none) H', rt := D.rt, bk := fun σ' H' => D.bk (σ'.set i none) H', ct := fun σ' H' => D.ct (σ'.set i none) H' } (σ.set i (some (.ref a))) (upd H a (exv a cls d))) ∧
    (b = false → Wout cls d σ H)
/-- the context of the suite -/
abbrev suiteE (X : Cx) (a : Addr) (pn : List (Addr × Obj)) : Cx := X.suite a pn
theorem Inv.suiteE {pins : List (Addr × Obj)} {σ : L2.St} {H : Hp} {s : Shared} (I : Inv X pins σ H s) (a : Addr) : Inv (suiteE X a (X.pn ++ pins)) [] σ H s :=
  ⟨I.ok.suite _ _, I.os, I.bare, I.base, I.loc, I.cell, I.free, I.freeC, fun p hp => I.pin p (by rw [List.append_nil] at hp; exact hp), I.hok, I.len⟩
theorem Inv.unsuiteE {pins pn' : List (Addr × Obj)} {σ : L2.St} {H : Hp} {s : Shared} {a : Addr} (I : Inv (Lay.suiteE X a (X.pn ++ pins)) pn' σ H s) (ok : X.Ok) : Inv X pins σ H s :=
  ⟨ok, I.os, I.bare, I.base, I.loc, I.cell, I.free, I.freeC, fun p hp => I.pin p (List.mem_append_left _ hp), I.hok, I.len⟩
theorem ps_try_esc {c : Value} {i : Nat} {body suite : List Stmt} {b₀ : Stmt} {tb : WX → TS} {ts : TS} {Wout : WX} (hs : X.stack = X.env :: X.outer) (hf : X.env.frame = some X.env.locals) (hex : X.ex = []) (hN : X.N.Nodup) (hi : X.N[i]? = some n) (hln : X.env.kindOf n = some .local) (hc : Names X x c) (tk : Takes X Wout)
    (hb : ∀ (W : WX) (pn : List (Addr × Obj)) (xe : Value → Shared → Prop), Takes (X.tr pn xe) W → PassesOwn (model X.prog X.w) X.A X.env xe → PSs (X.tr pn xe) body (tb W))
    (hsu : ∀ (a : Addr) (pn : List (Addr × Obj)), PSs (suiteE X a pn) (b₀ :: suite) ts) :
    PS X (.Try body [.ExceptHandler (some (.Name x np)) (some n) (b₀ :: suite) pos'] [] [] pos) (fun D σ H => tb (wEs X.K c i ts Wout D) D σ H) := by
  refine ⟨fun pins s σ H D I h => ?_⟩
  have ok := I.ok
  have hfr : X.A.frames = some (X.env :: X.outer) := by rw [ok.frames, hs]
  have hloc : Loc X.env.scope n := .inl hln
  refine wpAny_Try_except ?_
  refine wpAny_mono ((hb (wEs X.K c i ts Wout D) (X.pn ++ pins) (fun e s₁ => wpAny (model X.prog X.w) X.A (noteFrame e X.env) (fun _ s₂ => wpAny (model X.prog X.w) X.A (setFlight e none) (fun _ s₃ =>
    wpAny (model X.prog X.w) X.A (handleBy e X.env [.ExceptHandler (some (.Name x np)) (some n) (b₀ :: suite) pos']) (SP X pins D) X.xe s₃) X.xe s₂) X.xe s₁) (fun u s' xx => ?_) PassesOwn.looking).run [] s σ H D (I.toTry _) h) (fun f s1 hsp => ?_) (fun e s1 he => he)
  · -- the catch
    obtain ⟨a, B, sI, pins', σ', H', cls, d, rfl, J', nb, up, sky, na, os, ag, b, hb1, hyes, hno⟩ := xx
    have J : Inv X pins σ' H' sI := J'.ofTry ok
    have sky' : Sky B (X.env :: X.outer) a (Zc cls d) X.env.locals s'.heap := by rw [← hs]; exact sky
    show wpAny (model X.prog X.w) X.A (noteFrame (.ref a) X.env) _ _ _
    refine Sky.land Zc.steady hfr hf sky' fun h3 fl3 up3 => ?_
    have J3 : Inv X pins σ' H' { s' with heap := h3 } := J.landed nb fl3.1 (up.trans up3) os ag
    obtain ⟨oe3, vs3, he3, hz3, hd3⟩ := fl3.there
    have notFr : ∀ {h : Heap} {o : Obj} {vs : Array Value}, h.FunFrames B (X.env :: X.outer) → h.get? a = some o → o.data = .fields vs → a ∉ frs (X.env :: X.outer) := fun {h o vs} ff e dd hm => by
      obtain ⟨_, o', e', hnf⟩ := ff.mem hm
      rw [e] at e'; cases e'
      exact hnf _ dd
    have nfr := notFr fl3.2.2.1 he3 hd3
    have nfs : a ∉ frs X.stack := by rw [hs]; exact nfr
    have nL : a ≠ X.env.locals := fun z => nfr (List.mem_filterMap.mpr ⟨X.env, List.mem_cons_self, by rw [hf, z]⟩)
    have nF : a ∉ X.fs := fun hm => by
      obtain ⟨e, he, q⟩ := List.mem_filterMap.mp hm
      exact nfr (List.mem_filterMap.mpr ⟨e, List.mem_cons_of_mem _ he, q⟩)
    have nI : sI.heap.get? a = none := by
      cases e : sI.heap.get? a with
      | none => rfl
      | some o =>
        have z := nb a o e nfs
        rw [fl3.2.1] at z
        cases z
    have n0 : X.s_0.heap.get? a = none := by
      cases e : X.s_0.heap.get? a with
      | none => rfl
      | some o =>
        obtain ⟨o', z⟩ := J.base.there a o e (by rw [hex]; exact fun z => nomatch z)
        rw [nI] at z
        cases z
    have ncell : ∀ y cc, X.env.cells.lookup y = some cc → cc ≠ a := fun y cc e z => by
      obtain ⟨v, hv⟩ := J.cell y cc e
      rw [z] at hv
      obtain ⟨o, z1, _⟩ := hv
      rw [nI] at z1
      cases z1
    have npin : ∀ p ∈ X.pn ++ pins, p.1 ≠ a := fun p hp z => by
      have q := (J.pin p hp).1
      rw [z, nI] at q
      cases q
    have S3 := J3.suite he3 hd3 na nL nF
    refine wpAny_handleBy_cons (codeAny_handlers_test ?_) (by intro q; cases q)
    have LT : PySem.W.Looks (model X.prog X.w) h3 (typeOf (.ref a)) cls := fun A Q E s k q => wpAny_typeOf_ref (k _ _ he3) (by rw [hz3.1]; exact q)
    have LM := PySem.W.exm_one (M := model X.prog X.w) (J3.kIn) LT hb1
    have test : ∀ {Q : Value → Shared → Prop} {E : Value → Shared → Prop}, Q c { s' with heap := h3 } → wpAny (model X.prog X.w) (X.A.mark (some (.ref a))) (eval (.Name x np) X.env) Q E { s' with heap := h3 } := fun {Q E} q => by
      obtain ⟨hg, hdbg, hm | ⟨hm, hv, hnn⟩⟩ := hc
      · exact ld_glob (X := X.suite a ((a, oe3) :: (X.pn ++ pins))) S3 hg hm q hdbg
      · exact ld_blt (X := X.suite a ((a, oe3) :: (X.pn ++ pins))) S3 hg hm hv q hnn hdbg
    refine test (LM.here ?_)
    cases b with
    | true =>
      refine codeAny_handlers_suite_as ?_
      refine HandSPX.lands_againZ fl3 fun h4 fl4 up4 => ?_
      have J4 : Inv X pins σ' H' { s' with heap := h4 } := J.landed nb fl4.1 ((up.trans up3).trans up4) os ag
      obtain ⟨oe4, vs4, he4, hz4, hd4⟩ := fl4.there
      have T4 : Inv X pins σ' (upd H' a (exv a cls d)) { s' with heap := h4 } := Inv.track J4 na n0 nL ncell npin (exv_ok he4 hz4 hd4)
      have S4 := Inv.suiteE T4 a
      refine store_ok (X := suiteE X a (X.pn ++ pins)) (v := .ref a) S4 hN hi hloc rfl (fun s5 S5 => ?_) (.inr hln)
      refine wpAny_mono ((hsu a (X.pn ++ pins)).run [] s5 _ _ _ S5 (hyes rfl a na)) (fun f s6 hsp => ?_) (fun _ _ z => False.elim z)
      have end_ : ∀ {σ6 : L2.St} {H6 : Hp} {Q : Shared → Prop}, Inv (suiteE X a (X.pn ++ pins)) [] σ6 H6 s6 → (∀ s7, Inv X pins (σ6.set i none) H6 s7 → Q s7) →
          wpAny (model X.prog X.w) X.A (do bindName X.env n .none; unbindBehindTheSuite X.env n pos') (fun _ s7 => Q s7) X.xe s6 := fun {σ6 H6 Q} S6 hq => gone_ok (Inv.unsuiteE S6 ok) hN hi hln hq
      cases f with
      | next =>
        obtain ⟨σ6, H6, S6, q6⟩ := hsp
        exact end_ S6 fun s7 J7 => ⟨_, _, J7, q6⟩
      | brk =>
        obtain ⟨σ6, H6, S6, q6⟩ := hsp
        exact end_ S6 fun s7 J7 => ⟨_, _, J7, q6⟩
      | cont =>
        obtain ⟨σ6, H6, S6, q6⟩ := hsp
        exact end_ S6 fun s7 J7 => ⟨_, _, J7, q6⟩
      | ret u =>
        obtain ⟨v6, σ6, H6, S6, r6, q6⟩ := hsp
        exact end_ S6 fun s7 J7 => ⟨_, _, _, J7, r6, q6⟩
    | false =>
      show wpAny _ X.A (handleBy (.ref a) X.env []) _ _ _
      refine wpAny_handleBy_nil ?_
      obtain ⟨k1, k2, k3, oe, vs, T, oT, ts', he, hz, hd, h1, hr⟩ := id fl3
      unfold PySem.passOn
      refine wpAny_bind (wpAny_field he hd h1 ?_)
      rw [if_neg (show ¬ ((Value.ref T == Value.none) = true) from by simp)]
      have fin : wpAny (model X.prog X.w) X.A (setFlight (.ref a) X.env.frame) (fun _ s4 => wpAny (model X.prog X.w) X.A (throw (.ref a) : Sem Flow) (SP X pins D) X.xe s4) X.xe { s' with heap := h3 } := by
        rw [hf]
        refine HandSPX.setFlight_upZ fl3 fun h4 hh4 up4 => wpAny_throw (tk _ _ ?_)
        exact ⟨a, B, sI, pins, σ', H', cls, d, rfl, J, nb, (up.trans up3).trans up4, .inr (.inr (by rw [hs]; exact hh4)), na, os, ag, hno rfl⟩
      first
        | exact wpAny_bind (wpAny_pure (wpAny_bind fin))
        | exact wpAny_bind fin
  · cases f with
    | next =>
      obtain ⟨σ', H', J', q⟩ := hsp
      exact wpAny_execs_nil ⟨σ', H', J'.ofTry ok, q⟩
    | brk =>
      obtain ⟨σ', H', J', q⟩ := hsp
      exact ⟨σ', H', J'.ofTry ok, q⟩
    | cont =>
      obtain ⟨σ', H', J', q⟩ := hsp
      exact ⟨σ', H', J'.ofTry ok, q⟩
    | ret u =>
      obtain ⟨v, σ', H', J', r, q⟩ := hsp
      exact ⟨v, σ', H', J'.ofTry ok, r, q⟩
end
end Lay

namespace Lay
open PySem L2 PyProof.Rows
section
variable {X : Cx} {W : WX} {R : Addr} {T : TabE} {x n : Str} {e : Expr} {te : TEA} {p pos pos' np : Pos}
def cS (ts : TSA) : TS := fun D' σ H => ∃ M nv S D, Rl M S H σ nv ∧ ts D nv S ∧ Link M S H D D'
def cSX (W : WX) (ts : TSA) : TS := fun D' σ H => ∃ M nv S D, Rl M S H σ nv ∧ ts D nv S ∧ Link M S H D D' ∧ LkX M S H D.ex W
theorem SB.pss {st : List Stmt} {ts : TSA} (h : SB X st ts) : PSs X st (cS ts) := by
  obtain ⟨t, p, k⟩ := h
  exact ⟨fun pins s σ H D' I ⟨M, nv, S, D, r, q, l⟩ => p.run pins s σ H D' I (k M σ H nv S D D' r q l)⟩
theorem BX.pss {st : List Stmt} {ts : TSA} (h : BX X W st ts) : PSs X st (cSX W ts) := by
  obtain ⟨t, p, k⟩ := h
  exact ⟨fun pins s σ H D' I ⟨M, nv, S, D, r, q, l, lx⟩ => p.run pins s σ H D' I (k M σ H nv S D D' r q l lx)⟩
theorem Rl.unset {M : Msk} {S : Sto} {H : Hp} {σ : L2.St} {nv : Nv} (r : Rl M S H σ nv) (i : Nat) : Rl M S H (σ.set i none) (nv.set i none) := r.wipe [i]
/-- what is known of the exception's class -/
def isErr (T : TabE) (C : Addr) : Prop := ∃ x, T C = some x
def suiteEa (D : Ea) (i : Nat) : Ea := { nx := fun nv2 S2 => D.nx (nv2.set i none) S2, rt := D.rt, bk := fun nv2 S2 => D.bk (nv2.set i none) S2, ct := fun nv2 S2 => D.ct (nv2.set i none) S2 }
def tryEx (T : TabE) (i : Nat) (ts : TSA) (D : Ea) : Nv → Addr → A → Sto → Prop := fun nv' C x S' => isErr T C ∧ ∀ a dx, S' a = none → ts (suiteEa D i) (nv'.set i (some (.ref a))) (sup S' a (.exc C dx x))
def sTry (T : TabE) (i : Nat) (tb ts : TSA) : TSA := fun D nv S => tb { D with ex := tryEx T i ts D } nv S
theorem sx_try {i : Nat} {body suite : List Stmt} {b₀ : Stmt} {tb ts : TSA} (ET : ErrT X.prog X.K X.mg R T) (tk : Takes X W) (hN : X.N.Nodup)
    (hb : ∀ (W : WX) (pn : List (Addr × Obj)) (xe : Value → Shared → Prop), Takes (X.tr pn xe) W → PassesOwn (model X.prog X.w) X.A X.env xe → BX (X.tr pn xe) W body tb)
    (hsu : ∀ (a : Addr) (pn : List (Addr × Obj)), SB (suiteE X a pn) (b₀ :: suite) ts) (hi : X.N[i]? = some n := by rfl) (hln : X.env.kindOf n = some .local := by rfl)
    (hg : Gl X "RentError" := by rfl) (hs : X.stack = X.env :: X.outer := by rfl) (hf : X.env.frame = some X.env.locals := by rfl) (hex : X.ex = [] := by rfl) :
    SX X W (.Try body [.ExceptHandler (some (.Name "RentError" np)) (some n) (b₀ :: suite) pos'] [] [] pos) (sTry T i tb ts) := by
  refine ⟨_, ps_try_esc (tb := fun W => cSX W tb) (ts := cS ts) (Wout := W) hs hf hex hN hi hln (c := .ref R) ⟨hg, by decide, .inl ET.rent⟩ tk (fun W' pn xe tk' po => (hb W' pn xe tk' po).pss) (fun a pn => (hsu a pn).pss), fun M σ H nv S D D' r h l lx => ?_⟩
  refine ⟨M, nv, S, _, r, h, ⟨l.nx, l.rt, l.bk, l.ct⟩, fun nv' C x S' σ' H' dx q e r' d => ?_⟩
  obtain ⟨⟨nm, hT⟩, q⟩ := q
  obtain ⟨_, _, _, _, ex⟩ := ET.init C nm hT
  refine ⟨true, ex, fun _ a ha => ?_, fun z => by cases z⟩
  obtain ⟨u, d1, d2, d3, d4⟩ := d
  have fr := r'.sh.free ha
  have b := r'.sh.born ha (o := exv a (.ref C) (some dx)) (c := .exc C dx x) fun S2 H2 e2 q2 => ⟨u, q2, (e2.keep dx _ d1 d2).1, (e2.keep dx _ d1 d2).2, d3, d4.up e2⟩
  have r2 := (r'.up b.1 b.2).set i (a := .ref a) (v := .ref a) rfl
  have ee := e.trans b.1
  refine ⟨M, _, _, _, r2, q a dx fr.1, ⟨fun nv3 S3 σ3 H3 q3 e3 r3 => l.nx _ S3 _ H3 q3 (ee.trans e3) (r3.unset i), fun z S3 v3 H3 q3 e3 s3 a3 => l.rt z S3 v3 H3 q3 (ee.trans e3) s3 a3, fun nv3 S3 σ3 H3 q3 e3 r3 => l.bk _ S3 _ H3 q3 (ee.trans e3) (r3.unset i), fun nv3 S3 σ3 H3 q3 e3 r3 => l.ct _ S3 _ H3 q3 (ee.trans e3) (r3.unset i)⟩⟩
/-! ### e.value of a caught error -/
def eValue (T : TabE) (te : TEA) : TEA := fun nv S P => te nv S fun x S1 => match x with
  | .ref a => match S1 a with
    | some (.exc C dx v) => isErr T C ∧ P v S1
    | _ => False
  | _ => False
theorem exc_at {M : Msk} {S : Sto} {H : Hp} {a C dx : Addr} {v : A} (s : SH M S H) (q : S a = some (.exc C dx v)) {P : Program} {w : World} {h : Heap} (hok : HOk P w H h) :
    ∃ oe vs u mA, h.get? a = some oe ∧ Zc (.ref C) (some dx) oe ∧ oe.data = .fields vs ∧ h.Ns1 dx mA ∧ (∀ f, RelO (([("value", u)] : List (Str × V)).lookup f) (mA f)) ∧ AV M S H v u := by
  obtain ⟨u, h1, h2, _, _, h5⟩ := (s.cell a _ q).2
  have x1 : ObjOk P w H h a (.ext fun h => ∃ oe vs, h.get? a = some oe ∧ Zc (.ref C) (some dx) oe ∧ oe.data = .fields vs) := hok a _ h1
  obtain ⟨⟨oe, vs, e1, e2, e3⟩, _⟩ := x1
  have x2 : ObjOk P w H h dx (.xd [("value", u)]) := hok dx _ h2
  obtain ⟨mA, hns, hr⟩ := x2
  exact ⟨oe, vs, u, mA, e1, e2, e3, hns, hr, h5⟩
/-- the machine's reading: where the object and its dict stand -/
def tValue (K : PySem.W.Frag) (T : TabE) (t : TE) : TE := fun σ H Q => t σ H fun x H1 => ∃ (a C dx : Addr) (u : V), x = .ref a ∧ isErr T C ∧ H1 a = some (exv a (.ref C) (some dx)) ∧ H1 dx = some (.xd [("value", u)]) ∧ Q u H1
theorem pe_value {te : TE} {M0 : Unit} (ET : ErrT X.prog X.K X.mg R T) (he : PE X e te) (hb : attributeBase e "value" X.env (eval e X.env) = eval e X.env := by rfl) : PE X (.Attribute e "value" pos) (tValue X.K T te) := by
  refine ⟨fun pins s σ H Q I h => ?_⟩
  refine attr_of hb (thn (he.run pins s σ H _ I h) fun u s1 hh => ?_)
  obtain ⟨x, H1, I1, rx, a, C, dx, u', ex, ⟨nm, hT⟩, ha, hd, q⟩ := hh
  subst ex
  obtain rfl : u = Value.ref a := rx
  obtain ⟨_, ⟨fI, fd, EI⟩, XF, _, _⟩ := ET.init C nm hT
  have x1 : ObjOk X.prog X.w H1 s1.heap a (.ext fun h => ∃ oe vs, h.get? a = some oe ∧ Zc (.ref C) (some dx) oe ∧ oe.data = .fields vs) := I1.hok a _ ha
  obtain ⟨⟨oe, vs, e1, e2, e3⟩, _⟩ := x1
  have x2 : ObjOk X.prog X.w H1 s1.heap dx (.xd [("value", u')]) := I1.hok dx _ hd
  obtain ⟨mA, hns, hr⟩ := x2
  obtain ⟨od, ho, hl⟩ := lookIn_ns hns
  obtain ⟨uu, hu, ru⟩ := RelO.some_of (v := u') (o := mA "value") (hr "value")
  have J : PySem.W.InstAt s1.heap a oe C (some od) := ⟨e1, e2.1, by unfold PySem.W.notCls; rw [e3] <;> rfl, by rw [e2.2]; exact ho⟩
  exact HandSPX.exc_get I1.kIn J XF.ga XF.gg XF.exC (PySem.W.findObj_own XF.hdC EI.no rfl (by rw [hl, hu])) (handed_of ru) ⟨u', H1, I1.tok _, ru, q⟩
theorem ea_value (ET : ErrT X.prog X.K X.mg R T) (he : EA X e te) (hb : attributeBase e "value" X.env (eval e X.env) = eval e X.env := by rfl) : EA X (.Attribute e "value" pos) (eValue T te) := by
  obtain ⟨t, p, k⟩ := he
  refine ⟨_, pe_value (M0 := ()) ET p hb, fun M σ H nv S P Q r h w => ?_⟩
  refine k M σ H nv S _ _ r h fun x S1 v H1 q e s av => ?_
  try dsimp only at q
  split at q
  · rename_i a
    split at q
    · rename_i C dx z c
      obtain ⟨u, h1, h2, _, _, h5⟩ := (s.cell a _ c).2
      exact ⟨a, C, dx, u, av, q.1, h1, h2, w z S1 u H1 q.2 e s h5⟩
    · exact q.elim
  · exact q.elim
/-! ### isinstance(e, X) of a caught error -/
def rIsEA (T : TabE) : RAC := fun as S P => match as with
  | [.ref a, .ref D] => match S a with
    | some (.exc C _ _) => ∃ x y, T C = some x ∧ T D = some y ∧ P (.bl (decide (x = y))) S
    | _ => False
  | _ => False
def rIsErr (T : TabE) : List V → Hp → VK → Prop := fun xs H Q => ∃ (a D C dx : Addr) (x y : Str), xs = [.ref a, .ref D] ∧ T C = some x ∧ T D = some y ∧ H a = some (exv a (.ref C) (some dx)) ∧ (∃ u, H dx = some (.xd [("value", u)])) ∧ Q (.bl (decide (x = y))) H
theorem call_isErr (ET : ErrT X.prog X.K X.mg R T) : CallR X (.builtin "isinstance") (rIsErr T) := by
  intro pins s σ H xs us Q I r h
  obtain ⟨a, D, C, dx, x, y, rfl, hC, hD, ha, ⟨u', hd⟩, q⟩ := h
  cases r with
  | cons rx rr =>
    cases rr with
    | cons rt rr =>
      cases rr
      cases rx
      cases rt
      obtain ⟨_, ⟨fI, fd, EI⟩, XF, EC, _⟩ := ET.init C x hC
      have x1 : ObjOk X.prog X.w H s.heap a (.ext fun h => ∃ oe vs, h.get? a = some oe ∧ Zc (.ref C) (some dx) oe ∧ oe.data = .fields vs) := I.hok a _ ha
      obtain ⟨⟨oe, vs, e1, e2, e3⟩, _⟩ := x1
      have x2 : ObjOk X.prog X.w H s.heap dx (.xd [("value", u')]) := I.hok dx _ hd
      obtain ⟨mA, hns, hr⟩ := x2
      obtain ⟨od, ho, hl⟩ := lookIn_ns hns
      have J : PySem.W.InstAt s.heap a oe C (some od) := ⟨e1, e2.1, by unfold PySem.W.notCls; rw [e3] <;> rfl, by rw [e2.2]; exact ho⟩
      have hcl : (PySem.W.clsIn X.K C).isSome = true := by obtain ⟨cd, hc, _⟩ := PySem.W.any_some EC.hd; rw [hc]; rfl
      exact PySem.W.kia_one (PySem.W.kitx_exc hcl EC.hg EC.hk EC.hs EC.ha EC.hn EC.ht EC.hm) I.kIn J (ET.kit C D x y hC hD) (fun z => nomatch z) fun tk => ⟨.bl (decide (x = y)), H, I.kept (t' := tk) fun _ _ z => z, rfl, q⟩
theorem cx_isE (ET : ErrT X.prog X.K X.mg R T) : CallX X (.builtin "isinstance") (rIsEA T) := by
  refine ⟨_, call_isErr ET, fun M S H as vs P Q s av q k => ?_⟩
  unfold rIsEA at q
  split at q
  · rename_i a D
    obtain ⟨v, w, rfl, a1, a2⟩ := avs2 av
    split at q
    · rename_i C dx z c
      obtain ⟨x, y, q1, q2, q3⟩ := q
      obtain ⟨u, h1, h2, _, _, h5⟩ := (s.cell a _ c).2
      exact ⟨a, D, C, dx, x, y, by rw [show v = _ from a1, show w = _ from a2], q1, q2, h1, ⟨u, h2⟩, k.same s q3 rfl⟩
    · exact q.elim
  · exact q.elim
end
end Lay

namespace Lay
open PySem L2 PyProof.Rows
section
variable {X : Cx} {a b c e tg : Expr} {es : List Expr} {ta tb tc te : TEA} {tl : TAA} {pos p p1 p2 p3 p4 : Pos}
/-! ### a < b < c -/
def eChain (ra rb : RA2) (ta tb tc : TEA) : TEA := fun nv S P => ta nv S fun x S1 => tb nv S1 fun y S2 => ra x y S2 fun z S3 => match z with
  | .bl k => bsel k (tc nv S3 fun w S4 => rb y w S4 P) (P (.bl false) S3)
  | _ => False
theorem chain_rel {t1 t2 t3 : TE} {ra rb : RA2} {r r' : R2} (k1 : ER t1 ta) (k2 : ER t2 tb) (k3 : ER t3 tc) (h1 : ∀ M S H x y u v P Q, SH M S H → AV M S H x u → AV M S H y v → ra x y S P → Wk M P S H Q → r u v H Q)
    (h2 : ∀ M S H x y u v P Q, SH M S H → AV M S H x u → AV M S H y v → rb x y S P → Wk M P S H Q → r' u v H Q) : ER (tChain r r' t1 t2 t3) (eChain ra rb ta tb tc) := by
  intro M σ H nv S P Q q h w
  refine k1 M σ H nv S _ _ q h fun x S1 v1 H1 q1 e1 s1 a1 => ?_
  refine k2 M σ H1 nv S1 _ _ (q.up e1 s1) q1 fun y S2 v2 H2 q2 e2 s2 a2 => ?_
  refine h1 M S2 H2 x y v1 v2 _ _ s2 (a1.up e2) a2 q2 fun z S3 v3 H3 q3 e3 s3 a3 => ?_
  try dsimp only at q3
  split at q3
  · rename_i k
    refine ⟨k, a3, bsel_if ?_⟩
    have e13 := (e1.trans e2).trans e3
    cases k with
    | true => exact k3 M σ H3 nv S3 _ _ (((q.up e1 s1).up e2 s2).up e3 s3) q3 fun z4 S4 v4 H4 q4 e4 s4 a4 => h2 M S4 H4 y z4 v2 v4 P Q s4 ((a2.up e3).up e4) a4 q4 fun z5 S5 v5 H5 q5 e5 s5 a5 => w z5 S5 v5 H5 q5 ((e13.trans e4).trans e5) s5 a5
    | false => exact w _ S3 _ H3 q3 e13 s3 rfl
  · exact q3.elim
theorem ea_chain {op op' : CmpOp} {ra rb : RA2} (ho : OpX X (compareOp op) ra) (ho' : OpX X (compareOp op') rb) (ha : EA X a ta) (hb : EA X b tb) (hc : EA X c tc) (hm : lastMarks [op, op'] [b, c] = false := by with_unfolding_all rfl) :
    EA X (.Compare a [op, op'] [b, c] pos) (eChain ra rb ta tb tc) := by
  obtain ⟨r, h1, h2⟩ := ho
  obtain ⟨r', h3, h4⟩ := ho'
  obtain ⟨t1, p1, k1⟩ := ha
  obtain ⟨t2, p2, k2⟩ := hb
  obtain ⟨t3, p3, k3⟩ := hc
  exact ⟨_, pe_chain h1 h3 p1 p2 p3 hm, chain_rel k1 k2 k3 h2 h4⟩
theorem tt_chain {op op' : CmpOp} {ra rb : RA2} (ho : OpX X (compareOp op) ra) (ho' : OpX X (compareOp op') rb) (ha : EA X a ta) (hb : EA X b tb) (hc : EA X c tc) (hm : lastMarks [op, op'] [b, c] = false := by with_unfolding_all rfl) :
    TA' X (.Compare a [op, op'] [b, c] pos) (tBool (eChain ra rb ta tb tc)) := by
  obtain ⟨r, h1, h2⟩ := ho
  obtain ⟨r', h3, h4⟩ := ho'
  obtain ⟨t1, p1, k1⟩ := ha
  obtain ⟨t2, p2, k2⟩ := hb
  obtain ⟨t3, p3, k3⟩ := hc
  exact ⟨_, pt_chain h1 h3 p1 p2 p3 hm, TR_bool (chain_rel k1 k2 k3 h2 h4)⟩
/-! ### enumerate(xs) -/
def enumA (xs : List A) : List A := (List.range xs.length).map fun i => .tup [.int (i : Nat), (xs[i]?).getD .non]
theorem enumA_len (xs : List A) : (enumA xs).length = xs.length := by unfold enumA; rw [List.length_map, List.length_range]
theorem enumA_get {xs : List A} {i : Nat} {z : A} (h : (enumA xs)[i]? = some z) : ∃ x, xs[i]? = some x ∧ z = .tup [.int (i : Nat), x] := by
  have hi : i < xs.length := by
    have := (List.getElem?_eq_some_iff.mp h).1
    rwa [enumA_len] at this
  unfold enumA at h
  rw [List.getElem?_map, List.getElem?_range hi] at h
  have h' : A.tup [.int (i : Nat), (xs[i]?).getD .non] = z := Option.some.inj h
  rw [List.getElem?_eq_getElem hi] at h' ⊢
  exact ⟨xs[i], rfl, h'.symm⟩
def wEnum (te : TEA) : TIA := fun nv S P => te nv S fun x S1 => ∃ xs, lstr S1 x = some xs ∧ P (enumA xs) (fun S' => lstr S' x = some xs) S1
theorem ia_enum {elts : List Expr} {kk : Nat} {tpos : Pos} (hm : X.mg "enumerate" = none) (h : EA X e te) (hg : Gl X "enumerate" := by rfl) (hs : starEach [e] X.env = (false, eval e X.env) :: starEach [] X.env := by rfl) (hs1 : starEach [e] X.env = [(false, eval e X.env)] := by rfl) :
    IA X (.Tuple elts kk tpos) (.Call (.Name "enumerate" p) [e] [] pos) (wEnum te) := by
  obtain ⟨t, pp, k⟩ := la_cons h la_nil hs
  refine ⟨_, pi_enum hg hm pp hs1, fun M σ H nv S P R r q w => ?_⟩
  refine k M σ H nv S (fun as S1 => ∃ x xs, as = [x] ∧ lstr S1 x = some xs ∧ P (enumA xs) (fun S' => lstr S' x = some xs) S1) _ r ?_ fun as S1 vs H1 n q1 e1 s1 av => ?_
  · show te nv S fun z S1 => ∃ x xs, [z] = [x] ∧ lstr S1 x = some xs ∧ P (enumA xs) (fun S' => lstr S' x = some xs) S1
    have e : (fun (z : A) (S1 : Sto) => ∃ x xs, [z] = [x] ∧ lstr S1 x = some xs ∧ P (enumA xs) (fun S' => lstr S' x = some xs) S1) = fun z S1 => ∃ xs, lstr S1 z = some xs ∧ P (enumA xs) (fun S' => lstr S' z = some xs) S1 := by
      funext z S1
      exact propext ⟨fun ⟨x, xs, e, h⟩ => by cases e; exact ⟨xs, h⟩, fun ⟨xs, h⟩ => ⟨z, xs, rfl, h⟩⟩
    rw [e]
    exact q
  · obtain ⟨x, xs, rfl, h1, h2⟩ := q1
    obtain ⟨v, rfl, av1⟩ := avs1 av
    clear av
    obtain ⟨a, vs, g1, g2, g3⟩ := lstr_ok s1 av1 h1
    refine ⟨a, vs, by rw [g1], .inl g2, w _ _ S1 H1 _ h2 e1 s1 ⟨fun M' S' H' hm e s kp i => ?_⟩⟩
    have av' : AV M' S' H' x v := AV.mono ⟨fun b o hb sb mb => ⟨(e.keep b o hb sb).1, (e.keep b o hb sb).2, hm b o hb mb⟩⟩ x v av1
    obtain ⟨a', vs', g1', g2', g3'⟩ := lstr_ok s av' kp
    have ea : a' = a := by
      rw [g1] at g1'
      exact (V.ref.inj g1').symm
    subst ea
    have hl := g3'.len
    rw [enumA_len]
    refine ⟨fun hi => ⟨vs', .inl g2', by omega⟩, fun z hz => ?_⟩
    obtain ⟨y, hy, rfl⟩ := enumA_get hz
    obtain ⟨v', f1, f2⟩ := g3'.get hy
    refine ⟨⟨vs', v', .inl g2', f1⟩, fun u H2 ⟨T, x2, hT, hn, hh, hx⟩ => ?_⟩
    subst hh hT
    have ey := hx vs' (.inl g2')
    rw [f1] at ey
    cases ey
    have fr := s.free hn
    obtain ⟨e2, s2⟩ := s.laid hn (.tup [.int (i : Nat), v'])
    exact ⟨e2, s2, T, _, rfl, fr.1, fr.2, upd_same, .two rfl (f2.up e2)⟩
/-! ### list(x), tuple(x), list(range(..)) -/
/-- items of a list or a tuple -/
def seqv (S : Sto) : A → Option (List A)
  | .tup xs => some xs
  | x => lstr S x
def rListA : RAC := fun as S P => match as with
  | [x] => ∃ xs, seqv S x = some xs ∧ P (.lst xs) S
  | _ => False
def rListC : RAC := fun as S P => match as with
  | [x] => ∃ xs, seqv S x = some xs ∧ ∀ p, S p = none → P (.ref p) (sup S p (.lst xs))
  | _ => False
theorem seqv_ok {M : Msk} {S : Sto} {H : Hp} {x : A} {u : V} {xs : List A} {K : PySem.W.Frag} (s : SH M S H) (a : AV M S H x u) (h : seqv S x = some xs) : ∃ p vs, u = .ref p ∧ (SqL K H p vs ∨ SqT K H p vs) ∧ AVs M S H xs vs := by
  cases x with
  | tup ys =>
    cases h
    obtain ⟨p, vs, h1, h2, h3, h4, h5⟩ := a
    exact ⟨p, vs, h1, .inr (SqT.of h4), h5⟩
  | _ =>
    obtain ⟨p, vs, h1, h2, h3⟩ := lstr_ok s a h
    exact ⟨p, vs, h1, .inl (.inl h2), h3⟩
theorem cx_list : CallX X (.type "list") rListA := by
  refine ⟨_, call_list_of, fun M S H as vs P Q s av q k => ?_⟩
  unfold rListA at q
  split at q
  · obtain ⟨v, rfl, a1⟩ := avs1 av
    obtain ⟨xs, h1, h2⟩ := q
    obtain ⟨p, vs, g1, g2, g3⟩ := seqv_ok (K := X.K) s a1 h1
    exact ⟨p, vs, by rw [g1], g2, fun l hl => k.lst s g3 h2 hl⟩
  · exact q.elim
theorem cx_listC : CallX X (.type "list") rListC := by
  refine ⟨_, call_list_of, fun M S H as vs P Q s av q k => ?_⟩
  unfold rListC at q
  split at q
  · obtain ⟨v, rfl, a1⟩ := avs1 av
    obtain ⟨xs, h1, h2⟩ := q
    obtain ⟨p, vs, g1, g2, g3⟩ := seqv_ok (K := X.K) s a1 h1
    exact ⟨p, vs, by rw [g1], g2, fun l hl => k.cell s g3 h2 hl⟩
  · exact q.elim
def rTupleA : RAC := fun as S P => match as with
  | [.tup xs] => P (.tup xs) S
  | [x] => ∃ xs, lstr S x = some xs ∧ P (.tup xs) S
  | _ => False
theorem cx_tuple : CallX X (.type "tuple") rTupleA := by
  refine ⟨_, call_tuple_of, fun M S H as vs P Q s av q k => ?_⟩
  unfold rTupleA at q
  split at q
  · obtain ⟨v, rfl, a1⟩ := avs1 av
    obtain ⟨p, vs, h1, h2, h3, h4, h5⟩ := id a1
    exact ⟨p, vs, by rw [h1], .inr ⟨SqT.of h4, by rw [← h1]; exact k.same s q a1⟩⟩
  · obtain ⟨v, rfl, a1⟩ := avs1 av
    obtain ⟨xs, h1, h2⟩ := q
    obtain ⟨p, vs, g1, g2, g3⟩ := lstr_ok s a1 h1
    exact ⟨p, vs, by rw [g1], .inl ⟨.inl g2, fun l hl => k.tup s g3 h2 hl⟩⟩
  · exact q.elim
theorem avs_rg {M : Msk} {S : Sto} {H : Hp} (lo : Int) (n : Nat) : AVs M S H (rngA lo n) ((List.range n).map fun i => V.int (lo + (i : Nat))) := by
  unfold rngA
  generalize List.range n = l
  induction l with
  | nil => rfl
  | cons i l ih => exact ⟨_, _, rfl, rfl, ih⟩
def eListR1 (te : TEA) : TEA := fun nv S P => te nv S fun x S1 => match x with
  | .int n => (0 ≤ n ∧ n ≤ 1000000) ∧ P (.lst (rngA 0 n.toNat)) S1
  | _ => False
theorem ea_listR1 {q1 q2 : Pos} (hm : X.mg "list" = none) (hm2 : X.mg "range" = none) (h : EA X e te) (hc : X.calm = true := by rfl) (hg : Gl X "list" := by rfl) (hg2 : Gl X "range" := by rfl) (na : starEach [e] X.env = (false, eval e X.env) :: starEach [] X.env := by rfl)
    (nb : starEach [.Call (.Name "range" q1) [e] [] q2] X.env = (false, eval (.Call (.Name "range" q1) [e] [] q2) X.env) :: starEach [] X.env := by rfl) : EA X (.Call (.Name "list" p) [.Call (.Name "range" q1) [e] [] q2] [] pos) (eListR1 te) := by
  obtain ⟨t, pp, k⟩ := h
  refine ⟨_, pe_listRg hc hg hm (prg_1 hg2 hm2 pp na) nb, fun M σ H nv S P Q r h w => ?_⟩
  refine k M σ H nv S _ _ r h fun x S1 v H1 q e s av => ?_
  try dsimp only at q
  split at q
  · rename_i n
    refine ⟨n, av, ?_⟩
    refine ⟨.of_le (by decide) (by omega) (by decide) q.1.1, fun l hl => ?_⟩
    have e0 : rgV 0 n = (List.range n.toNat).map fun i => V.int (0 + (i : Nat)) := by
      unfold rgV
      rw [Int.sub_zero]
    rw [e0]
    exact Wk.lst (fun z S2 v2 H2 q2 e2 s2 a2 => w z S2 v2 H2 q2 (e.trans e2) s2 a2) s (avs_rg 0 n.toNat) q.2 hl
  · exact q.elim
/-! ### xs * n -/
def rMulA : RA2 := fun x y S P => match x, y with
  | .int i, .int j => CMulW i j ∧ P (.int (i * j)) S
  | x, .int j => ∃ xs, lstv S x = some xs ∧ 0 ≤ j ∧ j ≤ 1000 ∧ xs.length ≤ 1000 ∧ P (.lst (List.replicate j.toNat xs).flatten) S
  | _, _ => False
def rRepA : RA2 := fun x y S P => match y with
  | .int j => ∃ xs, lstv S x = some xs ∧ 0 ≤ j ∧ j ≤ 1000 ∧ xs.length ≤ 1000 ∧ P (.lst (List.replicate j.toNat xs).flatten) S
  | _ => False
theorem avs_rep {M : Msk} {S : Sto} {H : Hp} {xs : List A} {vs : List V} (a : AVs M S H xs vs) : ∀ n : Nat, AVs M S H (List.replicate n xs).flatten (List.replicate n vs).flatten
  | 0 => rfl
  | n + 1 => by
    rw [List.replicate_succ, List.replicate_succ, List.flatten_cons, List.flatten_cons]
    exact a.app (avs_rep a n)
theorem ox_rep : OpX X (binaryOp .Mult) rRepA := by
  refine ⟨_, op_rep, fun M S H x y u v P Q s ax ay q k => ?_⟩
  unfold rRepA at q
  split at q
  · rename_i j
    obtain ⟨xs, h1, h2, h3, h4, h5⟩ := q
    obtain ⟨p, vs, g1, g2, g3⟩ := lstv_ok s ax h1
    refine ⟨p, j, vs, g1, ay, g2, by omega, by omega, ?_, fun l hl => k.lst s (avs_rep g3 _) h5 hl⟩
    rw [g3.len, sizeLine_eq]
    calc xs.length * j.toNat ≤ 1000 * 1000 := Nat.mul_le_mul h4 (by omega)
      _ ≤ 16777216 := by decide
  · exact q.elim
theorem oa_mulL : OpX X (binaryOp .Mult) rMulA := oa_mul.or ox_rep fun x y S P q => by
  unfold rMulA at q
  split at q
  · exact .inl q
  · exact .inr q
  · exact q.elim
/-! ### sorted(ints), xs[::-1], len(set(ints)) -/
def rSortedA : RAC := fun as S P => match as with
  | [x] => ∃ ns : List Int, lstr S x = some (ns.map .int) ∧ ∀ ms : List Int, ms.Perm ns → ms.Pairwise (· ≤ ·) → P (.lst (ms.map .int)) S
  | _ => False
theorem cx_sorted : CallX X (.builtin "sorted") rSortedA := by
  refine ⟨_, cr_sortedI, fun M S H as vs P Q s av q k => ?_⟩
  unfold rSortedA at q
  split at q
  · obtain ⟨v, rfl, a1⟩ := avs1 av
    obtain ⟨ns, h1, h2⟩ := q
    obtain ⟨p, vs, g1, g2, g3⟩ := lstr_ok s a1 h1
    rw [avs_ints g3] at g2
    exact ⟨p, ns, by rw [g1], .inl g2, fun ms l hp hs hl => k.lst s (avs_of_ints ms) (h2 ms hp hs) hl⟩
  · exact q.elim
def eRev (te : TEA) : TEA := fun nv S P => te nv S fun x S1 => ∃ xs, lstr S1 x = some xs ∧ P (.lst xs.reverse) S1
theorem AVs.rev {M : Msk} {S : Sto} {H : Hp} : ∀ {xs : List A} {vs : List V}, AVs M S H xs vs → AVs M S H xs.reverse vs.reverse
  | [], _, h => by rw [show _ = _ from h]; rfl
  | x :: xs, _, ⟨v, r, h1, h2, h3⟩ => by
    subst h1
    rw [List.reverse_cons, List.reverse_cons]
    exact (AVs.rev h3).app (.one h2)
theorem ea_rev {k : Nat} (h : EA X e te) : EA X (.Subscript e (.Slice none none (some (.UnaryOp .USub (.Constant (.int 1) k p1) p2)) p3) pos) (eRev te) := by
  obtain ⟨t, pp, kk⟩ := h
  refine ⟨_, pe_revL pp, fun M σ H nv S P Q r h w => ?_⟩
  refine kk M σ H nv S _ _ r h fun x S1 v H1 q e s av => ?_
  obtain ⟨xs, h1, h2⟩ := q
  obtain ⟨a, vs, g1, g2, g3⟩ := lstr_ok s av h1
  exact ⟨a, vs, g1, .inl g2, fun l hl => Wk.lst (fun z S2 v2 H2 q2 e2 s2 a2 => w z S2 v2 H2 q2 (e.trans e2) s2 a2) s g3.rev h2 hl⟩
/-- how many different ones -/
def dist (ns : List Int) : Nat := (firstMet (fun i => ns.getD i 0) ns.length).length
def rSetI (K : PySem.W.Frag) : List V → Hp → VK → Prop := fun vs H Q => ∃ (a : Addr) (ns : List Int), vs = [V.ref a] ∧ SqL K H a (ns.map V.int) ∧ ns.length ≤ 1000 ∧ ∀ p S, H p = none → Q (.ref p) (upd H p (.set S (dist ns)))
theorem call_setI (hc : X.calm = true) : CallR X (.type "set") (rSetI X.K) := by
  intro pins s σ H vs us Q I r h
  obtain ⟨a, ns, rfl, hq, hl, q⟩ := h
  obtain ⟨its, rv, hl2, hz⟩ := I.list hq
  rw [Vals.ref1 r]
  have hi := rv.ints
  have hlen : its.length = ns.length := by rw [← rv.length, List.length_map]
  refine call_set_list (ns := ns) (I.ok.hd hc) hl2.isList (by simpa using hi) (by rw [List.size_toArray, hlen]; unfold scanBound; omega) fun h' tk hS hk => ?_
  have nf : H s.heap.objs.size = none := I.hok.fresh (Nat.le_refl _)
  have e : its.toArray.size = ns.length := by rw [List.size_toArray, hlen]
  rw [e] at hS
  exact ⟨.ref s.heap.objs.size, _, I.laid (t' := tk) (fun b o e => hk b o (Heap.lt_size e) e) (Nat.le_refl _) (o := .set (fun k' => (firstMet (fun i => ns.getD i 0) ns.length).any (· == k')) (dist ns)) hS, rfl, q _ _ nf⟩
def rLenS : List V → Hp → VK → Prop := fun vs H Q => ∃ (p : Addr) (S : Int → Bool) (n : Nat), vs = [V.ref p] ∧ H p = some (.set S n) ∧ n ≤ 1000 ∧ Q (.int n) H
theorem call_lenS : CallR X (.builtin "len") rLenS := by
  intro pins s σ H vs us Q I r h
  obtain ⟨p, S, n, rfl, hp, hn, q⟩ := h
  rw [Vals.ref1 r]
  have hS : s.heap.SetOf (intKind X.prog X.w) p S n := I.hok p _ hp
  obtain ⟨o, es, ep, t, h1, h2, h3, h4, h5, h6, h7, h8⟩ := hS
  subst h8
  exact call_len_set h1 h2 h3 h7 (by omega) ⟨.int _, H, I.tok _, ⟨_, rfl⟩, q⟩
def eLenSet (te : TEA) : TEA := fun nv S P => te nv S fun x S1 => ∃ ns : List Int, lstr S1 x = some (ns.map .int) ∧ ns.length ≤ 1000 ∧ P (.int (dist ns)) S1
theorem dist_le (ns : List Int) : dist ns ≤ ns.length := firstMet_length_le _ _
theorem ea_lenSet {q1 q2 : Pos} (hm : X.mg "len" = none) (hm2 : X.mg "set" = none) (h : EA X e te) (hc : X.calm = true := by rfl) (hg : Gl X "len" := by rfl) (hg2 : Gl X "set" := by rfl) (na : starEach [e] X.env = (false, eval e X.env) :: starEach [] X.env := by rfl)
    (nb : starEach [.Call (.Name "set" q1) [e] [] q2] X.env = (false, eval (.Call (.Name "set" q1) [e] [] q2) X.env) :: starEach [] X.env := by rfl) : EA X (.Call (.Name "len" p) [.Call (.Name "set" q1) [e] [] q2] [] pos) (eLenSet te) := by
  obtain ⟨t, pp, k⟩ := h
  refine ⟨_, pe_callB call_lenS hg hm (by decide +kernel) (pa_cons (pe_callTy (call_setI hc) hg2 hm2 (by decide +kernel) (pa_cons pp pa_nil na) (by decide) (by decide) na (by rfl)) pa_nil nb) (by decide) (by decide) nb (by rfl), fun M σ H nv S P Q r h w => ?_⟩
  refine k M σ H nv S _ _ r h fun x S1 v H1 q e s av => ?_
  obtain ⟨ns, h1, h2, h3⟩ := q
  obtain ⟨a, vs, g1, g2, g3⟩ := lstr_ok s av h1
  rw [avs_ints g3] at g2
  refine ⟨a, ns, by rw [g1], .inl g2, h2, fun p D hp => ⟨p, D, _, rfl, upd_same, Nat.le_trans (dist_le ns) h2, ?_⟩⟩
  obtain ⟨e2, s2⟩ := s.laid hp (.set D (dist ns))
  exact w _ S1 _ _ h3 (e.trans e2) s2 rfl
/-! ### x in range(a, b) -/
theorem op_notIn_rng : OpR X (compareOp .NotIn) (fun x y H Q => ∃ i a lo hi, x = V.int i ∧ y = V.ref a ∧ H a = some (.rng lo hi) ∧ Q (.bl (!decide (lo ≤ i ∧ i < hi))) H) := by
  intro pins s σ H x y v u Q I rx ry h
  obtain ⟨i, a, lo, hi, rfl, rfl, ha, q⟩ := h
  obtain ⟨k, rfl⟩ := rx
  obtain rfl : u = Value.ref a := ry
  obtain ⟨t1, t2, t3, ho⟩ := I.hok a _ ha
  show wpAny _ _ (do return Value.bool (!(← contains (Value.ref a) (Value.int i k)))) _ _ s
  refine wpAny_bind (wpAny_contains_slot (T := "range") ⟨_, ho, rfl⟩ F.slot_range_contains (call_meets F.slot_range_contains ⟨_, ho, rfl⟩ F.entry_range_contains (F.args_range_contains_2 _ _) (q_contains a lo hi i t1 t2 t3 k)
    ⟨ho, wpAny_truthy_bool (wpAny_pure ⟨.bl _, H, I, rfl, ?_⟩)⟩))
  rw [place1]
  exact q
def eInR (neg : Bool) (te ta tb : TEA) : TEA := fun nv S P => te nv S fun x S1 => ta nv S1 fun y S2 => tb nv S2 fun z S3 => match x, y, z with
  | .int i, .int lo, .int hi => P (.bl (if neg then !decide (lo ≤ i ∧ i < hi) else decide (lo ≤ i ∧ i < hi))) S3
  | _, _, _ => False
theorem inR_rel {neg : Bool} {t t1 t2 : TE} {r : R2} (k : ER t te) (k1 : ER t1 ta) (k2 : ER t2 tb) (hr : ∀ x y H Q, (∃ i a lo hi, x = V.int i ∧ y = V.ref a ∧ H a = some (.rng lo hi) ∧ Q (.bl (if neg then !decide (lo ≤ i ∧ i < hi) else decide (lo ≤ i ∧ i < hi))) H) → r x y H Q) :
    ER (tOp r t (tCB (fun vs H Q => ∃ i j, vs = [V.int i, V.int j] ∧ ∀ p, H p = none → Q (.ref p) (upd H p (.rng i j))) (tCons t1 (tCons t2 tNil)))) (eInR neg te ta tb) := by
  intro M σ H nv S P Q q h w
  refine k M σ H nv S _ _ q h fun x S1 v1 H1 q1 e1 s1 a1 => ?_
  refine k1 M σ H1 nv S1 _ _ (q.up e1 s1) q1 fun y S2 v2 H2 q2 e2 s2 a2 => ?_
  refine k2 M σ H2 nv S2 _ _ ((q.up e1 s1).up e2 s2) q2 fun z S3 v3 H3 q3 e3 s3 a3 => ?_
  try dsimp only at q3
  split at q3
  · rename_i i lo hi
    refine ⟨lo, hi, by rw [show v2 = _ from a2.up e3, show v3 = _ from a3], fun p hp => hr _ _ _ _ ⟨i, p, lo, hi, (a1.up e2).up e3, rfl, upd_same, ?_⟩⟩
    obtain ⟨e4, s4⟩ := s3.laid hp (.rng lo hi)
    exact w _ S3 _ _ q3 (((e1.trans e2).trans e3).trans e4) s4 rfl
  · exact q3.elim
theorem ea_notInR {q1 q2 : Pos} (hm : X.mg "range" = none) (h : EA X e te) (ha : EA X a ta) (hb : EA X b tb) (hg : Gl X "range" := by rfl) (na : starEach [a, b] X.env = (false, eval a X.env) :: starEach [b] X.env := by rfl) (nb : starEach [b] X.env = (false, eval b X.env) :: starEach [] X.env := by rfl)
    (hpl : (backTo q2 (starEach [b] X.env)).any (·.1) = false := by rfl) (hmk : behindInMarks .NotIn (.Call (.Name "range" q1) [a, b] [] q2) = false := by rfl) : EA X (.Compare e [.NotIn] [.Call (.Name "range" q1) [a, b] [] q2] pos) (eInR true te ta tb) := by
  obtain ⟨t, pp, k⟩ := h
  obtain ⟨t1, pp1, k1⟩ := ha
  obtain ⟨t2, pp2, k2⟩ := hb
  exact ⟨_, pe_cmpR op_notIn_rng pp (pe_callTy cr_range2 hg hm (by decide +kernel) (pa_cons pp1 (pa_cons pp2 pa_nil nb) na) (by decide) (by decide) na hpl) hmk, inR_rel k k1 k2 fun x y H Q h => h⟩
theorem tt_notInR {q1 q2 : Pos} (hm : X.mg "range" = none) (h : EA X e te) (ha : EA X a ta) (hb : EA X b tb) (hg : Gl X "range" := by rfl) (na : starEach [a, b] X.env = (false, eval a X.env) :: starEach [b] X.env := by rfl) (nb : starEach [b] X.env = (false, eval b X.env) :: starEach [] X.env := by rfl)
    (hpl : (backTo q2 (starEach [b] X.env)).any (·.1) = false := by rfl) (hmk : behindInMarks .NotIn (.Call (.Name "range" q1) [a, b] [] q2) = false := by rfl) : TA' X (.Compare e [.NotIn] [.Call (.Name "range" q1) [a, b] [] q2] pos) (tBool (eInR true te ta tb)) := by
  obtain ⟨t, pp, k⟩ := h
  obtain ⟨t1, pp1, k1⟩ := ha
  obtain ⟨t2, pp2, k2⟩ := hb
  exact ⟨_, pt_cmpR op_notIn_rng pp (pe_callTy cr_range2 hg hm (by decide +kernel) (pa_cons pp1 (pa_cons pp2 pa_nil nb) na) (by decide) (by decide) na hpl) hmk, TR_bool (inR_rel k k1 k2 fun x y H Q h => h)⟩
/-! ### xs.append(e), xs.pop(e) of a list of the store -/
def eApp (to te : TEA) : TEA := fun nv S P => to nv S fun x S1 => (∃ p xs, x = .ref p ∧ S1 p = some (.lst xs)) ∧ te nv S1 fun y S2 => ∃ p xs, x = .ref p ∧ S2 p = some (.lst xs) ∧ xs.length < 1000000 ∧ P .non (sup S2 p (.lst (xs ++ [y])))
theorem ea_append {o : Expr} {to : TEA} {apos : Pos} (ho : EA X o to) (h : EA X e te) (hs : starEach [e] X.env = (false, eval e X.env) :: starEach [] X.env := by rfl) (hbase : attributeBase o "append" X.env (eval o X.env) = eval o X.env := by rfl)
    (hfew : ((backTo pos (starEach [e] X.env)).all (fun x => !x.1) && (backToKw pos (keywordEach [] X.env)).all (fun x => x.1.isSome) && decide ([e].length + ([] : List Keyword).length + (if ([] : List Keyword).isEmpty then 0 else 1) < 30)) = true := by rfl)
    (hline : (apos.endLine == pos.line) = true := by rfl) (hpl : (backTo pos (starEach [] X.env)).any (·.1) = false := by rfl) : EA X (.Call (.Attribute o "append" apos) [e] [] pos) (eApp to te) := by
  obtain ⟨t, pp, k⟩ := ho
  obtain ⟨t1, pp1, k1⟩ := h
  refine ⟨_, pe_bm PySem.F.plainAttrs_list PySem.F.slot_list_append PySem.F.type_list_append mt_append pp (pa_cons pp1 pa_nil hs) hbase hfew hline hs hpl, fun M σ H nv S P Q r h w => ?_⟩
  refine k M σ H nv S _ _ r h fun x S1 v H1 q e1 s1 av => ?_
  obtain ⟨⟨p, xs, rfl, hp⟩, q⟩ := q
  obtain ⟨vs, c1, c2⟩ := (s1.cell p _ hp).2
  obtain rfl : v = .ref p := av
  refine ⟨.inl ⟨rfl, vs, .inl (.inl c1)⟩, k1 M σ H1 nv S1 _ _ (r.up e1 s1) q fun y S2 v2 H2 q2 e2 s2 a2 => ?_⟩
  obtain ⟨p', ys, e0, hp2, hl, q2⟩ := q2
  cases e0
  obtain ⟨ws, d1, d2⟩ := (s2.cell p _ hp2).2
  obtain ⟨e4, s4⟩ := s2.put hp2 (o := .lst (ws ++ [v2])) (c := .lst (ys ++ [y])) fun S' H' e hh => ⟨_, hh, (d2.up e).app (.one (a2.up e))⟩
  exact ⟨p, ws, v2, rfl, rfl, d1, by rw [d2.len, sizeLine_eq]; omega, w _ _ _ _ q2 ((e1.trans e2).trans e4) s4 rfl⟩
def ePop (to te : TEA) : TEA := fun nv S P => to nv S fun x S1 => (∃ p xs, x = .ref p ∧ S1 p = some (.lst xs)) ∧ te nv S1 fun y S2 => ∃ p xs, ∃ i : Nat, ∃ z, x = .ref p ∧ y = .int (i : Int) ∧ S2 p = some (.lst xs) ∧ xs[i]? = some z ∧ i < 1000000 ∧ P z (sup S2 p (.lst (xs.eraseIdx i)))
theorem AVs.erase {M : Msk} {S : Sto} {H : Hp} : ∀ {xs : List A} {vs : List V} (i : Nat), AVs M S H xs vs → AVs M S H (xs.eraseIdx i) (vs.eraseIdx i)
  | [], _, _, h => by rw [show _ = _ from h]; rfl
  | x :: xs, _, 0, ⟨v, r, h1, h2, h3⟩ => by subst h1; exact h3
  | x :: xs, _, i + 1, ⟨v, r, h1, h2, h3⟩ => by subst h1; exact ⟨v, _, rfl, h2, AVs.erase i h3⟩
theorem ea_popAt {o : Expr} {to : TEA} {apos : Pos} (ho : EA X o to) (h : EA X e te) (hs : starEach [e] X.env = (false, eval e X.env) :: starEach [] X.env := by rfl) (hbase : attributeBase o "pop" X.env (eval o X.env) = eval o X.env := by rfl)
    (hfew : ((backTo pos (starEach [e] X.env)).all (fun x => !x.1) && (backToKw pos (keywordEach [] X.env)).all (fun x => x.1.isSome) && decide ([e].length + ([] : List Keyword).length + (if ([] : List Keyword).isEmpty then 0 else 1) < 30)) = true := by rfl)
    (hline : (apos.endLine == pos.line) = true := by rfl) (hpl : (backTo pos (starEach [] X.env)).any (·.1) = false := by rfl) : EA X (.Call (.Attribute o "pop" apos) [e] [] pos) (ePop to te) := by
  obtain ⟨t, pp, k⟩ := ho
  obtain ⟨t1, pp1, k1⟩ := h
  refine ⟨_, pe_bm PySem.F.plainAttrs_list PySem.F.slot_list_pop PySem.F.type_list_pop mt_popAt pp (pa_cons pp1 pa_nil hs) hbase hfew hline hs hpl, fun M σ H nv S P Q r h w => ?_⟩
  refine k M σ H nv S _ _ r h fun x S1 v H1 q e1 s1 av => ?_
  obtain ⟨⟨p, xs, rfl, hp⟩, q⟩ := q
  obtain ⟨vs, c1, c2⟩ := (s1.cell p _ hp).2
  obtain rfl : v = .ref p := av
  refine ⟨.inl ⟨rfl, vs, .inl (.inl c1)⟩, k1 M σ H1 nv S1 _ _ (r.up e1 s1) q fun y S2 v2 H2 q2 e2 s2 a2 => ?_⟩
  obtain ⟨p', ys, i, z, e0, rfl, hp2, hz, hl, q2⟩ := q2
  cases e0
  obtain ⟨ws, d1, d2⟩ := (s2.cell p _ hp2).2
  obtain ⟨wz, f1, f2⟩ := d2.get hz
  have hi : i < ws.length := (List.getElem?_eq_some_iff.mp f1).1
  obtain ⟨e4, s4⟩ := s2.put hp2 (o := .lst (ws.eraseIdx i)) (c := .lst (ys.eraseIdx i)) fun S' H' e hh => ⟨_, hh, (d2.up e).erase i⟩
  refine ⟨p, ws, (i : Int), i, wz, rfl, by rw [show v2 = _ from a2], d1, by omega, by omega, ?_, f1, w _ _ _ _ q2 ((e1.trans e2).trans e4) s4 (f2.up e4)⟩
  unfold seqIndex?
  simp
  omega
end
end Lay

namespace Lay
open PySem L2 PyProof.Rows LamX
/-! ### defs that are called where nothing is being shown (repr asks for it) -/
structure FnG (P : Program) (w : World) (K : PySem.W.Frag) (mg : Str → Option Value) (base : Heap) (k : Nat) (f : Addr) (fd : FuncData) (ps : List Str) (sp : Sp) : Prop where
  len : ∀ vs H Q E, sp vs H Q E → vs.length = ps.length
  run : ∀ (A : Around) (outer : List Env) (s : Shared) (H : Hp) (args : Args) (us : List Value) (vs : List V) (Q : VK) (E : XK), A.guards = some [] → Room k A → Env0 P w K mg base A outer s H → BindsTo s fd args (ps.zip us) → Vals vs us → sp vs H Q E →
    codeAny (model P w) A (.call (.ref f) args) (CR CX0 outer P w H s Q E) s
structure GotG (P : Program) (w : World) (K : PySem.W.Frag) (mg : Str → Option Value) (base : Heap) (k : Nat) (ps : List Str) (x : Str) (st : Stmt) (f : Addr) (sp : SpA) : Prop where
  ex : ∃ fd, FnG P w K mg base k f fd ps (liftSp sp) ∧ Fun K x x st f fd ∧ Binds K fd ps []
  mg : mg x = some (.ref f)
section
variable {P : Program} {w : World} {K : PySem.W.Frag} {mg : Str → Option Value} {base : Heap}
theorem gotG_of {x : Str} {st : Stmt} {f : Addr} {N ps : List Str} {k : Nat} {sp : SpA} (D : Def K mg x st f) (S : FnScope N ps (defScope st)) (len : ∀ as S P, sp as S P → as.length = ps.length)
    (hb : ∀ (kV doc pm : Value) (an : Option Addr) (cdv ct : Value) (us : List Value), us.length = ps.length → bindArgs (PySem.W.fnOf x x (defArgs st) (defBody st) (defScope st) .none kV doc pm an cdv ct) ⟨us, []⟩ = pure (ps.zip us))
    (body : ∀ (cdv : Value) (A : Around) (outer : List Env) (s : Shared) (H : Hp) (E : XK), Room k (A.deeper (envOfC x (defScope st) s.heap.objs.size f cdv)) → A.guards = some [] → (∃ oc od kV doc pm an ct osl, K.lookup f = some ⟨oc, od, .func (PySem.W.fnOf x x (defArgs st) (defBody st) (defScope st) .none kV doc pm an cdv ct), osl⟩) →
      ∃ ts, SB (cxA P w K mg base N x (defScope st) f cdv A outer s H E) (defBody st) ts ∧ ∀ as S P, sp as S P → ts { nx := fun _ S' => P .non S', rt := P } (startN N as) S) : GotG P w K mg base (k + 1) ps x st f sp := by
  obtain ⟨fd, F⟩ := D.ex
  obtain ⟨oc, od, kV, doc, pm, an, cdv, ct, osl, e2, lk, hcd⟩ := F.ex
  refine ⟨⟨fd, ⟨fun vs H Q E ⟨M, S', as, P', s, a, h, w⟩ => by rw [a.len]; exact len as S' P' h, fun A outer s H args us vs Q E hg hr e0 hb2 r ⟨M, S', as, P', sh, a, h, w⟩ => ?_⟩, F, F.binds hb⟩, D.mg⟩
  subst e2
  refine run_ofS lk hcd S hr e0 hb2 r (by rw [a.len]; exact len as S' P' h) fun hr' => ?_
  obtain ⟨ts, ⟨t, p, kk⟩, rd⟩ := body cdv A outer s H E hr' hg ⟨_, _, _, _, _, _, _, _, lk⟩
  exact ⟨t, p.nox, kk M (L2.start N vs) H (startN N as) S' { nx := fun _ S' => P' .non S', rt := P' } { nx := fun _ H' => Q .non H', rt := Q } (start_rel sh a) (rd as S' P' h) ⟨fun nv' S2 σ' H' p e r => w .non S2 .non H' p e r.sh rfl, w, fun _ _ _ _ p _ _ => p.elim, fun _ _ _ _ p _ _ => p.elim⟩⟩
end
section
variable {X : Cx} {x : Str} {k : Nat} {f : Addr} {ps : List Str} {st : Stmt} {sp : SpA} {e : Expr} {es : List Expr} {tl : TAA} {te : TEA} {p pos : Pos}
theorem ea_callG (hgd : X.A.guards = some []) (G : GotG X.prog X.w X.K X.mg X.base k ps x st f sp) (hr : Room k X.A) (ha : LA X (e :: es) tl) (hg : Gl X x := by rfl)
    (hdb : (x == ("__debug__" : Str)) = false := by decide) (he : starEach (e :: es) X.env = (false, eval e X.env) :: starEach es X.env := by rfl) (hpl : (backTo pos (starEach es X.env)).any (·.1) = false := by rfl) :
    EA X (.Call (.Name x p) (e :: es) [] pos) (eCall sp tl) := by
  obtain ⟨fd, F, F2, hb⟩ := G.ex
  obtain ⟨t, pa, kk⟩ := ha
  refine ⟨tCall (liftSp sp) [] (fun _ _ _ => False) t, ⟨fun pins s σ H Q I h => ?_⟩, fun M σ H nv S P Q r h w => ?_⟩
  · refine wpAny_Call_Name_kw (ld_glob I hg G.mg ?_ hdb)
    refine PySem.W.callWith_K (h₀ := X.base) I.ok.mod.kin F2.kp (thn (pa.run pos pins s σ H _ I h) fun us s1 ⟨vs, H1, I1, r, q⟩ => ⟨I1.kIn, ?_⟩) he hpl
    have q' : liftSp sp vs H1 Q (fun _ _ _ => False) := by
      have q2 : liftSp sp (vs ++ []) H1 Q (fun _ _ _ => False) := q
      rw [List.append_nil] at q2
      exact q2
    have hl : (us ++ []).length = ps.length := by rw [List.append_nil, ← r.length]; exact F.len _ _ _ _ q'
    have r2 : Vals vs (us ++ []) := by rw [List.append_nil]; exact r
    refine wpAny_call (codeAny_mono (F.run X.A X.stack s1 H1 ⟨us, []⟩ (us ++ []) vs Q _ hgd hr I1.env0 (hb s1 us I1.kIn hl) r2 q') fun r s' hq => ?_)
    cases r with
    | error e => exact (show False from hq).elim
    | ok fl =>
      cases fl with
      | ret u => exact I1.after hq
      | next => exact False.elim hq
      | brk => exact False.elim hq
      | cont => exact False.elim hq
  · refine kk M σ H nv S _ _ r h fun as S1 vs H1 n q e s av => ?_
    rw [List.append_nil]
    exact ⟨M, S1, as, P, s, av, q, fun z S2 v2 H2 q2 e2 s2 a2 => w z S2 v2 H2 q2 (e.trans e2) s2 a2⟩
/-! ### repr(x) of data -/
theorem dp_ref {K : PySem.W.Frag} {H : Hp} {v : V} {ds : List PyData} : (Dp K H v (.list ds) → ∃ a, v = .ref a) ∧ (Dp K H v (.tuple ds) → ∃ a, v = .ref a) := by
  refine ⟨fun h => ?_, fun h => ?_⟩
  · cases h
    exact ⟨_, rfl⟩
  · cases h
    exact ⟨_, rfl⟩
def rRepr (K : PySem.W.Frag) : List V → Hp → VK → Prop := fun vs H Q => ∃ (v : V) (d : PyData) (ds : List PyData), vs = [v] ∧ d = .list ds ∧ Dp K H v d ∧ d.showable = true ∧ d.hasDict = false ∧ d.shown.length ≤ sizeLine ∧ d.depth ≤ 60 ∧ Q (.str d.shown) H
theorem call_repr (hgd : X.A.guards = some []) (hu : X.A.units + 64 < cLine) : CallR X (.builtin "repr") (rRepr X.K) := by
  intro pins s σ H vs us Q I r h
  obtain ⟨v, d, ds, rfl, rfl, hd, hs, hn, hz, hdp, q⟩ := h
  obtain ⟨a, rfl⟩ := dp_ref.1 hd
  obtain ⟨u, rfl, ru⟩ := r.one
  obtain rfl : u = Value.ref a := ru
  obtain ⟨as, rd⟩ := Dp.reads I _ _ _ hd (show RelV (.ref a) (Value.ref a) from rfl)
  exact repr_of_reads' rd hs (PyData.noDict_hsm hn) hgd (by omega) (fun _ _ e => e) (fun h' u tk hk => ⟨.str _, H, I.kept (t' := tk) hk, ⟨u, rfl⟩, q⟩) hz
def rReprA : RAC := fun as S P => match as with
  | [x] => ∃ (d : PyData) (ds : List PyData), d = .list ds ∧ pyd (rsv S x) = some d ∧ d.showable = true ∧ d.hasDict = false ∧ d.shown.length ≤ sizeLine ∧ d.depth ≤ 60 ∧ P (.str d.shown) S
  | _ => False
theorem cx_repr (hgd : X.A.guards = some []) (hu : X.A.units + 64 < cLine) : CallX X (.builtin "repr") rReprA := by
  refine ⟨_, call_repr hgd hu, fun M S H as vs P Q s av q k => ?_⟩
  unfold rReprA at q
  split at q
  · obtain ⟨v, rfl, a1⟩ := avs1 av
    obtain ⟨d, ds, e, h1, h2, h3, h4, h5, h6⟩ := q
    exact ⟨v, d, ds, rfl, e, rsv_ok s a1 h1, h2, h3, h4, h5, k.same s h6 rfl⟩
  · exact q.elim
end
/-! ### what a call gives that made its list: the list as data -/
def thaw (sp : SpA) : SpA := fun as S P => sp as S fun a S' => ∃ (S0 : Sto) (p : Addr) (xs : List A), a = .ref p ∧ S0 p = none ∧ S' = sup S0 p (.lst xs) ∧ P (.lst xs) S0
theorem wk_thaw {M : Msk} {S : Sto} {H : Hp} {P : A → Sto → Prop} {Q : VK} (w : Wk M P S H Q) : Wk M (fun a S' => ∃ (S0 : Sto) (p : Addr) (xs : List A), a = .ref p ∧ S0 p = none ∧ S' = sup S0 p (.lst xs) ∧ P (.lst xs) S0) S H Q := by
  rintro a S' v H' ⟨S0, p, xs, rfl, h0, rfl, h⟩ e s av
  have cp := s.cell p (.lst xs) sup_same
  obtain ⟨mp, vs, c1, c2⟩ := cp
  have hS0 : ∀ {b : Addr}, sup S0 p (.lst xs) b = none → S0 b = none := fun {b} z => by
    by_cases hb : b = p
    · rw [hb, sup_same] at z
      cases z
    · rw [sup_ne hb] at z
      exact z
  have kx : Kx M (sup S0 p (.lst xs)) H' M S0 H' := ⟨fun b o hb sb mb => ⟨hb, hS0 sb, mb⟩⟩
  refine w (.lst xs) S0 v H' h ⟨fun b o hb sb => ⟨(e.keep b o hb sb).1, hS0 (e.keep b o hb sb).2⟩⟩ ⟨fun b c hb => ?_, s.mask⟩ ⟨p, vs, av, h0, mp, c1, AVs.mono kx _ _ c2⟩
  have hbp : b ≠ p := fun z => by rw [z, h0] at hb; cases hb
  have q := s.cell b c (by rw [sup_ne hbp]; exact hb)
  exact ⟨q.1, q.2.up kx fun _ z => z⟩
theorem Got.thaw {P : Program} {w : World} {K : PySem.W.Frag} {mg : Str → Option Value} {base : Heap} {x : Str} {k : Nat} {ps : List Str} {st : Stmt} {f : Addr} {sp : SpA} (G : Got P w K mg base k ps x st f sp) : Got P w K mg base k ps x st f (Lay.thaw sp) := by
  obtain ⟨fd, F, r⟩ := G.ex
  exact ⟨⟨fd, F.imp fun vs H Q E ⟨M, S, as, P', s, a, q, w⟩ => ⟨M, S, as, _, s, a, q, wk_thaw w⟩, r⟩, G.mg⟩
/-! ### the end -/
/-- the law's call, at the state that the top leaves: from the promise of the law's def there. cs: code objects and their tables -/
theorem law_callG {P : Program} {w : World} {K : PySem.W.Frag} {mg mb : Str → Option Value} {k : Nat} {fa a : Addr} {cs : List (Addr × Addr)} {fd : FuncData} {x : Str} {sp : SpA} {s₁ : Shared} {vs : List Value} {ns : List Int} (hN : noLst K = true)
    (KX : K.In s₁.heap) (hns : s₁.heap.Ns mainGlobals mg) (hb : s₁.heap.Ns builtinsNs mb) (hbb : ∀ x : Str, x ≠ "__name__" → mb x = bootBuiltins x) (hlim : s₁.heap.NoLimit) (hg : s₁.gens = #[])
    (ha : s₁.heap.get? a = some { cls := .type "list", data := .seq vs.toArray }) (hi : IntsAre vs ns) (hl : ns.length ≤ sizeLine) (hr : Room k callerA)
    (F : ∀ base : Heap, K.In base → base.Ns mainGlobals mg → FnG P w K mg base k fa fd [x] (liftSp sp)) (hbind : ∀ (s : Shared) (u : Value), BindsTo s fd ⟨[u], []⟩ [(x, u)])
    (hsp : ∀ (a : Addr) (S : Sto), S a = some (.frz (ns.map .int)) → sp [.ref a] S fun r _ => r = .bl true) :
    codeAny (model P w) callerA (.call (.ref fa) ⟨[.ref a], []⟩) (fun r s' => r = .ok (.ret (.bool true)) ∧ OldK s₁.heap s'.heap ∧ s'.os = s₁.os ∧ AllBare s'.gens) s₁ := by
  have rv : Vals (ns.map V.int) vs := vals_ints hi
  have ka : K.lookup a = none := by
    cases e : K.lookup a with
    | none => rfl
    | some o =>
      have z := KX a o e
      rw [ha] at z
      cases z
      exact absurd rfl (noLst_no hN e)
  -- the script alone is told of
  generalize hob : ({ cls := .type "list", data := .seq vs.toArray } : Obj) = ob at ha
  have hH : ∃ H : Hp, H = fun b => if b = a then some (.frz ob (.lst (ns.map V.int))) else none := ⟨_, rfl⟩
  obtain ⟨H, eH⟩ := hH
  have Ha : H a = some (.frz ob (.lst (ns.map V.int))) := by rw [eH]; exact if_pos rfl
  have Hn : ∀ b, b ≠ a → H b = none := fun b n => by rw [eH]; exact if_neg n
  have hok : HOk P w H s₁.heap := fun b o e => by
    by_cases hba : b = a
    · subst hba
      rw [Ha] at e
      cases e
      exact ⟨ha, by rw [List.length_map]; exact hl, vs, _, rv, by rw [ha, ← hob]⟩
    · rw [Hn b hba] at e
      cases e
  have ns' : ∀ {b : Addr} {m : Str → Option Value}, s₁.heap.Ns b m → (hidT s₁.heap H).Ns b m := fun {b m} ⟨o, es, ep, e, d, r⟩ => by
    have n : b ≠ a := fun z => by
      rw [z, ha] at e
      cases e
      rw [← hob] at d
      cases d
    exact ⟨o, es, ep, hidT_get e (Hn b n), d, r⟩
  have hK : K.In (hidT s₁.heap H) := fun b o e => hidT_get (KX b o e) (Hn b fun z => by rw [z, ka] at e; cases e)
  obtain ⟨mc, m1, m2⟩ := hlim
  have hM : L2.Mod K mg (hidT s₁.heap H) := ⟨hK, ns' hns, ⟨mb, ns' hb, hbb⟩, ⟨mc, ns' m1, m2⟩⟩
  have e0 : Env0 P w K mg (hidT s₁.heap H) callerA [] s₁ H := ⟨rfl, hM, fun b o e => of_hidT e, Nat.le_of_eq (hidT_size _ _), trivial, fun b hb => absurd hb (by simp [frs]), hok, .of_eq hg⟩
  have start : liftSp sp [.ref a] H (fun v _ => v = .bl true) fun _ _ _ => False := by
    refine ⟨fun _ => False, fun b => if b = a then some (.frz (ns.map .int)) else none, [.ref a], fun r _ => r = .bl true, ⟨fun b c hb => ⟨id, ?_⟩, fun _ z => z.elim⟩, ⟨_, _, rfl, rfl, rfl⟩, hsp a _ (if_pos rfl), fun r S' v H' p e s av => ?_⟩
    · by_cases hba : b = a
      · rw [if_pos hba] at hb
        cases hb
        subst hba
        exact ⟨_, _, Ha, avs_of_ints ns⟩
      · rw [if_neg hba] at hb
        cases hb
    · rw [p] at av
      exact av
  refine codeAny_mono ((F _ hK (ns' hns)).run callerA [] s₁ H ⟨[.ref a], []⟩ [.ref a] [.ref a] _ _ rfl hr e0 (hbind s₁ (.ref a)) (.cons rfl .nil) start) fun r s' h => ?_
  cases r with
  | error e => exact (show False from h).elim
  | ok fl =>
    cases fl with
    | next => exact False.elim h
    | brk => exact False.elim h
    | cont => exact False.elim h
    | ret u =>
      obtain ⟨v, H', os, bare, un, hok', r', q⟩ := h
      obtain rfl : v = .bl true := q
      obtain rfl : u = Value.bool true := r'
      refine ⟨rfl, OldK.of_keep fun b o e => ?_, os, bare⟩
      by_cases hba : b = a
      · subst hba
        rw [ha] at e
        cases e
        exact (hok' b _ (un.frzs b ob _ Ha)).1
      · exact un.keep b o e (Hn b hba) (by simp [frs]) (by simp)
theorem walk_endG {l : PySem.W.OpenLaw} {q : Program} {loose : List Str} {XP : (Str → Option Value) → Heap → Prop} {YP : World → Heap → Prop} {d : DefRec} {K : Params → PySem.W.Frag} {k : Nat} {sp : SpA} (hn : l.most = some 63) (hdf : d.params.defaults = []) (hr : Room k callerA)
    (hY : ∀ (w : World) (h : Heap), YP w h → (K w.params).In h) (hN : ∀ w : World, noLst (K w.params) = true)
    (hsp : ∀ (a : Addr) (S : Sto) (ns : List Int), ns.length ≤ 63 → S a = some (.frz (ns.map .int)) → sp [.ref a] S fun r _ => r = .bl true)
    (F : ∀ (w : World) (mg : Str → Option Value) (fa : Addr) (h : Heap), YP w h → (K w.params).In h → h.Ns mainGlobals mg → mg d.name = some (.ref fa) →
      ∃ fd : FuncData, (∀ (s : Shared) (u : Value), BindsTo s fd ⟨[u], []⟩ [("script", u)]) ∧ ∀ base : Heap, (K w.params).In base → base.Ns mainGlobals mg → FnG l.prog w (K w.params) mg base k fa fd ["script"] (liftSp sp)) :
    PySem.W.WalkO q loose XP YP l.row.toRowW d [] (fun f vs => PySem.call f vs) := by
  refine Att.attach_call hn hdf fun w s₀ s₁ mg mb fa o pm cd doc a vs ns G Y ho hd hcd hmg hobj hints hlen hg => ?_
  have KX := hY w _ Y
  obtain ⟨fd, hb, hF⟩ := F w mg fa _ Y KX G.T.g hmg
  exact law_callG (cs := []) (hN w) KX G.T.g G.T.b G.T.builtins G.T.nolimit hg hobj hints (by rw [PySem.sizeLine_eq]; omega) hr hF hb fun a S h => hsp a S ns hlen h
end Lay

namespace Lay
open PySem L2 PyProof.Rows LamX NdefX
/-! ### lambdas: the call -/
/-- is b a captured cell -/
def inC (cl : List (Str × Addr)) (b : Addr) : Prop := ∃ y, cl.lookup y = some b
open Classical in
noncomputable def dropC (H : Hp) (cl : List (Str × Addr)) : Hp := fun b => if inC cl b then none else H b
open Classical in
noncomputable def addC (H H' : Hp) (cl : List (Str × Addr)) : Hp := fun b => if inC cl b then H b else H' b
theorem dropC_in {H : Hp} {cl : List (Str × Addr)} {b : Addr} (h : inC cl b) : dropC H cl b = none := by unfold dropC; rw [if_pos h]
theorem dropC_out {H : Hp} {cl : List (Str × Addr)} {b : Addr} (h : ¬ inC cl b) : dropC H cl b = H b := by unfold dropC; rw [if_neg h]
theorem addC_in {H H' : Hp} {cl : List (Str × Addr)} {b : Addr} (h : inC cl b) : addC H H' cl b = H b := by unfold addC; rw [if_pos h]
theorem addC_out {H H' : Hp} {cl : List (Str × Addr)} {b : Addr} (h : ¬ inC cl b) : addC H H' cl b = H' b := by unfold addC; rw [if_neg h]
theorem CapH.fz {H : Hp} {cl : List (Str × Addr)} {fr : List Str} {vs : List V} (C : CapH H cl fr vs) {b : Addr} (h : inC cl b) : ∃ oc, H b = some (.frz oc (.own b)) ∧ ∃ v, oc.data = .cell v := by
  obtain ⟨y, e⟩ := h
  exact C.all y b e
theorem CapH.out {H : Hp} {cl : List (Str × Addr)} {fr : List Str} {vs : List V} (C : CapH H cl fr vs) {b : Addr} {o : HO} (e : H b = some o) (n : ¬ isFz o) : ¬ inC cl b := fun z => by
  obtain ⟨oc, q, _⟩ := C.fz z
  rw [e] at q
  cases q
  exact n trivial
theorem CapH.outN {H : Hp} {cl : List (Str × Addr)} {fr : List Str} {vs : List V} (C : CapH H cl fr vs) {b : Addr} (e : H b = none) : ¬ inC cl b := fun z => by
  obtain ⟨oc, q, _⟩ := C.fz z
  rw [e] at q
  cases q
def LamD.nf (L : LamD) (cl : List (Str × Addr)) (c' : Addr) : NF := ⟨"<lambda>", L.qual, L.params, [], L.scope, cl, c'⟩
section
variable {P : Program} {w : World} {K : PySem.W.Frag} {mg : Str → Option Value} {base : Heap} {L : LamD} {N : List Str} {k : Nat}
theorem lam_run (S : NScope N L.ps L.fr L.scope) (hb : ∀ (pm ctv : Value) (cl : List (Str × Addr)) (c' : Addr) (us : List Value), us.length = L.ps.length → bindArgs (PySem.W.kla_fn "<lambda>" L.qual L.params L.body L.scope cl pm (.ref c') ctv) ⟨us, []⟩ = pure (L.ps.zip us))
    {f c' : Addr} {cl : List (Str × Addr)}
    {A : Around} {outer : List Env} {s : Shared} {H : Hp} {us : List Value} {vs ws : List V} {Q : VK} {E : XK} (hr : Room (k + 1) A) (e0 : Env0 P w K mg base A outer s H) {pm ctv : Value} (hf : H f = some (LamO L f cl c' pm ctv)) (hc : H c' = some (CodeO c' L.qual))
    (C : CapH H cl L.fr ws) (r : Vals vs us) (hl : vs.length = L.ps.length) (hbody : Room k (A.deeper (envF (L.nf cl c') f s.heap.objs.size)) → ∃ t, PE (ncx CX0 P w K mg base N (L.nf cl c') f A outer s (dropC H cl) E) L.body t ∧ t (startF N vs (ws.map some)) (dropC H cl) fun v H' => (∀ b, inC cl b → H' b = none) → Q v (addC H H' cl)) : codeAny (model P w) A (.call (.ref f) ⟨us, []⟩) (CR CX0 outer P w H s Q E) s := by
  have lim : s.heap.NoLimit := e0.mod.nolimit.keeps fun b o e => (e0.bs b o e).1
  have ho : s.heap.get? f = some (PySem.W.kla_obj "<lambda>" L.qual L.params L.body L.scope cl pm c' ctv) := (e0.hok f _ hf).1
  have xc : ObjOk P w H s.heap c' (.ext fun h => ∃ (oc : Obj) (vs : Array Value) (t : Tok), h.get? c' = some oc ∧ oc.data = .fields vs ∧ vs[1]? = some (.str L.qual t)) := e0.hok c' _ hc
  obtain ⟨⟨oc, cvs, ct, hoc, hdc, hvc⟩, _⟩ := xc
  have cellAt : ∀ {b : Addr}, inC cl b → ∃ oc, H b = some (.frz oc (.own b)) ∧ s.heap.get? b = some oc ∧ ∃ v, oc.data = .cell v := fun {b} h => by
    obtain ⟨oc, q, v, d⟩ := C.fz h
    exact ⟨oc, q, (e0.hok b _ q).1, v, d⟩
  -- without the pins
  have e1 : Env0 P w K mg base A outer s (dropC H cl) := by
    refine ⟨e0.frames, e0.mod, fun b o e => ⟨(e0.bs b o e).1, ?_⟩, e0.bsz, e0.funs, fun b hb => ?_, fun b o e => ?_, e0.bare⟩
    · rw [dropC_out (C.outN (e0.bs b o e).2)]
      exact (e0.bs b o e).2
    · rw [dropC_out (C.outN (e0.frf b hb))]
      exact e0.frf b hb
    · have n : ¬ inC cl b := fun z => by rw [dropC_in z] at e; cases e
      rw [dropC_out n] at e
      exact (e0.hok b o e).stay (fun _ _ _ z => z) (fun c z => by rw [dropC_out (C.out z fun q => q)]; exact z) fun c xs z => by rw [dropC_out (C.out z fun q => q)]; exact z
  have CA : CellsAt (L.nf cl c').cl L.fr (ws.map some) s.heap (dropC H cl) := by
    refine ⟨by rw [List.length_map]; exact C.len, fun y c e => ⟨dropC_in ⟨y, e⟩, ?_⟩, C.inj, fun i y e => ?_⟩
    · obtain ⟨oc, _, h2, v, h3⟩ := cellAt ⟨y, e⟩
      exact ⟨v, oc, h2, h3⟩
    · obtain ⟨c, oc, u, v, h1, h2, h3, h4, h5⟩ := C.has i y e
      refine ⟨c, h1, fun v' hv => ⟨u, ?_, oc, (e0.hok c _ h2).1, h3⟩⟩
      rw [List.getElem?_map, h4] at hv
      cases hv
      exact h5
  refine PySem.W.kla_callFunE hr.depth ho rfl S.co S.gen rfl ⟨c', oc, cvs, ct, rfl, hoc, hdc, hvc⟩ ?_
  rw [hb pm ctv cl c' us (by rw [← r.length]; exact hl)]
  refine wpAny_pure (wpAny_newFunctionEnv S.nocell (fun ⟨n, _⟩ hy => S.par n (List.of_mem_zip hy).1) (fun h₁ hns hsb => ⟨lim.fresh _ hsb, ?_⟩) S.kind)
  show codeAny _ _ (.expr L.body (envF (L.nf cl c') f s.heap.objs.size)) _ _
  have kp : ∀ b o, s.heap.get? b = some o → h₁.get? b = some o := fun b o e => hsb.extBut b o (Nat.ne_of_lt (Heap.lt_size e)) (Heap.get?_push_of_some _ e)
  have I : Inv (ncx CX0 P w K mg base N (L.nf cl c') f A outer s (dropC H cl) E) [] (startF N vs (ws.map some)) (dropC H cl) { s with heap := h₁, toks := s.toks + (L.ps.zip us).length } := inv_startN S hr.hd e1 hl r CA hns kp
  obtain ⟨t, hp, ht⟩ := hbody (hr.deeper _)
  refine PySem.W.kla_codeExpr (wpAny_mono (hp.run [] _ _ _ _ I ht) (fun u s' hq => ?_) fun e s' hq => hq)
  obtain ⟨v, H', J, rv, q⟩ := hq
  have jc : ∀ {b : Addr}, inC cl b → H' b = none := fun {b} ⟨y, e⟩ => J.freeC y b e
  have un : Un (frs outer) [] (dropC H cl) H' s.heap s'.heap := J.base
  refine ⟨v, addC H H' cl, J.os, J.bare, ⟨fun b o e n hb hx => un.keep b o e (by rw [dropC_out (C.outN n)]; exact n) hb hx, fun b o e n hb hx => un.slot b o e (by rw [dropC_out (C.outN n)]; exact n) hb hx, fun b o e n hx => ?_, un.there, fun b xs e => ?_, fun b o x e => ?_, fun b ps e => ?_⟩, fun b o e => ?_, rv, q fun b z => jc z⟩
  · rw [addC_out (C.outN n)]
    exact un.free b o e (by rw [dropC_out (C.outN n)]; exact n) hx
  · have z := C.out e fun q => q
    rw [addC_out z]
    exact un.tups b xs (by rw [dropC_out z]; exact e)
  · by_cases z : inC cl b
    · rw [addC_in z]
      exact e
    · rw [addC_out z]
      exact un.frzs b o x (by rw [dropC_out z]; exact e)
  · have z := C.out e fun q => q
    obtain ⟨more, q2⟩ := un.tbls b ps (by rw [dropC_out z]; exact e)
    exact ⟨more, by rw [addC_out z]; exact q2⟩
  · by_cases z : inC cl b
    · rw [addC_in z] at e
      obtain ⟨oc2, h1, h2, _⟩ := cellAt z
      rw [h1] at e
      cases e
      have nb : b ∉ frs outer := fun hb => by
        have q3 := e0.frf b hb
        rw [h1] at q3
        cases q3
      have q4 := un.keep b oc2 h2 (dropC_in z) nb (by simp)
      exact ⟨q4, oc2, q4⟩
    · rw [addC_out z] at e
      exact (J.hok b o e).stay (fun _ _ _ y => y) (fun c y => by rw [addC_out fun z2 => by rw [jc z2] at y; cases y]; exact y) fun c xs y => by rw [addC_out fun z2 => by rw [jc z2] at y; cases y]; exact y
end
end Lay

namespace Lay
open PySem L2 PyProof.Rows LamX NdefX
/-! ### what a lambda promises (its body leaves the store as it is) -/
abbrev LSp := List A → List A → Sto → (A → Prop) → Prop
/-- the store without lambdas -/
def noL (S : Sto) : Sto := fun b => match S b with
  | some (.lam _ _) => none
  | x => x
theorem noL_none {S : Sto} {b : Addr} (h : S b = none) : noL S b = none := by unfold noL; rw [h]
theorem noL_some {S : Sto} {b : Addr} {c : Cell} (h : noL S b = some c) : S b = some c ∧ notLam c := by
  unfold noL at h
  split at h
  · cases h
  · rename_i x n
    refine ⟨h, ?_⟩
    cases c <;> first | trivial | exact (n _ _ h).elim
theorem noL_of {S : Sto} {b : Addr} {c : Cell} (h : S b = some c) (n : notLam c) : noL S b = some c := by
  unfold noL
  rw [h]
  cases c <;> first | rfl | exact n.elim
theorem noL_lam {S : Sto} {b : Addr} (h : noL S b = none) : S b = none ∨ ∃ L ws, S b = some (.lam L ws) := by
  unfold noL at h
  split at h
  · rename_i L ws e
    exact .inr ⟨L, ws, e⟩
  · exact .inl h
/-- what is captured, behind the parameters -/
def startNF (N : List Str) (as ws : List A) : Nv := as.map some ++ (ws.map some ++ List.replicate (N.length - as.length - ws.length) none)
structure LamOk (P : Program) (w : World) (K : PySem.W.Frag) (mg : Str → Option Value) (base : Heap) (k : Nat) (L : LamD) (sp : LSp) : Prop where
  run : ∀ (A : Around) (outer : List Env) (s : Shared) (H : Hp) (us : List Value) (vs : List V) (f : Addr) (M : Msk) (S : Sto) (as ws : List Lay.A) (P' : Lay.A → Prop) (Q : VK) (E : XK), Room k A → Env0 P w K mg base A outer s H → SH M S H → S f = some (.lam L ws) → Vals vs us → AVs M S H as vs → as.length = L.ps.length →
    sp ws as S P' → Wk M (fun z S' => S' = S ∧ P' z) S H Q → codeAny (model P w) A (.call (.ref f) ⟨us, []⟩) (CR CX0 outer P w H s Q E) s
section
variable {P : Program} {w : World} {K : PySem.W.Frag} {mg : Str → Option Value} {base : Heap} {L : LamD} {N : List Str} {k : Nat}
theorem startNF_rel {M : Msk} {S : Sto} {H : Hp} {as ws : List A} {vs us : List V} (s : SH M S H) (a : AVs M S H as vs) (b : AVs M S H ws us) : Rl M S H (startF N vs (us.map some)) (startNF N as ws) := by
  have key : ∀ {as : List A} {vs : List V} {i : Nat} {x : A}, AVs M S H as vs → (as.map some)[i]? = some (some x) → ∃ v, (vs.map some)[i]? = some (some v) ∧ AV M S H x v := fun {as vs i x} a q => by
    rw [List.getElem?_map] at q
    cases e : as[i]? with
    | none => rw [e] at q; cases q
    | some z =>
      rw [e] at q
      cases q
      obtain ⟨v, h1, h2⟩ := a.get e
      exact ⟨v, by rw [List.getElem?_map, h1]; rfl, h2⟩
  refine ⟨s, ?_, fun i x q => ?_⟩
  · unfold startF startNF
    simp only [List.length_append, List.length_map, List.length_replicate, a.len, b.len]
  · unfold startNF at q
    unfold startF
    by_cases h1 : i < as.length
    · rw [List.getElem?_append_left (by simpa using h1)] at q
      rw [List.getElem?_append_left (by simpa [a.len] using h1)]
      exact key a q
    · rw [List.getElem?_append_right (by simpa using h1)] at q
      rw [List.getElem?_append_right (by simpa [a.len] using h1)]
      rw [List.length_map] at q
      rw [show (vs.map some).length = as.length by rw [List.length_map, a.len]]
      by_cases h2 : i - as.length < ws.length
      · rw [List.getElem?_append_left (by simpa using h2)] at q
        rw [List.getElem?_append_left (by simpa [b.len] using h2)]
        exact key b q
      · rw [List.getElem?_append_right (by simpa using h2), List.getElem?_replicate] at q
        split at q <;> cases q
theorem lam_of {sp : LSp} (S : NScope N L.ps L.fr L.scope) (hb : ∀ (pm ctv : Value) (cl : List (Str × Addr)) (c' : Addr) (us : List Value), us.length = L.ps.length → bindArgs (PySem.W.kla_fn "<lambda>" L.qual L.params L.body L.scope cl pm (.ref c') ctv) ⟨us, []⟩ = pure (L.ps.zip us))
    (body : ∀ (f c' : Addr) (cl : List (Str × Addr)) (A : Around) (outer : List Env) (s : Shared) (H : Hp) (E : XK), Room k (A.deeper (envF (L.nf cl c') f s.heap.objs.size)) →
      ∃ te : TEA, EA (ncx CX0 P w K mg base N (L.nf cl c') f A outer s H E) L.body te ∧ ∀ ws as S P, sp ws as S P → te (startNF N as ws) (noL S) fun z S2 => S2 = noL S ∧ P z) : LamOk P w K mg base (k + 1) L sp := by
  refine ⟨fun A outer s H us vs f M S0 as ws P' Q E hr e0 sh hS r av hl hsp wk => ?_⟩
  obtain ⟨mf, cl, c', cvs, ⟨pm, ctv, hf⟩, hc, sc, mc, C, hcs, aw⟩ := sh.cell f _ hS
  have hA : ∀ {b : Addr}, inC cl b → S0 b = none ∧ ¬ M b := fun {b} ⟨y, e⟩ => hcs y b e
  have kw1 : Kw M S0 H M (noL S0) (dropC H cl) := ⟨fun b o e nf sb mb => ⟨by rw [dropC_out (C.out e nf)]; exact e, noL_none sb, mb⟩⟩
  have sh1 : SH M (noL S0) (dropC H cl) := by
    refine ⟨fun b c e => ?_, fun b hb z => ?_⟩
    · obtain ⟨e1, n1⟩ := noL_some e
      obtain ⟨h1, h2⟩ := sh.cell b c e1
      exact ⟨h1, h2.upW kw1 (fun o nf q => by rw [dropC_out (C.out q nf)]; exact q) n1⟩
    · by_cases y : inC cl b
      · exact (hA y).2 hb
      · rw [dropC_out y] at z
        exact sh.mask b hb z
  refine lam_run S hb hr e0 hf hc C r (by rw [av.len]; exact hl) fun hr2 => ?_
  obtain ⟨te, ⟨t, hp, kk⟩, rd⟩ := body f c' cl A outer s (dropC H cl) E hr2
  refine ⟨t, hp, kk M _ _ _ (noL S0) _ _ (startNF_rel sh1 (AVs.monoW kw1 _ _ av) (AVs.monoW kw1 _ _ aw)) (rd ws as S0 P' hsp) fun z S2 v H2 ⟨eS, pz⟩ ex s2 a2 jc => ?_⟩
  subst eS
  have keep2 : ∀ b o, H b = some o → ¬ inC cl b → noL S0 b = none → H2 b = some o := fun b o e n q => (ex.keep b o (by rw [dropC_out n]; exact e) q).1
  have e3 : Ext S0 H S0 (addC H H2 cl) := ⟨fun b o e sb => by
    by_cases y : inC cl b
    · exact ⟨by rw [addC_in y]; exact e, sb⟩
    · exact ⟨by rw [addC_out y]; exact keep2 b o e y (noL_none sb), sb⟩⟩
  have nin : ∀ {b : Addr} {o : HO}, H2 b = some o → ¬ isFz o → ¬ inC cl b := fun {b o} e nf y => by
    rw [jc b y] at e
    cases e
  have kw2 : Kw M (noL S0) H2 M S0 (addC H H2 cl) := ⟨fun b o e nf sb mb => by
    refine ⟨by rw [addC_out (nin e nf)]; exact e, ?_, mb⟩
    rcases noL_lam sb with h | ⟨L', ws', h⟩
    · exact h
    · obtain ⟨_, cl', c2, vs', ⟨pm', ctv', q1⟩, _⟩ := sh.cell b _ h
      have nb : ¬ inC cl b := fun y => by
        rw [(hA y).1] at h
        cases h
      have q2 := keep2 b _ q1 nb sb
      rw [q2] at e
      cases e
      exact (nf trivial).elim⟩
  refine wk z S0 v _ ⟨rfl, pz⟩ e3 ⟨fun b c e => ?_, fun b hb q => ?_⟩ (AV.monoW kw2 _ _ a2)
  · refine ⟨(sh.cell b c e).1, ?_⟩
    by_cases nl : notLam c
    · have q := (s2.cell b c (noL_of e nl)).2
      exact q.upW kw2 (fun o nf q2 => by rw [addC_out (nin q2 nf)]; exact q2) nl
    · cases c with
      | lam L' ws' =>
        refine (sh.cell b _ e).2.up e3.kx fun o q => ?_
        have nb : ¬ inC cl b := fun y => by
          rw [(hA y).1] at e
          cases e
        rw [addC_out nb]
        exact keep2 b o q nb (by unfold noL; rw [e])
      | _ => exact (nl trivial).elim
  · by_cases y : inC cl b
    · exact (hA y).2 hb
    · rw [addC_out y] at q
      exact s2.mask b hb q
end
end Lay

namespace Lay
open PySem L2 PyProof.Rows LamX NdefX
/-! ### lambdas: the making -/
section
variable {X : Cx} {pins : List (Addr × Obj)} {σ : L2.St} {H : Hp} {s : Shared}
/-- what is tracked behind it: the same (the code object stands in the table), or the table longer by a new code object -/
def Made (H H1 : Hp) (P c' : Addr) (q : Str) (ps : Array Value) (pos : Pos) : Prop := (H1 = H ∧ codeAmong pos ps.toList = some (.ref c')) ∨ (H c' = none ∧ H1 = upd (upd H P (.tbl (ps ++ #[rawInt pos.line, rawInt pos.col, .ref c']))) c' (CodeO c' q))
theorem lam_make3 {c P : Addr} {q : Str} {ps : Array Value} {params : Arguments} {body : Expr} {scope : Scope} {pos : Pos} {E : Value → Shared → Prop} {Q : Value → Shared → Prop} (I : Inv X pins σ H s) (TB : TabB X.base X.mg c P) (hcode : X.env.code = .ref c) (eq : X.env.qual ++ "<lambda>" = q)
    (hP : H P = some (.tbl ps)) (ht : TriplesOk ps.toList) (hcs : ∀ (pos : Pos) (cv : Value), codeAmong pos ps.toList = some cv → ∃ c, cv = .ref c ∧ H c = some (CodeO c q)) (hdef : defaultsOf params X.env = ([], [])) (hfree : ∀ y ∈ scope.names, y.2 = .free → ∃ c, X.env.cells.lookup y.1 = some c)
    (h : ∀ (f c' : Addr) (pm ctv : Value) (H1 : Hp) (s' : Shared), Inv X pins σ H1 s' → Made H H1 P c' q ps pos → H1 c' = some (CodeO c' q) →
      s'.heap.get? f = some (PySem.W.kla_obj "<lambda>" q params body scope (cloFrom X.env.cells scope.names []) pm c' ctv) → H1 f = none → s.heap.objs.size ≤ f → Q (.ref f) s') :
    wpAny (model X.prog X.w) X.A (eval (.Lambda params body scope pos) X.env) Q E s := by
  refine PySem.W.kla_eval hdef ?_
  rw [eq]
  have bP : s.heap.BuiltinsAt X.mg P := TB.bm.keeps I.bk
  have hP' : s.heap.get? P = some { cls := .none, data := .fields ps } := I.hok P _ hP
  cases hc : codeAmong pos ps.toList with
  | none =>
    refine PySem.W.kla_makeFunction (mg := X.mg) (c := c) (P := P) (ps := ps) (closure_ok hfree) I.ok.glob (I.mod.glob.keeps I.bk) hcode (TB.code.keeps I.bk) hP' ht hc TB.gP bP fun c' ctv h' tk hx hge hlt hrec htb => ?_
    obtain ⟨c2, oc, vs, t, e2, hoc, hd, hv⟩ := hrec
    cases e2
    have hsz : s.heap.objs.size ≤ h'.objs.size := Nat.le_trans hge (Nat.le_of_lt hlt)
    have nC : H c' = none := I.hok.fresh hge
    have I1 := inv_table (t' := tk) (more := #[rawInt pos.line, rawInt pos.col, .ref c']) (h' := h'.push (PySem.W.kla_obj "<lambda>" q params body scope (cloFrom X.env.cells scope.names []) ((X.mg "__name__").getD .none) c' ctv)) I hP
      (fun b o hb e => Heap.get?_push_of_some _ (hx b o hb e)) (Heap.get?_push_of_some _ htb) hge ⟨oc, vs, t, Heap.get?_push_of_some _ hoc, hd, hv⟩
    have n1 : h'.objs.size ≠ c' := Nat.ne_of_gt hlt
    have n2 : h'.objs.size ≠ P := Nat.ne_of_gt (Nat.lt_of_lt_of_le (Heap.lt_size hP') hsz)
    exact h h'.objs.size c' _ ctv _ _ I1 (.inr ⟨nC, rfl⟩) upd_same (Heap.get?_push_size _ rfl) (by rw [upd_ne n1, upd_ne n2]; exact I.hok.fresh hsz) hsz
  | some cv =>
    obtain ⟨c', e, hco⟩ := hcs pos cv hc
    subst e
    refine PySem.W.kla_makeFunctionHit (mg := X.mg) (c := c) (P := P) (ps := ps) (closure_ok hfree) I.ok.glob (I.mod.glob.keeps I.bk) hcode (TB.code.keeps I.bk) hP' ht hc bP fun ctv h' tk hx hsz => ?_
    have I1 : Inv X pins σ H { s with heap := h'.push (PySem.W.kla_obj "<lambda>" q params body scope (cloFrom X.env.cells scope.names []) ((X.mg "__name__").getD .none) c' ctv), toks := tk } := I.kept fun b o e => Heap.get?_push_of_some _ (hx b o e)
    exact h h'.objs.size c' _ ctv H _ I1 (.inl ⟨rfl, hc⟩) hco (Heap.get?_push_size _ rfl) (I.hok.fresh hsz) hsz
/-! ### a call with some objects pinned -/
def pinH (H : Hp) (Z : Addr → Option Obj) : Hp := fun b => match Z b with
  | some o => some (.frz o (.own b))
  | none => H b
def unpin (H : Hp) (Z : Addr → Option Obj) : Hp := fun b => match Z b with
  | some _ => none
  | none => H b
theorem pinH_in {Z : Addr → Option Obj} {b : Addr} {o : Obj} (h : Z b = some o) : pinH H Z b = some (.frz o (.own b)) := by unfold pinH; rw [h]
theorem pinH_out {Z : Addr → Option Obj} {b : Addr} (h : Z b = none) : pinH H Z b = H b := by unfold pinH; rw [h]
theorem unpin_in {Z : Addr → Option Obj} {b : Addr} {o : Obj} (h : Z b = some o) : unpin H Z b = none := by unfold unpin; rw [h]
theorem unpin_out {Z : Addr → Option Obj} {b : Addr} (h : Z b = none) : unpin H Z b = H b := by unfold unpin; rw [h]
theorem pin_call {k : Nat} {g : Addr} {fd : FuncData} {ps : List Str} {sp : Sp} {us : List Value} {vs : List V} {Q : VK} (Z : Addr → Option Obj) (I : Inv X pins σ H s) (hZ : ∀ b o, Z b = some o → s.heap.get? b = some o ∧ H b = none ∧ b ∉ frs X.stack ∧ X.base.get? b = none)
    (F : FnOk X.prog X.w X.K X.mg X.base CX0 k g fd ps sp) (hr : Room k X.A) (hb : Binds X.K fd ps []) (r : Vals vs us) (h : sp vs (pinH H Z) (fun v H' => (∀ b o, Z b = some o → H' b = some (.frz o (.own b))) → Q v (unpin H' Z)) E0) : wpAny (model X.prog X.w) X.A (call (.ref g) us) (EP X pins σ Q) X.xe s := by
  have zn : ∀ {b : Addr} {o : HO}, H b = some o → Z b = none := fun {b o} e => by
    cases q : Z b with
    | none => rfl
    | some o' => rw [(hZ b o' q).2.1] at e; cases e
  have e0 : Env0 X.prog X.w X.K X.mg X.base X.A X.stack s (pinH H Z) := by
    have i := I.env0
    refine ⟨i.frames, i.mod, fun b o e => ⟨(i.bs b o e).1, ?_⟩, i.bsz, i.funs, fun b hb => ?_, fun b o e => ?_, i.bare⟩
    · cases q : Z b with
      | none => rw [pinH_out q]; exact (i.bs b o e).2
      | some o' => rw [(hZ b o' q).2.2.2] at e; cases e
    · cases q : Z b with
      | none => rw [pinH_out q]; exact i.frf b hb
      | some o' => exact absurd hb (hZ b o' q).2.2.1
    · cases q : Z b with
      | none =>
        rw [pinH_out q] at e
        exact (i.hok b o e).stay (fun _ _ _ z => z) (fun c z => by rw [pinH_out (zn z)]; exact z) fun c xs z => by rw [pinH_out (zn z)]; exact z
      | some o' =>
        rw [pinH_in q] at e
        cases e
        exact ⟨(hZ b o' q).1, o', (hZ b o' q).1⟩
  have hl : (us ++ []).length = ps.length := by rw [List.append_nil, ← r.length]; exact F.len _ _ _ _ h
  have r2 : Vals vs (us ++ []) := by rw [List.append_nil]; exact r
  refine wpAny_call (codeAny_mono (F.run X.A X.stack s (pinH H Z) ⟨us, []⟩ (us ++ []) vs _ E0 hr e0 (hb s us I.kIn hl) r2 h) fun r s' hq => ?_)
  cases r with
  | error e => exact (show False from hq).elim
  | ok fl =>
    cases fl with
    | next => exact False.elim hq
    | brk => exact False.elim hq
    | cont => exact False.elim hq
    | ret u =>
      obtain ⟨v, H', os, bare, un, hok, rv, q⟩ := hq
      have zf : ∀ b o, Z b = some o → H' b = some (.frz o (.own b)) := fun b o e => un.frzs b o _ (pinH_in e)
      have zo : ∀ b o, Z b = some o → s'.heap.get? b = some o := fun b o e => (hok b _ (zf b o e)).1
      have zn' : ∀ {b : Addr} {o : HO}, H' b = some o → ¬ isFz o → Z b = none := fun {b o} e n => by
        cases q2 : Z b with
        | none => rfl
        | some o' =>
          rw [zf b o' q2] at e
          cases e
          exact (n trivial).elim
      have un2 : Un (frs X.stack) [] H (unpin H' Z) s.heap s'.heap := by
        refine ⟨fun b o e n hb hx => ?_, fun b o e n hb hx => ?_, fun b o e n hx => ?_, un.there, fun b xs e => ?_, fun b o x e => ?_, fun b ps e => ?_⟩
        · cases q2 : Z b with
          | none => exact un.keep b o e (by rw [pinH_out q2]; exact n) hb hx
          | some o' =>
            have z := (hZ b o' q2).1
            rw [e] at z
            cases z
            exact zo b o q2
        · cases q2 : Z b with
          | none => exact un.slot b o e (by rw [pinH_out q2]; exact n) hb hx
          | some o' => exact absurd hb (hZ b o' q2).2.2.1
        · cases q2 : Z b with
          | none => rw [unpin_out q2]; exact un.free b o e (by rw [pinH_out q2]; exact n) hx
          | some o' => exact unpin_in q2
        · have z := zn e
          rw [unpin_out z]
          exact un.tups b xs (by rw [pinH_out z]; exact e)
        · have z := zn e
          rw [unpin_out z]
          exact un.frzs b o x (by rw [pinH_out z]; exact e)
        · have z := zn e
          obtain ⟨more, q3⟩ := un.tbls b ps (by rw [pinH_out z]; exact e)
          exact ⟨more, by rw [unpin_out z]; exact q3⟩
      have hok2 : HOk X.prog X.w (unpin H' Z) s'.heap := fun b o e => by
        cases q2 : Z b with
        | some o' => rw [unpin_in q2] at e; cases e
        | none =>
          rw [unpin_out q2] at e
          exact (hok b o e).stay (fun _ _ _ z => z) (fun c z => by rw [unpin_out (zn' z fun y => y)]; exact z) fun c xs z => by rw [unpin_out (zn' z fun y => y)]; exact z
      exact ⟨v, _, I.call' (ch := []) os un2 hok2 bare (fun b z => absurd z (by simp)), rv, q zf⟩
end
end Lay

namespace Lay
open PySem L2 PyProof.Rows LamX NdefX
/-- no lambda stands in the store -/
def noLam (S : Sto) : Prop := ∀ b L ws, S b ≠ some (.lam L ws)
theorem noLam_sup {S : Sto} {a : Addr} {c : Cell} (h : noLam S) (n : notLam c) : noLam (sup S a c) := fun b L ws e => by
  by_cases hb : b = a
  · rw [hb, sup_same] at e
    cases e
    exact n
  · rw [sup_ne hb] at e
    exact h b L ws e
/-! ### f(a, b, c, lambda ..: ..) -/
def capt (nv : Nv) : List Nat → List A → Prop
  | [], ws => ws = []
  | j :: js, ws => ∃ w r, ws = w :: r ∧ nv[j]? = some (some w) ∧ capt nv js r
def eLam3 (L : LamD) (js : List Nat) (P0 : Addr) (sp : SpA) (t1 t2 t3 : TEA) : TEA := fun nv S P => t1 nv S fun x1 S1 => t2 nv S1 fun x2 S2 => t3 nv S2 fun x3 S3 => noLam S3 ∧ S3 P0 = some (.tab L.qual) ∧
  ∃ ws, capt nv js ws ∧ ∀ f, S3 f = none → sp [x1, x2, x3, .ref f] (sup S3 f (.lam L ws)) fun z S4 => S4 = sup S3 f (.lam L ws) ∧ P z S3
theorem capt_rel {M : Msk} {S : Sto} {H : Hp} {σ : L2.St} {nv : Nv} (r : Rl M S H σ nv) : ∀ {js : List Nat} {ws : List A}, capt nv js ws → ∃ vs : List V, js.map (slotAt σ) = vs.map some ∧ AVs M S H ws vs
  | [], ws, h => ⟨[], rfl, by rw [show ws = [] from h]; rfl⟩
  | j :: js, _, ⟨w, q, e, h1, h2⟩ => by
    subst e
    obtain ⟨v, g1, g2⟩ := r.at_ j w h1
    obtain ⟨vs, g3, g4⟩ := capt_rel r h2
    exact ⟨v :: vs, by rw [List.map_cons, List.map_cons, g3, slotAt_of g1], v, vs, rfl, g2, g4⟩
section
variable {X : Cx} {x : Str} {k : Nat} {g : Addr} {ps : List Str} {st : Stmt} {sp : SpA} {e1 e2 e3 : Expr} {t1 t2 t3 : TEA} {p pos lpos : Pos}
theorem ea_lam3 {c P0 : Addr} (L : LamD) (js : List Nat) (G : Got X.prog X.w X.K X.mg X.base k ps x st g sp) (hr : Room k X.A) (h1 : EA X e1 t1) (h2 : EA X e2 t2) (h3 : EA X e3 t3) (TB : TabB X.base X.mg c P0) (hcode : X.env.code = .ref c) (eq : X.env.qual ++ "<lambda>" = L.qual)
    (hfn : ∀ y, X.fn y = true) (hdef : defaultsOf L.params X.env = ([], [])) (hfree : ∀ y ∈ L.scope.names, y.2 = .free → X.env.scope.names.lookup y.1 = some .cell ∨ X.env.scope.names.lookup y.1 = some .free) (hfr : ∀ y ∈ L.fr, (y, NameKind.free) ∈ L.scope.names) (hjs : js.map (fun j => X.N[j]?) = L.fr.map some) (hg : Gl X x := by rfl)
    (hdb : (x == ("__debug__" : Str)) = false := by decide)
    (he : starEach [e1, e2, e3, .Lambda L.params L.body L.scope lpos] X.env = [(false, eval e1 X.env), (false, eval e2 X.env), (false, eval e3 X.env), (false, eval (.Lambda L.params L.body L.scope lpos) X.env)] := by rfl)
    (he1 : starEach [e1, e2, e3, .Lambda L.params L.body L.scope lpos] X.env = (false, eval e1 X.env) :: starEach [e2, e3, .Lambda L.params L.body L.scope lpos] X.env := by rfl) (hpl : (backTo pos (starEach [e2, e3, .Lambda L.params L.body L.scope lpos] X.env)).any (·.1) = false := by rfl) :
    EA X (.Call (.Name x p) [e1, e2, e3, .Lambda L.params L.body L.scope lpos] [] pos) (eLam3 L js P0 sp t1 t2 t3) := by
  obtain ⟨fd, F, F2, hb⟩ := G.ex
  obtain ⟨u1, p1, k1⟩ := h1
  obtain ⟨u2, p2, k2⟩ := h2
  obtain ⟨u3, p3, k3⟩ := h3
  have hfree' : X.Ok → ∀ y ∈ L.scope.names, y.2 = .free → ∃ c, X.env.cells.lookup y.1 = some c := fun ok y hy e => (hfree y hy e).elim (fun z => ok.has _ (.inl z)) fun z => ok.has _ (.inr z)
  -- the reading: at the arguments' values, whatever is made
  refine ⟨fun σ H Q => u1 σ H fun v1 H1 => u2 σ H1 fun v2 H2 => u3 σ H2 fun v3 H3 => ∃ ps0 vs, H3 P0 = some (.tbl ps0) ∧ TriplesOk ps0.toList ∧ (∀ (pos : Pos) (cv : Value), codeAmong pos ps0.toList = some cv → ∃ c, cv = .ref c ∧ H3 c = some (CodeO c L.qual)) ∧
      js.map (slotAt σ) = vs.map some ∧ ∀ (f c' : Addr) (pm ctv : Value) (H4 : Hp) (cl : List (Str × Addr)) (Z : Addr → Option Obj), Made H3 H4 P0 c' L.qual ps0 lpos → H4 c' = some (CodeO c' L.qual) → H4 f = none → H3 f = none → (∀ b o, Z b = some o → H4 b = none) →
        Z f = some (PySem.W.kla_obj "<lambda>" L.qual L.params L.body L.scope cl pm c' ctv) → CapH (pinH H4 Z) cl L.fr vs → (∀ y c, cl.lookup y = some c → c ≠ f ∧ H4 c = none) → liftSp sp [v1, v2, v3, .ref f] (pinH H4 Z) (fun v H' => (∀ b o, Z b = some o → H' b = some (.frz o (.own b))) → Q v (unpin H' Z)) E0, ⟨fun pins s σ H Q I h => ?_⟩, fun M σ H nv S P Q r h w => ?_⟩
  · refine wpAny_Call_Name_kw (ld_glob I hg G.mg ?_ hdb)
    refine PySem.W.callWith_K (h₀ := X.base) I.ok.mod.kin F2.kp ?_ he1 hpl
    rw [he]
    refine Calls.spliced_cons (thn (p1.run pins s σ H _ I h) fun w1 s1 ⟨v1, H1, I1, r1, q1⟩ => ?_)
    refine Calls.spliced_cons (thn (p2.run pins s1 σ H1 _ I1 q1) fun w2 s2 ⟨v2, H2, I2, r2, q2⟩ => ?_)
    refine Calls.spliced_cons (thn (p3.run pins s2 σ H2 _ I2 q2) fun w3 s3 ⟨v3, H3, I3, r3, ps0, vs, hP, ht, hcs, hvs, q3⟩ => ?_)
    refine Calls.spliced_cons (lam_make3 I3 TB hcode eq hP ht hcs hdef (hfree' I3.ok) fun f c' pm ctv H4 s4 I4 mk hc' hf4 hfn4 hge => ?_)
    refine Calls.spliced_nil ⟨I4.kIn, ?_⟩
    have C := cells_of I4 (Caps.made I4.ok hfree hfr hjs)
    generalize hcl : cloFrom X.env.cells L.scope.names [] = cl at C hf4
    have hclX : ∀ y c, cl.lookup y = some c → X.env.cells.lookup y = some c := fun y c e => by
      rw [← hcl] at e
      exact clo_cm (hfree' I4.ok) e
    -- what is pinned
    have dec : ∀ b, Decidable (inC cl b) := fun b => Classical.propDecidable _
    obtain ⟨Z, eZ⟩ : ∃ Z : Addr → Option Obj, Z = fun b => if b = f then some (PySem.W.kla_obj "<lambda>" L.qual L.params L.body L.scope cl pm c' ctv) else if inC cl b then s4.heap.get? b else none := ⟨_, rfl⟩
    have Zf : Z f = some (PySem.W.kla_obj "<lambda>" L.qual L.params L.body L.scope cl pm c' ctv) := by rw [eZ]; exact if_pos rfl
    have sz0 : X.s_0.heap.objs.size ≤ s3.heap.objs.size := I3.sz
    have cne : ∀ y c, cl.lookup y = some c → c ≠ f := fun y c e z => by
      obtain ⟨_, v, o, ho, hd⟩ := C.all y c e
      rw [z, hf4] at ho
      cases ho
      cases hd
    have Zc : ∀ y c, cl.lookup y = some c → Z c = s4.heap.get? c := fun y c e => by
      rw [eZ]
      show (if c = f then _ else if inC cl c then _ else _) = _
      rw [if_neg (cne y c e), if_pos ⟨y, e⟩]
    have inFs : ∀ b, b ∈ X.fs → b < X.s_0.heap.objs.size := fun b hb => by
      obtain ⟨_, o, ho, _⟩ := I4.ok.funs.mem hb
      exact Heap.lt_size ho
    have inBase : ∀ b o, X.base.get? b = some o → b < X.s_0.heap.objs.size := fun b o e => Heap.lt_size (I4.ok.bs b o e).1
    have hZ : ∀ b o, Z b = some o → s4.heap.get? b = some o ∧ H4 b = none ∧ b ∉ frs X.stack ∧ X.base.get? b = none := fun b o e => by
      by_cases hbf : b = f
      · subst hbf
        rw [Zf] at e
        cases e
        refine ⟨hf4, hfn4, fun hm => ?_, ?_⟩
        · rcases List.mem_cons.mp (I4.stkSub _ hm) with z | z
          · exact absurd (Nat.lt_of_lt_of_le (z ▸ I3.lt) hge) (Nat.lt_irrefl _)
          · exact absurd (Nat.lt_of_lt_of_le (inFs _ z) (Nat.le_trans sz0 hge)) (Nat.lt_irrefl _)
        · cases q : X.base.get? b with
          | none => rfl
          | some o' => exact absurd (Nat.lt_of_lt_of_le (inBase b o' q) (Nat.le_trans sz0 hge)) (Nat.lt_irrefl _)
      · rw [eZ] at e
        have e' : (if inC cl b then s4.heap.get? b else none) = some o := by
          have z : (if b = f then some (PySem.W.kla_obj "<lambda>" L.qual L.params L.body L.scope cl pm c' ctv) else if inC cl b then s4.heap.get? b else none) = some o := e
          rw [if_neg hbf] at z
          exact z
        by_cases hc : inC cl b
        · rw [if_pos hc] at e'
          obtain ⟨y, hy⟩ := hc
          have hX := hclX y b hy
          have hab := I4.ok.cab y b (hfn y) hX
          refine ⟨e', (C.all y b hy).1, fun hm => ?_, ?_⟩
          · rcases List.mem_cons.mp (I4.stkSub _ hm) with z | z
            · exact I4.cne y b hX z
            · exact absurd (Nat.lt_of_lt_of_le (inFs _ z) hab) (Nat.lt_irrefl _)
          · cases q : X.base.get? b with
            | none => rfl
            | some o' => exact absurd (Nat.lt_of_lt_of_le (inBase b o' q) hab) (Nat.lt_irrefl _)
        · rw [if_neg hc] at e'
          cases e'
    have CH : CapH (pinH H4 Z) cl L.fr vs := by
      refine ⟨?_, fun y c e => ?_, C.inj, fun i y e => ?_⟩
      · have q := C.len
        rw [hvs, List.length_map] at q
        exact q
      · obtain ⟨_, v, o, ho, hd⟩ := C.all y c e
        exact ⟨o, pinH_in ((Zc y c e).trans ho), v, hd⟩
      · obtain ⟨c, h1, h2⟩ := C.has i y e
        have hi : i < vs.length := by
          have q := C.len
          rw [hvs, List.length_map] at q
          rw [q]
          exact (List.getElem?_eq_some_iff.mp e).1
        obtain ⟨u, ru, o, ho, hd⟩ := h2 vs[i] (by rw [hvs, List.getElem?_map, List.getElem?_eq_getElem hi]; rfl)
        exact ⟨c, o, u, vs[i], h1, pinH_in ((Zc y c h1).trans ho), hd, List.getElem?_eq_getElem hi, ru⟩
    have hf3 : H3 f = none := I3.hok.fresh hge
    exact pin_call Z I4 hZ F hr hb (.cons r1 (.cons r2 (.cons r3 (.cons (show L2.RelV (V.ref f) (Value.ref f) from rfl) .nil)))) (q3 f c' pm ctv H4 cl Z mk hc' hfn4 hf3 (fun b o e => (hZ b o e).2.1) Zf CH fun y c e => ⟨cne y c e, (C.all y c e).1⟩)
  · refine k1 M σ H nv S _ _ r h fun x1 S1 v1 H1 q1 ex1 s1 a1 => ?_
    refine k2 M σ H1 nv S1 _ _ (r.up ex1 s1) q1 fun x2 S2 v2 H2 q2 ex2 s2 a2 => ?_
    refine k3 M σ H2 nv S2 _ _ ((r.up ex1 s1).up ex2 s2) q2 fun x3 S3 v3 H3 q3 ex3 s3 a3 => ?_
    have r3 := ((r.up ex1 s1).up ex2 s2).up ex3 s3
    obtain ⟨nl, hP, ws, hw, q⟩ := q3
    obtain ⟨vs, hvs, aw⟩ := capt_rel r3 hw
    obtain ⟨ps0, c1, c2, c3⟩ := (s3.cell P0 _ hP).2
    refine ⟨ps0, vs, c1, c2, fun pos cv z => ?_, hvs, fun f c' pm ctv H4 cl Z mk hc' hf4 hf3 hZ Zf CH hcl => ?_⟩
    · obtain ⟨c, z1, z2, _⟩ := c3 pos cv z
      exact ⟨c, z1, z2⟩
    have Sf := s3.free hf3
    -- behind the making
    have st4 : Ext S3 H3 S3 H4 ∧ SH M S3 H4 ∧ S3 c' = none ∧ ¬ M c' := by
      rcases mk with ⟨rfl, hm⟩ | ⟨hn, rfl⟩
      · obtain ⟨c, z1, z2, z3, z4⟩ := c3 lpos _ hm
        cases z1
        exact ⟨.refl, s3, z3, z4⟩
      · have nP : P0 ≠ c' := ne_of_none c1 hn
        have fr := s3.free hn
        have ext : Ext S3 H3 S3 (upd (upd H3 P0 (.tbl (ps0 ++ #[rawInt lpos.line, rawInt lpos.col, .ref c']))) c' (CodeO c' L.qual)) := ⟨fun b o e sb => by
          have nb : b ≠ P0 := fun z => by rw [z, hP] at sb; cases sb
          exact ⟨by rw [upd_ne (ne_of_none e hn), upd_ne nb]; exact e, sb⟩⟩
        have eL : (ps0 ++ #[rawInt lpos.line, rawInt lpos.col, .ref c']).toList = ps0.toList ++ [rawInt lpos.line, rawInt lpos.col, .ref c'] := by simp
        refine ⟨ext, ⟨fun b c e => ⟨(s3.cell b c e).1, ?_⟩, fun b hb z => ?_⟩, fr.1, fr.2⟩
        · by_cases hbP : b = P0
          · subst hbP
            rw [hP] at e
            cases e
            refine ⟨_, by rw [upd_ne nP, upd_same], by rw [eL]; exact PySem.TriplesOk_snoc _ _ _ _ c2, fun pos cv z => ?_⟩
            rw [eL] at z
            rcases among_app _ c2 z with z | z
            · obtain ⟨c, g1, g2, g3, g4⟩ := c3 pos cv z
              exact ⟨c, g1, (ext.keep c _ g2 g3).1, g3, g4⟩
            · exact ⟨c', z, upd_same, fr.1, fr.2⟩
          · refine (s3.cell b c e).2.up ext.kx fun o q => ?_
            rw [upd_ne (ne_of_none q hn), upd_ne hbP]
            exact q
        · by_cases hbc : b = c'
          · rw [hbc] at hb
            exact fr.2 hb
          · rw [upd_ne hbc] at z
            by_cases hbP : b = P0
            · rw [hbP, upd_same] at z
              cases z
            · rw [upd_ne hbP] at z
              exact s3.mask b hb z
    obtain ⟨ex4, s4, Sc, Mc⟩ := st4
    -- behind the pinning
    have zn : ∀ {b : Addr} {o : HO}, H4 b = some o → Z b = none := fun {b o} e => by
      cases q2 : Z b with
      | none => rfl
      | some o' => rw [hZ b o' q2] at e; cases e
    have cf : c' ≠ f := ne_of_none hc' hf4
    have ex5 : Ext S3 H4 (sup S3 f (.lam L ws)) (pinH H4 Z) := ⟨fun b o e sb => ⟨by rw [pinH_out (zn e)]; exact e, by rw [sup_ne (ne_of_none e hf4)]; exact sb⟩⟩
    have s5 : SH M (sup S3 f (.lam L ws)) (pinH H4 Z) := by
      refine ⟨fun b c e => ?_, fun b hb z => ?_⟩
      · by_cases hbf : b = f
        · subst hbf
          rw [sup_same] at e
          cases e
          refine ⟨(s4.free hf4).2, cl, c', vs, ⟨pm, ctv, pinH_in Zf⟩, by rw [pinH_out (zn hc')]; exact hc', by rw [sup_ne cf]; exact Sc, Mc, CH, fun y c z => ?_, (aw.up ex4).up ex5⟩
          obtain ⟨h1, h2⟩ := hcl y c z
          exact ⟨by rw [sup_ne h1]; exact (s4.free h2).1, (s4.free h2).2⟩
        · rw [sup_ne hbf] at e
          exact ⟨(s4.cell b c e).1, (s4.cell b c e).2.up ex5.kx fun o q => by rw [pinH_out (zn q)]; exact q⟩
      · cases q2 : Z b with
        | some o => rw [pinH_in q2] at z; cases z
        | none =>
          rw [pinH_out q2] at z
          exact s4.mask b hb z
    have up5 : ∀ {a : A} {v : V}, AV M S3 H3 a v → AV M (sup S3 f (.lam L ws)) (pinH H4 Z) a v := fun {a v} q => (q.up ex4).up ex5
    refine ⟨M, _, [x1, x2, x3, .ref f], _, s5, ⟨_, _, rfl, up5 ((a1.up ex2).up ex3), _, _, rfl, up5 (a2.up ex3), _, _, rfl, up5 a3, _, _, rfl, rfl, rfl⟩, q f Sf.1, fun z S4 v H' ⟨eS, pz⟩ ex6 s6 a6 zf => ?_⟩
    subst eS
    -- behind the call, unpinned
    have nz : ∀ {b : Addr} {o : HO}, H' b = some o → ¬ isFz o → Z b = none := fun {b o} e n => by
      cases q2 : Z b with
      | none => rfl
      | some o' =>
        rw [zf b o' q2] at e
        cases e
        exact (n trivial).elim
    have back : ∀ {b : Addr}, sup S3 f (.lam L ws) b = none → S3 b = none := fun {b} z => by
      by_cases hb : b = f
      · rw [hb]
        exact Sf.1
      · rw [sup_ne hb] at z
        exact z
    have kw : Kw M (sup S3 f (.lam L ws)) H' M S3 (unpin H' Z) := ⟨fun b o e nf sb mb => ⟨by rw [unpin_out (nz e nf)]; exact e, back sb, mb⟩⟩
    have ex7 : Ext S3 H4 S3 (unpin H' Z) := ⟨fun b o e sb => by
      have hb : b ≠ f := ne_of_none e hf4
      have e5 := ex5.keep b o e sb
      exact ⟨by rw [unpin_out (zn e)]; exact (ex6.keep b o e5.1 e5.2).1, sb⟩⟩
    refine w z S3 v _ pz ((((ex1.trans ex2).trans ex3).trans ex4).trans ex7) ⟨fun b c e => ?_, fun b hb q2 => ?_⟩ (AV.monoW kw _ _ a6)
    · have hb : b ≠ f := fun z2 => by rw [z2, Sf.1] at e; cases e
      have q2 := s6.cell b c (by rw [sup_ne hb]; exact e)
      have hn : notLam c := by
        cases c with
        | lam L' ws' => exact absurd e (nl b L' ws')
        | _ => trivial
      exact ⟨q2.1, q2.2.upW kw (fun o nf q3 => by rw [unpin_out (nz q3 nf)]; exact q3) hn⟩
    · cases q3 : Z b with
      | some o => exact s4.mask b hb (hZ b o q3)
      | none =>
        rw [unpin_out q3] at q2
        exact s6.mask b hb q2
end
end Lay

namespace Lay
open PySem L2 PyProof.Rows LamX NdefX
/-! ### f(e, ..), f a name that holds a def of the table or a lambda -/
def eCallVL (P : Program) (w : World) (K : PySem.W.Frag) (mg : Str → Option Value) (base : Heap) (k : Nat) (i : Nat) (T : Tab) (tl : TAA) : TEA := fun nv S Q => match nv[i]? with
  | some (some (.ref f)) => (∃ sp, T f = some sp ∧ tl nv S fun as S1 => sp as S1 Q) ∨ ∃ L ws lsp, S f = some (.lam L ws) ∧ LamOk P w K mg base k L lsp ∧ tl nv S fun as S1 => S1 f = some (.lam L ws) ∧ as.length = L.ps.length ∧ lsp ws as S1 fun z => Q z S1
  | _ => False
section
variable {X : Cx} {e : Expr} {es : List Expr} {tl : TAA} {p pos : Pos} {x : Str}
theorem fnAt_lam {M : Msk} {S : Sto} {H : Hp} {f : Addr} {L : LamD} {ws : List A} {pins : List (Addr × Obj)} {σ : L2.St} {s : Shared} (I : Inv X pins σ H s) (sh : SH M S H) (h : S f = some (.lam L ws)) : PySem.W.FnAt f s.heap := by
  obtain ⟨_, cl, c', vs, ⟨pm, ctv, hf⟩, _⟩ := sh.cell f _ h
  exact ⟨_, _, _, _, (I.hok f _ hf).1⟩
theorem ea_callVL {k : Nat} {T : Tab} (i : Nat) (G : Held' X.prog X.w X.K X.mg X.base k T) (hr : Room k X.A) (ha : LA X (e :: es) tl) (hN : X.N[i]? = some x := by rfl) (hv : Vis X.env.scope x := by first | exact Or.inl rfl | exact Or.inr (Or.inl rfl) | exact Or.inr (Or.inr rfl))
    (hdb : (x == ("__debug__" : Str)) = false := by decide) (hcd : (x == ("__classdict__" : Str)) = false := by decide)
    (he : starEach (e :: es) X.env = (false, eval e X.env) :: starEach es X.env := by rfl) (hpl : (backTo pos (starEach es X.env)).any (·.1) = false := by rfl) : EA X (.Call (.Name x p) (e :: es) [] pos) (eCallVL X.prog X.w X.K X.mg X.base k i T tl) := by
  obtain ⟨t, p1, kk⟩ := ha
  refine ⟨fun σ H Q => ∃ f, σ[i]? = some (some (.ref f)) ∧ ((∃ sp, T f = some sp ∧ t σ H fun vs H1 => liftSp sp vs H1 Q E0) ∨ ((∃ M S L ws, SH M S H ∧ S f = some (.lam L ws)) ∧
      t σ H fun vs H1 => ∃ M S as ws L lsp P', SH M S H1 ∧ S f = some (.lam L ws) ∧ AVs M S H1 as vs ∧ as.length = L.ps.length ∧ LamOk X.prog X.w X.K X.mg X.base k L lsp ∧ lsp ws as S P' ∧ Wk M (fun z S' => S' = S ∧ P' z) S H1 Q)), ⟨fun pins s σ H Q I h => ?_⟩, fun M σ H nv S P Q r h w => ?_⟩
  · obtain ⟨f, hs, h⟩ := h
    refine wpAny_Call_Name_kw (thn ((pe_var (pos := p) hN hv hdb hcd).run pins s σ H (fun y H1 => y = .ref f ∧ H1 = H) I ⟨_, hs, rfl, rfl⟩) fun u s1 ⟨y, H1, I1, r1, ey, eH⟩ => ?_)
    subst ey
    rw [eH] at I1
    obtain rfl : u = Value.ref f := r1
    rcases h with ⟨sp, hT, ht⟩ | ⟨⟨M0, S0, L0, ws0, sh0, hS0⟩, ht⟩
    · obtain ⟨fd, ps, F, hk, hb⟩ := G.ex f sp hT
      refine PySem.W.callWith_K (h₀ := X.base) I.ok.mod.kin hk (thn (p1.run pos pins s1 σ H _ I1 ht) fun us s2 ⟨vs, H2, I2, r, q⟩ => ⟨I2.kIn, ?_⟩) he hpl
      have hl : (us ++ []).length = ps.length := by rw [List.append_nil, ← r.length]; exact F.len _ _ _ _ q
      have r2 : Vals vs (us ++ []) := by rw [List.append_nil]; exact r
      refine wpAny_call (codeAny_mono (F.run X.A X.stack s2 H2 ⟨us, []⟩ (us ++ []) vs Q E0 hr I2.env0 (hb s2 us I2.kIn hl) r2 q) fun r s' hq => ?_)
      cases r with
      | error e => exact (show False from hq).elim
      | ok fl =>
        cases fl with
        | ret u => exact I2.after hq
        | next => exact False.elim hq
        | brk => exact False.elim hq
        | cont => exact False.elim hq
    · refine PySem.W.callWith_F (first := []) (fnAt_lam I1 sh0 hS0) (thn (p1.run pos pins s1 σ H _ I1 ht) fun us s2 ⟨vs, H2, I2, r, M, S, as, ws, L, lsp, P', sh, hS, av, hl, hL, q, wk⟩ => ⟨fnAt_lam I2 sh hS, ?_⟩) he hpl
      show wpAny _ _ (call (.ref f) us) _ _ _
      refine wpAny_call (codeAny_mono (hL.run X.A X.stack s2 H2 us vs f M S as ws P' Q E0 hr I2.env0 sh hS r av hl q wk) fun r s' hq => ?_)
      cases r with
      | error e => exact (show False from hq).elim
      | ok fl =>
        cases fl with
        | ret u => exact I2.after hq
        | next => exact False.elim hq
        | brk => exact False.elim hq
        | cont => exact False.elim hq
  · unfold eCallVL at h
    split at h
    · rename_i f q
      obtain ⟨v, h1, h2⟩ := r.at_ i _ q
      refine ⟨f, by rw [h1, show v = _ from h2], ?_⟩
      rcases h with ⟨sp, hT, h⟩ | ⟨L, ws, lsp, hS, hL, h⟩
      · refine .inl ⟨sp, hT, kk M σ H nv S _ _ r h fun as S1 vs H1 n q e s av => ⟨M, S1, as, P, s, av, q, w.up e⟩⟩
      · refine .inr ⟨⟨M, S, L, ws, r.sh, hS⟩, kk M σ H nv S _ _ r h fun as S1 vs H1 n q e s av => ?_⟩
        obtain ⟨q1, q2, q3⟩ := q
        refine ⟨M, S1, as, ws, L, lsp, fun z => P z S1, s, q1, av, q2, hL, q3, fun z S2 v2 H2 q4 e4 s4 a4 => ?_⟩
        obtain ⟨rfl, q5⟩ := q4
        exact w z _ v2 H2 q5 (e.trans e4) s4 a4
    · exact h.elim
/-! ### constants of the module -/
structure Cst (mg : Str → Option Value) (x : Str) (z : A) : Prop where
  ex : ∃ u v, mg x = some u ∧ RelV v u ∧ flatA z v
theorem ea_cst {z : A} (C : Cst X.mg x z) (hg : Gl X x := by rfl) (hd : (x == ("__debug__" : Str)) = false := by decide) : EA X (.Name x pos) (eC z) := by
  obtain ⟨u, v, h1, h2, h3⟩ := C.ex
  exact ea_glob hg h1 h2 h3 hd
end
/-! ### the end, with tables of code objects -/
theorem law_callT {P : Program} {w : World} {K : PySem.W.Frag} {mg mb : Str → Option Value} {k : Nat} {fa a : Addr} {cs : List (Addr × Addr × Str)} {fd : FuncData} {x : Str} {sp : SpA} {s₁ : Shared} {vs : List Value} {ns : List Int} (hN : noLst K = true)
    (KX : K.In s₁.heap) (hns : s₁.heap.Ns mainGlobals mg) (hb : s₁.heap.Ns builtinsNs mb) (hbb : ∀ x : Str, x ≠ "__name__" → mb x = bootBuiltins x) (hlim : s₁.heap.NoLimit) (hg : s₁.gens = #[])
    (hT : ∀ p ∈ cs, s₁.heap.get? p.2.1 = some (PySem.W.tabObj #[])) (nT : ∀ p ∈ cs, K.lookup p.2.1 = none) (C : ∀ p ∈ cs, PySem.W.codeHdIn K p.1 p.2.1 = true)
    (hbm : ∃ (bm : Addr) (ob : Obj), mg "__builtins__" = some (.ref bm) ∧ bm ≠ builtinsNs ∧ s₁.heap.get? bm = some ob ∧ ob.cls = .type "module" ∧ ob.dict = some builtinsNs ∧ ob.data = .plain)
    (ha : s₁.heap.get? a = some { cls := .type "list", data := .seq vs.toArray }) (hi : IntsAre vs ns) (hl : ns.length ≤ sizeLine) (hr : Room k callerA)
    (F : ∀ base : Heap, K.In base → base.Ns mainGlobals mg → (∀ p ∈ cs, TabB base mg p.1 p.2.1) → FnG P w K mg base k fa fd [x] (liftSp sp)) (hbind : ∀ (s : Shared) (u : Value), BindsTo s fd ⟨[u], []⟩ [(x, u)])
    (hsp : ∀ (a : Addr) (S : Sto), S a = some (.frz (ns.map .int)) → (∀ p ∈ cs, ∃ q, S p.2.1 = some (.tab q) ∧ ∃ p' ∈ cs, p'.2.1 = p.2.1 ∧ p'.2.2 = q) → noLam S → sp [.ref a] S fun r _ => r = .bl true) :
    codeAny (model P w) callerA (.call (.ref fa) ⟨[.ref a], []⟩) (fun r s' => r = .ok (.ret (.bool true)) ∧ OldK s₁.heap s'.heap ∧ s'.os = s₁.os ∧ AllBare s'.gens) s₁ := by
  have rv : Vals (ns.map V.int) vs := vals_ints hi
  have ka : K.lookup a = none := by
    cases e : K.lookup a with
    | none => rfl
    | some o =>
      have z := KX a o e
      rw [ha] at z
      cases z
      exact absurd rfl (noLst_no hN e)
  generalize hob : ({ cls := .type "list", data := .seq vs.toArray } : Obj) = ob at ha
  -- the name of a table's code objects
  obtain ⟨nm, hnm⟩ : ∃ nm : Addr → Option Str, nm = fun b => (cs.find? fun p => p.2.1 == b).map (·.2.2) := ⟨_, rfl⟩
  have nmIn : ∀ p ∈ cs, ∃ q, nm p.2.1 = some q ∧ ∃ p' ∈ cs, p'.2.1 = p.2.1 ∧ p'.2.2 = q := fun p hp => by
    rw [hnm]
    cases e : cs.find? fun r => r.2.1 == p.2.1 with
    | none =>
      have z := List.find?_eq_none.mp e p hp
      simp at z
    | some r => exact ⟨_, by show (cs.find? fun r => r.2.1 == p.2.1).map (·.2.2) = _; rw [e]; rfl, r, List.mem_of_find?_eq_some e, by have := List.find?_some e; simpa using this, rfl⟩
  have nmOf : ∀ {b : Addr} {q : Str}, nm b = some q → ∃ p ∈ cs, p.2.1 = b := fun {b q} e => by
    rw [hnm] at e
    have e' : (cs.find? fun r => r.2.1 == b).map (·.2.2) = some q := e
    cases f : cs.find? fun r => r.2.1 == b with
    | none => rw [f] at e'; cases e'
    | some r => exact ⟨r, List.mem_of_find?_eq_some f, by have := List.find?_some f; simpa using this⟩
  have nmT : ∀ {b : Addr} {q : Str}, nm b = some q → s₁.heap.get? b = some (PySem.W.tabObj #[]) ∧ K.lookup b = none := fun {b q} e => by
    obtain ⟨p, hp, rfl⟩ := nmOf e
    exact ⟨hT p hp, nT p hp⟩
  have nma : nm a = none := by
    cases e : nm a with
    | none => rfl
    | some q =>
      have z := (nmT e).1
      rw [ha] at z
      cases z
      cases hob
  obtain ⟨H, eH⟩ : ∃ H : Hp, H = fun b => if b = a then some (.frz ob (.lst (ns.map V.int))) else (nm b).map fun _ => .tbl #[] := ⟨_, rfl⟩
  have Ha : H a = some (.frz ob (.lst (ns.map V.int))) := by rw [eH]; exact if_pos rfl
  have Hb : ∀ b, b ≠ a → H b = (nm b).map fun _ => .tbl #[] := fun b n => by rw [eH]; exact if_neg n
  have Hcases : ∀ b, H b = none ∨ b = a ∨ (b ≠ a ∧ ∃ q, nm b = some q ∧ H b = some (.tbl #[])) := fun b => by
    by_cases hba : b = a
    · exact .inr (.inl hba)
    · cases e : nm b with
      | none => exact .inl (by rw [Hb b hba, e]; rfl)
      | some q => exact .inr (.inr ⟨hba, q, rfl, by rw [Hb b hba, e]; rfl⟩)
  have hok : HOk P w H s₁.heap := fun b o e => by
    rcases Hcases b with z | rfl | ⟨_, q, h1, h2⟩
    · rw [z] at e
      cases e
    · rw [Ha] at e
      cases e
      exact ⟨ha, by rw [List.length_map]; exact hl, vs, _, rv, by rw [ha, ← hob]⟩
    · rw [h2] at e
      cases e
      exact (nmT h1).1
  have free : ∀ {b : Addr} {o : Obj}, s₁.heap.get? b = some o → o ≠ ob → o ≠ PySem.W.tabObj #[] → H b = none := fun {b o} e n1 n2 => by
    rcases Hcases b with z | rfl | ⟨_, q, h1, h2⟩
    · exact z
    · rw [ha] at e
      exact absurd (Option.some.inj e).symm n1
    · rw [(nmT h1).1] at e
      exact absurd (Option.some.inj e).symm n2
  have ns' : ∀ {b : Addr} {m : Str → Option Value}, s₁.heap.Ns b m → (hidT s₁.heap H).Ns b m := fun {b m} ⟨o, es, ep, e, d, r⟩ => ⟨o, es, ep, hidT_get e (free e (fun z => by rw [z, ← hob] at d; cases d) fun z => by rw [z] at d; cases d), d, r⟩
  have hK : K.In (hidT s₁.heap H) := fun b o e => hidT_get (KX b o e) (by
    rcases Hcases b with z | rfl | ⟨_, q, h1, h2⟩
    · exact z
    · rw [ka] at e
      cases e
    · rw [(nmT h1).2] at e
      cases e)
  obtain ⟨mc, m1, m2⟩ := hlim
  have hM : L2.Mod K mg (hidT s₁.heap H) := ⟨hK, ns' hns, ⟨mb, ns' hb, hbb⟩, ⟨mc, ns' m1, m2⟩⟩
  have e0 : Env0 P w K mg (hidT s₁.heap H) callerA [] s₁ H := ⟨rfl, hM, fun b o e => of_hidT e, Nat.le_of_eq (hidT_size _ _), trivial, fun b hb => absurd hb (by simp [frs]), hok, .of_eq hg⟩
  have TB : ∀ p ∈ cs, TabB (hidT s₁.heap H) mg p.1 p.2.1 := fun p hp => by
    have nG : mainGlobals ≠ p.2.1 := fun z => by
      obtain ⟨o, es, ep, e, hd, _⟩ := hns
      rw [z, hT p hp] at e
      cases e
      cases hd
    obtain ⟨bm, o, b1, b2, b3, b4, b5, b6⟩ := hbm
    refine tabB_of_K hK (C p hp) ⟨bm, o, b1, b2, fun q => ?_, fun q => ?_, hidT_get b3 (free b3 (fun z => by rw [z, ← hob] at b6; cases b6) fun z => by rw [z] at b6; cases b6), b4, b5, b6⟩ nG
    · obtain ⟨o', es, ep, e, hd, _⟩ := hns
      rw [q, e] at b3
      cases b3
      rw [hd] at b6
      cases b6
    · rw [q, hT p hp] at b3
      cases b3
      cases b6
  have start : liftSp sp [.ref a] H (fun v _ => v = .bl true) fun _ _ _ => False := by
    refine ⟨fun _ => False, fun b => if b = a then some (.frz (ns.map .int)) else (nm b).map .tab, [.ref a], fun r _ => r = .bl true, ⟨fun b c hb => ⟨id, ?_⟩, fun _ z => z.elim⟩, ⟨_, _, rfl, rfl, rfl⟩, hsp a _ (if_pos rfl) (fun p hp => ?_) (fun b L ws e => ?_), fun r S' v H' p e s av => ?_⟩
    · by_cases hba : b = a
      · rw [if_pos hba] at hb
        cases hb
        subst hba
        exact ⟨_, _, Ha, avs_of_ints ns⟩
      · rw [if_neg hba] at hb
        cases e : nm b with
        | none => rw [e] at hb; cases hb
        | some q =>
          rw [e] at hb
          cases hb
          refine ⟨#[], by rw [Hb b hba, e]; rfl, trivial, fun pos cv z => ?_⟩
          have z' : codeAmong pos [] = some cv := z
          simp [codeAmong] at z'
    · obtain ⟨q, h1, h2⟩ := nmIn p hp
      have n : p.2.1 ≠ a := fun z => by rw [z, nma] at h1; cases h1
      exact ⟨q, by show (if p.2.1 = a then _ else (nm p.2.1).map Cell.tab) = _; rw [if_neg n, h1]; rfl, h2⟩
    · by_cases hba : b = a
      · rw [if_pos hba] at e
        cases e
      · rw [if_neg hba] at e
        cases f : nm b with
        | none => rw [f] at e; cases e
        | some q => rw [f] at e; cases e
    · rw [p] at av
      exact av
  refine codeAny_mono ((F _ hK (ns' hns) TB).run callerA [] s₁ H ⟨[.ref a], []⟩ [.ref a] [.ref a] _ _ rfl hr e0 (hbind s₁ (.ref a)) (.cons rfl .nil) start) fun r s' h => ?_
  cases r with
  | error e => exact (show False from h).elim
  | ok fl =>
    cases fl with
    | next => exact False.elim h
    | brk => exact False.elim h
    | cont => exact False.elim h
    | ret u =>
      obtain ⟨v, H', os, bare, un, hok', r', q⟩ := h
      obtain rfl : v = .bl true := q
      obtain rfl : u = Value.bool true := r'
      have keep : ∀ b o, s₁.heap.get? b = some o → nm b = none → s'.heap.get? b = some o := fun b o e n => by
        rcases Hcases b with z | rfl | ⟨_, q, h1, h2⟩
        · exact un.keep b o e z (by simp [frs]) (by simp)
        · rw [ha] at e
          cases e
          exact (hok' b _ (un.frzs b ob _ Ha)).1
        · rw [n] at h1
          cases h1
      have grown : ∀ b q, nm b = some q → ∃ more : Array Value, s'.heap.get? b = some (PySem.W.tabObj more) := fun b q e => by
        have n : b ≠ a := fun z => by rw [z, nma] at e; cases e
        obtain ⟨more, z⟩ := un.tbls b #[] (by rw [Hb b n, e]; rfl)
        exact ⟨_, hok' b _ z⟩
      refine ⟨rfl, ⟨fun b o e => ?_, fun b o e => ?_⟩, os, bare⟩
      · cases f : nm b with
        | none => exact .inl (keep b o e f)
        | some q =>
          obtain ⟨more, hm⟩ := grown b q f
          obtain ⟨p, hp, rfl⟩ := nmOf f
          rw [hT p hp] at e
          cases e
          exact .inr (.inl ⟨((PySem.W.codeHd_of_K KX (C p hp)).tab (hT p hp)).isCodeTable, rfl, #[], more, rfl, by rw [Array.empty_append]; exact hm⟩)
      · cases f : nm b with
        | none => exact ⟨o, keep b o e f⟩
        | some q =>
          obtain ⟨more, hm⟩ := grown b q f
          exact ⟨_, hm⟩
theorem walk_endT {l : PySem.W.OpenLaw} {q : Program} {loose : List Str} {XP : (Str → Option Value) → Heap → Prop} {YP : World → Heap → Prop} {d : DefRec} {K : Params → PySem.W.Frag} {k : Nat} {sp : SpA} (cs : List (Addr × Addr × Str)) (hn : l.most = some 63) (hdf : d.params.defaults = []) (hr : Room k callerA)
    (hY : ∀ (w : World) (h : Heap), YP w h → (K w.params).In h) (hYT : ∀ (w : World) (h : Heap), YP w h → ∀ p ∈ cs, h.get? p.2.1 = some (PySem.W.tabObj #[])) (hN : ∀ w : World, noLst (K w.params) = true) (nT : ∀ (w : World), ∀ p ∈ cs, (K w.params).lookup p.2.1 = none) (C : ∀ (w : World), ∀ p ∈ cs, PySem.W.codeHdIn (K w.params) p.1 p.2.1 = true)
    (hsp : ∀ (a : Addr) (S : Sto) (ns : List Int), ns.length ≤ 63 → S a = some (.frz (ns.map .int)) → (∀ p ∈ cs, ∃ q, S p.2.1 = some (.tab q) ∧ ∃ p' ∈ cs, p'.2.1 = p.2.1 ∧ p'.2.2 = q) → noLam S → sp [.ref a] S fun r _ => r = .bl true)
    (F : ∀ (w : World) (mg : Str → Option Value) (fa : Addr) (h : Heap), (K w.params).In h → h.Ns mainGlobals mg → mg d.name = some (.ref fa) →
      ∃ fd : FuncData, (∀ (s : Shared) (u : Value), BindsTo s fd ⟨[u], []⟩ [("script", u)]) ∧ ∀ base : Heap, (K w.params).In base → base.Ns mainGlobals mg → (∀ p ∈ cs, TabB base mg p.1 p.2.1) → FnG l.prog w (K w.params) mg base k fa fd ["script"] (liftSp sp)) :
    PySem.W.WalkO q loose XP YP l.row.toRowW d [] (fun f vs => PySem.call f vs) := by
  refine Att.attach_call hn hdf fun w s₀ s₁ mg mb fa o pm cd doc a vs ns G Y ho hd hcd hmg hobj hints hlen hg => ?_
  have KX := hY w _ Y
  obtain ⟨fd, hb, hF⟩ := F w mg fa _ KX G.T.g hmg
  exact law_callT (hN w) KX G.T.g G.T.b G.T.builtins G.T.nolimit hg (hYT w _ Y) (nT w) (C w) G.T.bmain hobj hints (by rw [PySem.sizeLine_eq]; omega) hr hF hb fun a S h1 h2 h3 => hsp a S ns hlen h1 h2 h3
end Lay

namespace Lay
open PySem L2 PyProof.Rows
/-! ### plain data: no refs, so deep at most, not too long -/
mutual
def gd : Nat → A → Bool
  | 0, _ => false
  | _ + 1, .ref _ => false
  | _ + 1, .ty _ => false
  | n + 1, .lst xs => gds n xs && decide (xs.length ≤ 1000000)
  | n + 1, .tup xs => gds n xs && decide (xs.length ≤ 1000000)
  | _ + 1, .str s => PyData.canLay0 (.str s) && decide (s.length ≤ 100000)
  | _ + 1, _ => true
def gds : Nat → List A → Bool
  | _, [] => true
  | n, x :: xs => gd n x && gds n xs
end
theorem gds_mem {n : Nat} {x : A} : ∀ {xs : List A}, gds n xs = true → x ∈ xs → gd n x = true
  | [], _, h => by cases h
  | y :: ys, h, m => by
    unfold gds at h
    rw [Bool.and_eq_true] at h
    rcases List.mem_cons.mp m with e | e
    · rw [e]; exact h.1
    · exact gds_mem h.2 e
theorem gds_of {n : Nat} : ∀ {xs : List A}, (∀ x ∈ xs, gd n x = true) → gds n xs = true
  | [], _ => by unfold gds; rfl
  | y :: ys, h => by
    unfold gds
    rw [h y List.mem_cons_self, gds_of fun x hx => h x (List.mem_cons_of_mem _ hx)]
    rfl
theorem gds_get {n i : Nat} {x : A} {xs : List A} (h : gds n xs = true) (e : xs[i]? = some x) : gd n x = true := gds_mem h (List.mem_of_getElem? e)
theorem gd_lst {n : Nat} {xs : List A} (h : gd (n + 1) (.lst xs) = true) : gds n xs = true ∧ xs.length ≤ 1000000 := by
  unfold gd at h
  rw [Bool.and_eq_true, decide_eq_true_eq] at h
  exact h
theorem gd_tup {n : Nat} {xs : List A} (h : gd (n + 1) (.tup xs) = true) : gds n xs = true ∧ xs.length ≤ 1000000 := by
  unfold gd at h
  rw [Bool.and_eq_true, decide_eq_true_eq] at h
  exact h
theorem gd_lst_of {n : Nat} {xs : List A} (h : ∀ x ∈ xs, gd n x = true) (hl : xs.length ≤ 1000000) : gd (n + 1) (.lst xs) = true := by
  unfold gd
  rw [gds_of h, decide_eq_true hl]
  rfl
theorem gd_tup_of {n : Nat} {xs : List A} (h : ∀ x ∈ xs, gd n x = true) (hl : xs.length ≤ 1000000) : gd (n + 1) (.tup xs) = true := by
  unfold gd
  rw [gds_of h, decide_eq_true hl]
  rfl
mutual
theorem gd_nr : ∀ {n : Nat} {x : A}, gd n x = true → nr x = true
  | 0, _, h => by unfold gd at h; cases h
  | n + 1, .non, _ => by unfold nr; rfl
  | n + 1, .bl _, _ => by unfold nr; rfl
  | n + 1, .int _, _ => by unfold nr; rfl
  | n + 1, .str _, _ => by unfold nr; rfl
  | n + 1, .ref _, h => by unfold gd at h; cases h
  | n + 1, .ty _, h => by unfold gd at h; cases h
  | n + 1, .lst xs, h => by unfold nr; exact gds_nr (gd_lst h).1
  | n + 1, .tup xs, h => by unfold nr; exact gds_nr (gd_tup h).1
theorem gds_nr : ∀ {n : Nat} {xs : List A}, gds n xs = true → nrs xs = true
  | _, [], _ => by unfold nrs; rfl
  | n, x :: xs, h => by
    unfold gds at h
    rw [Bool.and_eq_true] at h
    unfold nrs
    rw [gd_nr h.1, gds_nr h.2]
    rfl
end
theorem gd_kn {n : Nat} {x : A} {S : Sto} (h : gd n x = true) : kn S x := kn_nr (gd_nr h)
theorem gd_dle : ∀ {n : Nat} {x : A}, gd n x = true → dle n x = true
  | 0, _, h => by unfold gd at h; cases h
  | n + 1, .non, _ => by unfold dle; rfl
  | n + 1, .bl _, _ => by unfold dle; rfl
  | n + 1, .int _, _ => by unfold dle; rfl
  | n + 1, .str _, _ => by unfold dle; rfl
  | n + 1, .ref _, _ => by unfold dle; rfl
  | n + 1, .ty _, _ => by unfold dle; rfl
  | n + 1, .lst xs, h => by
    unfold dle
    rw [Bool.and_eq_true, decide_eq_true_eq, List.all_eq_true]
    exact ⟨fun x hx => gd_dle (gds_mem (gd_lst h).1 hx), (gd_lst h).2⟩
  | n + 1, .tup xs, h => by
    unfold dle
    rw [Bool.and_eq_true, decide_eq_true_eq, List.all_eq_true]
    exact ⟨fun x hx => gd_dle (gds_mem (gd_tup h).1 hx), (gd_tup h).2⟩
theorem gd_mono : ∀ {n m : Nat} {x : A}, gd n x = true → n ≤ m → gd m x = true
  | 0, _, _, h, _ => by unfold gd at h; cases h
  | n + 1, 0, _, _, l => by omega
  | n + 1, m + 1, .non, _, _ => by unfold gd; rfl
  | n + 1, m + 1, .bl _, _, _ => by unfold gd; rfl
  | n + 1, m + 1, .int _, _, _ => by unfold gd; rfl
  | n + 1, m + 1, .str _, h, _ => by unfold gd at h ⊢; exact h
  | n + 1, m + 1, .ref _, h, _ => by unfold gd at h; cases h
  | n + 1, m + 1, .ty _, h, _ => by unfold gd at h; cases h
  | n + 1, m + 1, .lst xs, h, l => gd_lst_of (fun x hx => gd_mono (gds_mem (gd_lst h).1 hx) (by omega)) (gd_lst h).2
  | n + 1, m + 1, .tup xs, h, l => gd_tup_of (fun x hx => gd_mono (gds_mem (gd_tup h).1 hx) (by omega)) (gd_tup h).2
mutual
theorem gd_py : ∀ {n : Nat} {x : A}, gd n x = true → ∃ d, pyd x = some d ∧ d.canLay0 = true ∧ d.depth ≤ n
  | 0, _, h => by unfold gd at h; cases h
  | n + 1, .non, _ => ⟨.none, by unfold pyd; rfl, rfl, by unfold PyData.depth; omega⟩
  | n + 1, .bl b, _ => ⟨.bool b, by unfold pyd; rfl, rfl, by unfold PyData.depth; omega⟩
  | n + 1, .int b, _ => ⟨.int b, by unfold pyd; rfl, rfl, by unfold PyData.depth; omega⟩
  | n + 1, .str b, h => ⟨.str b, by unfold pyd; rfl, by unfold gd at h; exact (Bool.and_eq_true_iff.mp h).1, by unfold PyData.depth; omega⟩
  | n + 1, .ref _, h => by unfold gd at h; cases h
  | n + 1, .ty _, h => by unfold gd at h; cases h
  | n + 1, .lst xs, h => by
    obtain ⟨ds, h1, h2, h3⟩ := gds_py (gd_lst h).1
    refine ⟨.list ds, by unfold pyd; rw [h1]; rfl, by unfold PyData.canLay0; exact h2, ?_⟩
    unfold PyData.depth
    omega
  | n + 1, .tup xs, h => by
    obtain ⟨ds, h1, h2, h3⟩ := gds_py (gd_tup h).1
    refine ⟨.tuple ds, by unfold pyd; rw [h1]; rfl, by unfold PyData.canLay0; exact h2, ?_⟩
    unfold PyData.depth
    omega
theorem gds_py : ∀ {n : Nat} {xs : List A}, gds n xs = true → ∃ ds, pyds xs = some ds ∧ PyData.canLayAll0 ds = true ∧ PyData.depthAll ds ≤ n
  | n, [], _ => ⟨[], by unfold pyds; rfl, by unfold PyData.canLayAll0; rfl, by unfold PyData.depthAll; omega⟩
  | n, x :: xs, h => by
    unfold gds at h
    rw [Bool.and_eq_true] at h
    obtain ⟨d, h1, h2, h3⟩ := gd_py h.1
    obtain ⟨ds, g1, g2, g3⟩ := gds_py h.2
    refine ⟨d :: ds, by unfold pyds; rw [h1, g1], by unfold PyData.canLayAll0; rw [h2, g2]; rfl, ?_⟩
    unfold PyData.depthAll
    omega
end
theorem gds_shaped {n : Nat} {xs : List A} (h : gds n xs = true) (hn : n ≤ 60) : ∃ ds, pyds xs = some ds ∧ SeqAt.shaped (.list ds) = true := by
  obtain ⟨ds, h1, h2, h3⟩ := gds_py h
  refine ⟨ds, h1, ?_⟩
  unfold SeqAt.shaped PyData.canLay0 PyData.depth
  rw [h2, Bool.true_and, decide_eq_true_eq]
  omega
/-- acc == [] for good data -/
theorem rEq_gd {neg : Bool} {S : Sto} {acc : List A} {P : A → Sto → Prop} {n : Nat} (h : gds n acc = true) (hn : n ≤ 60) (p : P (.bl (if neg then !acc.isEmpty else acc.isEmpty)) S) : rEqA neg (.lst acc) (.lst []) S P := rEq_nil (fun _ => gds_shaped h hn) p
theorem rEqD_gd {neg : Bool} {S : Sto} {acc : List A} {P : A → Sto → Prop} {n : Nat} (h : gds n acc = true) (hn : n ≤ 60) (p : P (.bl (if neg then !acc.isEmpty else acc.isEmpty)) S) : rEqDA neg (.lst acc) (.lst []) S P := rEq_gd (neg := neg) h hn p
/-! ### filters -/
theorem filt_succ {xs : List A} {f : A → Bool} {i : Nat} {x : A} (e : xs[i]? = some x) : (xs.take (i + 1)).filter f = if f x then (xs.take i).filter f ++ [x] else (xs.take i).filter f := by
  rw [List.take_add_one, e, List.filter_append]
  cases h : f x <;> simp [h]
theorem filt_emp {xs : List A} {f : A → Bool} : (xs.filter f).isEmpty = xs.all fun x => !f x := by
  induction xs with
  | nil => rfl
  | cons x xs ih =>
    rw [List.filter_cons, List.all_cons]
    cases h : f x with
    | true => simp
    | false => simpa using ih
theorem gds_filt {n : Nat} {xs : List A} {f : A → Bool} (h : gds n xs = true) : gds n (xs.filter f) = true := gds_of fun x hx => gds_mem h (List.mem_filter.mp hx).1
/-! ### a def that returns its own list and leaves others behind -/
def thawJ (sp : SpA) : SpA := fun as S P => sp as S fun a S' => ∃ (S0 : Sto) (p : Addr) (xs : List A), a = .ref p ∧ S0 p = none ∧ S' p = some (.lst xs) ∧ (∀ b c, S0 b = some c → S' b = some c) ∧ P (.lst xs) S0
theorem wk_thawJ {M : Msk} {S : Sto} {H : Hp} {P : A → Sto → Prop} {Q : VK} (w : Wk M P S H Q) : Wk M (fun a S' => ∃ (S0 : Sto) (p : Addr) (xs : List A), a = .ref p ∧ S0 p = none ∧ S' p = some (.lst xs) ∧ (∀ b c, S0 b = some c → S' b = some c) ∧ P (.lst xs) S0) S H Q := by
  rintro a S' v H' ⟨S0, p, xs, rfl, h0, hp, hs, h⟩ e s av
  have cp := s.cell p (.lst xs) hp
  obtain ⟨mp, vs, c1, c2⟩ := cp
  have hS0 : ∀ {b : Addr}, S' b = none → S0 b = none := fun {b} z => by
    cases e : S0 b with
    | none => rfl
    | some c => rw [hs b c e] at z; cases z
  have kx : Kx M S' H' M S0 H' := ⟨fun b o hb sb mb => ⟨hb, hS0 sb, mb⟩⟩
  refine w (.lst xs) S0 v H' h ⟨fun b o hb sb => ⟨(e.keep b o hb sb).1, hS0 (e.keep b o hb sb).2⟩⟩ ⟨fun b c hb => ?_, s.mask⟩ ⟨p, vs, av, h0, mp, c1, AVs.mono kx _ _ c2⟩
  have q := s.cell b c (hs b c hb)
  exact ⟨q.1, q.2.up kx fun _ z => z⟩
theorem Got.thawJ {P : Program} {w : World} {K : PySem.W.Frag} {mg : Str → Option Value} {base : Heap} {x : Str} {k : Nat} {ps : List Str} {st : Stmt} {f : Addr} {sp : SpA} (G : Got P w K mg base k ps x st f sp) : Got P w K mg base k ps x st f (Lay.thawJ sp) := by
  obtain ⟨fd, F, r⟩ := G.ex
  exact ⟨⟨fd, F.imp fun vs H Q E ⟨M, S, as, P', s, a, q, w⟩ => ⟨M, S, as, _, s, a, q, wk_thawJ w⟩, r⟩, G.mg⟩
theorem sup_comm {S : Sto} {a b : Addr} {c d : Cell} (h : a ≠ b) : sup (sup S a c) b d = sup (sup S b d) a c := by
  funext z
  unfold sup
  by_cases h1 : z = a
  · subst h1
    rw [if_neg h, if_pos rfl, if_pos rfl]
  · by_cases h2 : z = b
    · rw [if_pos h2, if_neg h1, if_pos h2]
    · rw [if_neg h2, if_neg h1, if_neg h1, if_neg h2]
theorem gds_perm {n : Nat} {xs ys : List A} (h : gds n xs = true) (p : ys.Perm xs) : gds n ys = true := gds_of fun x hx => gds_mem h (p.subset hx)
theorem pyds_gds {n : Nat} {xs : List A} (h : gds n xs = true) (hn : n ≤ 60) : xs ≠ [] → ∃ ds, pyds xs = some ds ∧ SeqAt.shaped (.list ds) = true := fun _ => gds_shaped h hn
theorem rEqD_of {neg : Bool} {S : Sto} {x x' y y' : A} {P : A → Sto → Prop} (h1 : rsv S x = rsv S x') (h2 : rsv S y = rsv S y') (h : rEqDA neg x' y' S P) : rEqDA neg x y S P := by
  unfold rEqDA at h ⊢
  rw [h1, h2]
  exact h
theorem perm_erase {α : Type} : ∀ {xs : List α} {i : Nat} (h : i < xs.length), xs.Perm (xs[i] :: xs.eraseIdx i)
  | x :: xs, 0, _ => List.Perm.refl _
  | x :: xs, i + 1, h => by
    have h2 : i < xs.length := by simpa using h
    refine List.Perm.trans (List.Perm.cons x (perm_erase h2)) ?_
    exact List.Perm.swap _ _ _
end Lay

namespace Lay
open PySem L2 PyProof.Rows
/-! ### lists of ints: equal, all different, sorted -/
theorem eqvAll_ints : ∀ ks ms : List Int, PyData.eqvAll (ks.map .int) (ms.map .int) = decide (ks = ms)
  | [], [] => rfl
  | [], m :: ms => rfl
  | k :: ks, [] => rfl
  | k :: ks, m :: ms => by
    show (PyData.eqv (.int k) (.int m) && PyData.eqvAll (ks.map .int) (ms.map .int)) = _
    rw [eqvAll_ints ks ms, Bool.eq_iff_iff, Bool.and_eq_true, decide_eq_true_eq, decide_eq_true_eq, List.cons.injEq]
    exact and_congr_left' (by unfold PyData.eqv; rw [beq_iff_eq])
theorem rEqD_ints {neg : Bool} {S : Sto} {ks ms : List Int} {P : A → Sto → Prop} (p : P (.bl (if neg then !decide (ks = ms) else decide (ks = ms))) S) : rEqDA neg (.lst (ks.map .int)) (.lst (ms.map .int)) S P := by
  refine ⟨.list (ks.map .int), .list (ms.map .int), by show (pyds (ks.map .int)).map _ = _; rw [pyds_ints]; rfl, by show (pyds (ms.map .int)).map _ = _; rw [pyds_ints]; rfl, shaped_ints ks, shaped_ints ms, ?_⟩
  have e : PyData.eqv (.list (ks.map .int)) (.list (ms.map .int)) = decide (ks = ms) := by unfold PyData.eqv; exact eqvAll_ints ks ms
  rw [e]
  exact p
/-- the ints lo, lo + 1 .. -/
def upI (lo : Int) (n : Nat) : List Int := (List.range n).map fun i => lo + (i : Nat)
theorem rngA_up (lo : Int) (n : Nat) : rngA lo n = (upI lo n).map .int := by
  unfold rngA upI
  rw [List.map_map]
  rfl
theorem upI_len (lo : Int) (n : Nat) : (upI lo n).length = n := by unfold upI; rw [List.length_map, List.length_range]
theorem upI_succ (lo : Int) (n : Nat) : upI lo (n + 1) = lo :: upI (lo + 1) n := by
  unfold upI
  rw [List.range_succ_eq_map, List.map_cons, List.map_map]
  congr 1
  · omega
  · refine List.map_congr_left fun i _ => ?_
    show lo + ((i + 1 : Nat) : Int) = _
    omega
theorem upI_mem {lo : Int} {n : Nat} {x : Int} : x ∈ upI lo n ↔ lo ≤ x ∧ x < lo + n := by
  unfold upI
  rw [List.mem_map]
  constructor
  · rintro ⟨i, h, rfl⟩
    rw [List.mem_range] at h
    omega
  · rintro ⟨h1, h2⟩
    exact ⟨(x - lo).toNat, List.mem_range.mpr (by omega), by omega⟩
theorem upI_nodup (n : Nat) : ∀ lo : Int, (upI lo n).Nodup := by
  induction n with
  | zero => intro lo; exact List.nodup_nil
  | succ n ih =>
    intro lo
    rw [upI_succ, List.nodup_cons, upI_mem]
    exact ⟨by omega, ih _⟩
theorem up_of : ∀ {ms : List Int} {lo : Int}, ms.Pairwise (· < ·) → (∀ x ∈ ms, lo ≤ x ∧ x < lo + ms.length) → ms = upI lo ms.length
  | [], _, _, _ => rfl
  | x :: xs, lo, hp, hb => by
    rw [List.pairwise_cons] at hp
    have hx := hb x List.mem_cons_self
    have ih := up_of (lo := lo + 1) hp.2 fun y hy => by
      have h1 := hp.1 y hy
      have h2 := hb y (List.mem_cons_of_mem _ hy)
      rw [List.length_cons] at h2
      omega
    have e : x = lo := by
      cases xs with
      | nil => simp at hx; omega
      | cons y ys =>
        rw [List.length_cons, upI_succ] at ih
        have h1 := hp.1 y List.mem_cons_self
        have h3 : y = lo + 1 := (List.cons.inj ih).1
        omega
    rw [List.length_cons, upI_succ, e, ← ih]
theorem met_nodup (ns : List Int) : ∀ i, i ≤ ns.length → (firstMet (fun j => ns.getD j 0) i).length = i → (ns.take i).Nodup
  | 0, _, _ => by rw [List.take_zero]; exact List.nodup_nil
  | i + 1, hi, h => by
    rw [firstMet_succ] at h
    unfold step_dedup at h
    have le := firstMet_length_le (fun j => ns.getD j 0) i
    split at h
    · omega
    · rename_i c
      rw [List.length_append, List.length_singleton] at h
      have ih := met_nodup ns i (by omega) (by omega)
      rw [List.take_add_one, List.getElem?_eq_getElem (by omega), Option.toList_some, List.nodup_append]
      refine ⟨ih, by simp, fun a ha b hb e => c ?_⟩
      rw [List.mem_singleton] at hb
      rw [firstMet_any, List.any_eq_true]
      refine ⟨a, ?_, ?_⟩
      · obtain ⟨j, hj, e2⟩ := List.getElem_of_mem ha
        rw [List.length_take] at hj
        rw [List.getElem_take] at e2
        refine List.mem_map.mpr ⟨j, List.mem_range.mpr (by omega), ?_⟩
        rw [List.getD_eq_getElem?_getD, List.getElem?_eq_getElem (by omega), Option.getD_some]
        exact e2
      · rw [List.getD_eq_getElem?_getD, List.getElem?_eq_getElem (by omega), Option.getD_some, e, hb]
        exact beq_self_eq_true _
theorem dist_nodup {ns : List Int} : dist ns = ns.length ↔ ns.Nodup := by
  constructor
  · intro h
    have z := met_nodup ns ns.length (Nat.le_refl _) h
    rwa [List.take_length] at z
  · intro h
    unfold dist
    have : ∀ i, i ≤ ns.length → firstMet (fun j => ns.getD j 0) i = ns.take i := by
      intro i
      induction i with
      | zero => intro _; rfl
      | succ i ih =>
        intro hi
        rw [firstMet_succ, ih (by omega)]
        unfold step_dedup
        rw [List.take_add_one, List.getElem?_eq_getElem (by omega), Option.toList_some, List.getD_eq_getElem?_getD, List.getElem?_eq_getElem (by omega), Option.getD_some, if_neg]
        intro c
        rw [List.any_eq_true] at c
        obtain ⟨x, hx, e⟩ := c
        rw [beq_iff_eq] at e
        obtain ⟨j, hj, e2⟩ := List.getElem_of_mem hx
        rw [List.length_take] at hj
        rw [List.getElem_take] at e2
        exact List.pairwise_iff_getElem.mp h j i (by omega) (by omega) (by omega) (by rw [e2, e])
    rw [this _ (Nat.le_refl _), List.take_length]
/-- so many ints below their number: all different iff sorted they are 0, 1 .. -/
theorem deal_iff {ns ms : List Int} (pm : ms.Perm ns) (hs : ms.Pairwise (· ≤ ·)) (hb : ∀ x ∈ ns, 0 ≤ x ∧ x < (ns.length : Int)) : ms = upI 0 ns.length ↔ dist ns = ns.length := by
  rw [dist_nodup]
  constructor
  · intro e
    rw [← List.Perm.nodup_iff pm, e]
    exact upI_nodup _ _
  · intro h
    have h2 : ms.Nodup := (List.Perm.nodup_iff pm).mpr h
    have h3 : ms.Pairwise (· < ·) := by
      have := List.Pairwise.and hs h2
      refine List.Pairwise.imp ?_ this
      rintro a b ⟨h1, h2⟩
      omega
    rw [← pm.length_eq]
    exact up_of h3 fun x hx => by
      have := hb x (pm.subset hx)
      rw [pm.length_eq]
      omega
/-! ### cuts -/
theorem cut_tail {xs : List A} : cutA xs (some 1) none = xs.drop 1 := by
  unfold cutA
  rw [HT.sIx_none, show HT.sIx xs.length 0 (some 1) = min 1 xs.length from HT.sIx_nat xs.length 0 1]
  cases xs with
  | nil => rfl
  | cons x xs => rw [List.length_cons, Nat.min_eq_left (by omega)]; exact List.take_of_length_le (by simp)
theorem cut_init {xs : List A} : cutA xs none (some (-1)) = xs.dropLast := by
  unfold cutA
  have e : HT.sIx xs.length xs.length (some (-1)) = xs.length - 1 := by
    show (if (-1 : Int) < 0 then ((-1 : Int) + (xs.length : Int)).toNat else min (-1 : Int).toNat xs.length) = _
    rw [if_pos (by decide)]
    omega
  rw [HT.sIx_none, List.drop_zero, List.dropLast_eq_take, e, Nat.sub_zero]
theorem atI_last {xs : List A} {x : A} : atI (xs ++ [x]) (-1) = some x := by
  unfold atI ixN
  rw [if_neg (by decide), if_pos (by rw [List.length_append, List.length_singleton]; omega)]
  show (xs ++ [x])[((-1 : Int) + ((xs ++ [x]).length : Int)).toNat]? = _
  rw [List.length_append, List.length_singleton, show ((-1 : Int) + ((xs.length + 1 : Nat) : Int)).toNat = xs.length by omega]
  simp
theorem gd_cat {n : Nat} {xs ys : List A} (h1 : ∀ x ∈ xs, gd n x = true) (h2 : ∀ x ∈ ys, gd n x = true) (hl : xs.length + ys.length ≤ 1000000) : gd (n + 1) (.lst (xs ++ ys)) = true :=
  gd_lst_of (fun x hx => (List.mem_append.mp hx).elim (h1 x) (h2 x)) (by rw [List.length_append]; exact hl)
theorem all_drop {xs : List A} {p : A → Prop} {k : Nat} (h : ∀ x ∈ xs, p x) : ∀ x ∈ xs.drop k, p x := fun x hx => h x (List.mem_of_mem_drop hx)
theorem all_init {xs : List A} {p : A → Prop} (h : ∀ x ∈ xs, p x) : ∀ x ∈ xs.dropLast, p x := fun x hx => h x ((List.dropLast_subset xs) hx)
theorem all_one {x : A} {p : A → Prop} (h : p x) : ∀ y ∈ [x], p y := fun y hy => by rw [List.mem_singleton] at hy; rw [hy]; exact h
theorem gd_ints {ns : List Int} {n : Nat} : ∀ x ∈ ns.map A.int, gd (n + 1) x = true := fun x hx => by
  obtain ⟨i, _, rfl⟩ := List.mem_map.mp hx
  unfold gd
  rfl
/-! ### what a call leaves behind may be forgotten -/
def forget (sp : SpA) : SpA := fun as S P => sp as S fun a S' => ∃ S0 : Sto, (∀ b c, S0 b = some c → S' b = some c) ∧ P a S0
theorem wk_forget {M : Msk} {S : Sto} {H : Hp} {P : A → Sto → Prop} {Q : VK} (w : Wk M P S H Q) : Wk M (fun a S' => ∃ S0 : Sto, (∀ b c, S0 b = some c → S' b = some c) ∧ P a S0) S H Q := by
  rintro a S' v H' ⟨S0, hs, h⟩ e s av
  have hS0 : ∀ {b : Addr}, S' b = none → S0 b = none := fun {b} z => by
    cases e : S0 b with
    | none => rfl
    | some c => rw [hs b c e] at z; cases z
  have kx : Kx M S' H' M S0 H' := ⟨fun b o hb sb mb => ⟨hb, hS0 sb, mb⟩⟩
  refine w a S0 v H' h ⟨fun b o hb sb => ⟨(e.keep b o hb sb).1, hS0 (e.keep b o hb sb).2⟩⟩ ⟨fun b c hb => ?_, s.mask⟩ (AV.mono kx _ _ av)
  have q := s.cell b c (hs b c hb)
  exact ⟨q.1, q.2.up kx fun _ z => z⟩
theorem Got.forget {P : Program} {w : World} {K : PySem.W.Frag} {mg : Str → Option Value} {base : Heap} {x : Str} {k : Nat} {ps : List Str} {st : Stmt} {f : Addr} {sp : SpA} (G : Got P w K mg base k ps x st f sp) : Got P w K mg base k ps x st f (Lay.forget sp) := by
  obtain ⟨fd, F, r⟩ := G.ex
  exact ⟨⟨fd, F.imp fun vs H Q E ⟨M, S, as, P', s, a, q, w⟩ => ⟨M, S, as, _, s, a, q, wk_forget w⟩, r⟩, G.mg⟩
theorem cut_take {xs : List A} {i : Nat} (h : i ≤ xs.length) : cutA xs none (some (i : Int)) = xs.take i := by
  unfold cutA
  rw [HT.sIx_none, HT.sIx_nat, Nat.min_eq_left h, List.drop_zero, Nat.sub_zero]
theorem cut_drop {xs : List A} {i : Nat} (h : i + 1 ≤ xs.length) : cutA xs (some ((i : Int) + 1)) none = xs.drop (i + 1) := by
  have e : (i : Int) + 1 = ((i + 1 : Nat) : Int) := by omega
  unfold cutA
  rw [e, HT.sIx_none, HT.sIx_nat, Nat.min_eq_left h]
  exact List.take_of_length_le (by rw [List.length_drop]; exact Nat.le_refl _)
end Lay

namespace Lay
open PySem L2 PyProof.Rows
/-! ### data that repr may show -/
def Shw (n w : Nat) (x : A) : Prop := ∃ d, pyd x = some d ∧ d.canLay0 = true ∧ d.depth ≤ n ∧ d.weight ≤ w ∧ d.intsShort 100 = true ∧ d.showable = true
def Shws (n w : Nat) (xs : List A) : Prop := ∃ ds, pyds xs = some ds ∧ PyData.canLayAll0 ds = true ∧ PyData.depthAll ds ≤ n ∧ PyData.weightAll ds ≤ w ∧ PyData.intsShortAll 100 ds = true ∧ PyData.showableAll ds = true
theorem Shw.mono {n m w v : Nat} {x : A} (h : Shw n w x) (a : n ≤ m) (b : w ≤ v) : Shw m v x := by
  obtain ⟨d, h1, h2, h3, h4, h5, h6⟩ := h
  exact ⟨d, h1, h2, Nat.le_trans h3 a, Nat.le_trans h4 b, h5, h6⟩
theorem shw_int {i : Int} (h : i.natAbs < 10 ^ 99) : Shw 1 330 (.int i) := by
  have e : i.natAbs.log2 < 329 := by
    by_cases z : i.natAbs = 0
    · rw [z]; decide
    · exact (Nat.log2_lt z).mpr (Nat.lt_trans h (by decide))
  refine ⟨.int i, by unfold pyd; rfl, rfl, by unfold PyData.depth; omega, ?_, ?_, ?_⟩
  · unfold PyData.weight
    split
    · omega
    · omega
  · unfold PyData.intsShort
    refine decide_eq_true ?_
    have e2 := int_text_length_le10 (k := 99) (by decide) h
    show (Str.ofString (toString i)).length ≤ 100
    rw [PySem.ofString_length]
    exact e2
  · unfold PyData.showable
    exact decide_eq_true (Nat.lt_trans e (by decide))
theorem shws_of {n w : Nat} : ∀ {xs : List A}, (∀ x ∈ xs, Shw n w x) → Shws n (xs.length * (w + 1)) xs
  | [], _ => ⟨[], by unfold pyds; rfl, by unfold PyData.canLayAll0; rfl, by unfold PyData.depthAll; omega, by unfold PyData.weightAll; omega, by unfold PyData.intsShortAll; rfl, by unfold PyData.showableAll; rfl⟩
  | x :: xs, h => by
    obtain ⟨d, h1, h2, h3, h4, h5, h6⟩ := h x List.mem_cons_self
    obtain ⟨ds, g1, g2, g3, g4, g5, g6⟩ := shws_of (xs := xs) fun y hy => h y (List.mem_cons_of_mem _ hy)
    refine ⟨d :: ds, by unfold pyds; rw [h1, g1], by unfold PyData.canLayAll0; rw [h2, g2]; rfl, ?_, ?_, by unfold PyData.intsShortAll; rw [h5, g5]; rfl, by unfold PyData.showableAll; rw [h6, g6]; rfl⟩
    · unfold PyData.depthAll
      omega
    · unfold PyData.weightAll
      rw [List.length_cons, Nat.succ_mul]
      omega
theorem shw_lst {n w m : Nat} {xs : List A} (h : ∀ x ∈ xs, Shw n w x) (hl : xs.length ≤ m) : Shw (n + 1) (m * (w + 1)) (.lst xs) := by
  obtain ⟨ds, h1, h2, h3, h4, h5, h6⟩ := shws_of h
  have e := Nat.mul_le_mul_right (w + 1) hl
  refine ⟨.list ds, by unfold pyd; rw [h1]; rfl, by unfold PyData.canLay0; exact h2, ?_, ?_, by unfold PyData.intsShort; exact h5, by unfold PyData.showable; exact h6⟩
  · unfold PyData.depth
    omega
  · unfold PyData.weight
    omega
theorem shw_tup {n w m : Nat} {xs : List A} (h : ∀ x ∈ xs, Shw n w x) (hl : xs.length ≤ m) : Shw (n + 1) (m * (w + 1)) (.tup xs) := by
  obtain ⟨ds, h1, h2, h3, h4, h5, h6⟩ := shws_of h
  have e := Nat.mul_le_mul_right (w + 1) hl
  refine ⟨.tuple ds, by unfold pyd; rw [h1]; rfl, by unfold PyData.canLay0; exact h2, ?_, ?_, by unfold PyData.intsShort; exact h5, by unfold PyData.showable; exact h6⟩
  · unfold PyData.depth
    omega
  · unfold PyData.weight
    omega
/-- what repr gives of such a list: the same text each time -/
theorem repr_A {n w : Nat} {xs : List A} (h : Shw n w (.lst xs)) (hn : n ≤ 60) (hw : w ≤ 160000) : ∃ t : Str, ∀ S P, P (.str t) S → rReprA [.lst xs] S P := by
  obtain ⟨d, h1, h2, h3, h4, h5, h6⟩ := h
  have hd : ∃ ds, d = .list ds := by
    unfold pyd at h1
    cases e : pyds xs with
    | none => rw [e] at h1; cases h1
    | some ds => rw [e] at h1; cases h1; exact ⟨ds, rfl⟩
  obtain ⟨ds, rfl⟩ := hd
  refine ⟨(PyData.list ds).shown, fun S P k => ⟨_, ds, rfl, h1, h6, ?_, ?_, by omega, k⟩⟩
  · exact PyData.hasDict_of_canLay _ h2
  · have q := PyData.shown_le 100 (by decide) _ (PyData.leavesShort_of_canLay0 100 _ h2 h5)
    rw [sizeLine_eq]
    omega
/-! ### two defs of two names stand at two places -/
theorem Def.ne {K : PySem.W.Frag} {mg : Str → Option Value} {x y : Str} {st st' : Stmt} {f g : Addr} (D : Def K mg x st f) (E : Def K mg y st' g) (n : x ≠ y) : f ≠ g := fun e => by
  subst e
  obtain ⟨_, F⟩ := D.ex
  obtain ⟨_, F'⟩ := E.ex
  obtain ⟨_, _, _, _, _, _, _, _, _, e2, lk, _⟩ := F.ex
  subst e2
  obtain ⟨_, _, _, _, _, _, _, _, _, e3, lk', _⟩ := F'.ex
  subst e3
  rw [lk] at lk'
  have z := Option.some.inj lk'
  injection z with _ _ z3 _
  injection z3 with z4
  have z5 := congrArg FuncData.name z4
  exact n z5
end Lay

namespace Lay
open PySem L2 PyProof.Rows PySem.W
/-! ### the table of errors, from a list -/
def tabE (l : List (Str × Addr)) : TabE := fun C => (l.find? fun p => p.2 == C).map (·.1)
theorem tabE_in {l : List (Str × Addr)} {C : Addr} {x : Str} (h : tabE l C = some x) : (x, C) ∈ l := by
  unfold tabE at h
  cases e : l.find? fun p => p.2 == C with
  | none => rw [e] at h; cases h
  | some p =>
    rw [e] at h
    have h1 : p.1 = x := Option.some.inj h
    have h2 : p.2 = C := by simpa using List.find?_some e
    have h3 := List.mem_of_find?_eq_some e
    rw [← h1, ← h2]
    exact h3
theorem tabE_at {l : List (Str × Addr)} (hn : (l.map (·.2)).Nodup) : ∀ {p : Str × Addr}, p ∈ l → tabE l p.2 = some p.1 := by
  induction l with
  | nil => intro p h; cases h
  | cons q l ih =>
    intro p h
    rw [List.map_cons, List.nodup_cons] at hn
    unfold tabE
    rw [List.find?_cons]
    rcases List.mem_cons.mp h with rfl | h
    · rw [beq_self_eq_true]
      rfl
    · have n : (q.2 == p.2) = false := by
        cases e : q.2 == p.2 with
        | false => rfl
        | true => exact absurd (List.mem_map_of_mem (f := fun (z : Str × Addr) => z.2) h) (by rw [← eq_of_beq e]; exact hn.1)
      rw [n]
      exact ih hn.2 h
structure ErrF (P : Program) (K : Frag) (mg : Str → Option Value) (R : Addr) (p : Str × Addr) : Prop where
  m : mg p.1 = some (.ref p.2)
  i : ∃ fI fd, ErrI P K mg p.2 fI fd
  x : XfC K p.2
  e : ExcC K p.2
  r : exmOne K (.ref p.2) (.ref R) = some true
def kitB (K : Frag) (l : List (Str × Addr)) : Bool := l.all fun p => l.all fun q => kitOne K (.ref p.2) (.ref q.2) == some (decide (p.1 = q.1))
theorem errT_mk {P : Program} {K : Frag} {mg : Str → Option Value} {R : Addr} {l : List (Str × Addr)} (hR : mg "RentError" = some (.ref R)) (h : ∀ p ∈ l, ErrF P K mg R p) (hk : kitB K l = true) : ErrT P K mg R (tabE l) := by
  refine ⟨hR, fun C x e => ?_, fun C D x y e1 e2 => ?_⟩
  · have F := h _ (tabE_in e)
    exact ⟨F.m, F.i, F.x, F.e, F.r⟩
  · have q := List.all_eq_true.mp (List.all_eq_true.mp hk _ (tabE_in e1)) _ (tabE_in e2)
    exact eq_of_beq q
def excB (K : Frag) (D : Addr) : Bool := decide (findIn K (.ref D) "__getattribute__" = some (some (.builtin "BaseException.__getattribute__"))) && decide (findIn K (.ref D) "__getattr__" = some none) && decide (subIn K (.ref D) (.type "BaseException") = some true) && hasDictIn K D && decide (findIn K (.ref D) "__class__" = some (some (.builtin "object.__class__"))) && decide (specialIn K (.builtin "object.__class__") "__get__" = some (some (.builtin "getset_descriptor.__get__"))) && decide (takesIn K (.builtin "object.__class__") = some true) && decide (mroIn K D (.type "object") = some true)
theorem excB_ok {K : Frag} {D : Addr} (h : excB K D = true) : ExcC K D := by
  simp only [excB, Bool.and_eq_true, decide_eq_true_eq] at h
  obtain ⟨⟨⟨⟨⟨⟨⟨h1, h2⟩, h3⟩, h4⟩, h5⟩, h6⟩, h7⟩, h8⟩ := h
  exact ⟨h1, h2, h3, h4, h5, h6, h7, h8⟩
def errB (K : Frag) (C R fI : Addr) : Bool := xfB K C && excB K C && decide (findIn K (.ref C) "__setattr__" = some (some (.builtin "object.__setattr__"))) && decide (typeIn K (.ref C) = some (.type "type")) && keepIn K (.ref C) && decide (typeIn K (.ref fI) = some (.type "function")) &&
  decide (nsIn K cStatics "thirdparty.any" = some none) && decide (findIn K (.ref C) "value" = some none) && decide (ks_superIn K C C "__init__" = some (some (.builtin "ValueError.__init__"))) && decide (subIn K (.ref C) (.type "ValueError") = some true) && decide (mroIn K C (.ref C) = some true) && decide (exmOne K (.ref C) (.ref R) = some true)
theorem errF_mk {P : Program} {K : Frag} {h : Heap} {mg : Str → Option Value} {x : Str} {C R fI cc cda T : Addr}
    {nm q : Str} {N : Addr} {bs bm : List Value} {sn : List Str} {sub : List Value} {ab : Bool} {col : Option Bool} {dd : Option Addr} {k0 k1 k2 k3 k5 : Option Value}
    {oc kV doc pm ct ccl cl tc z : Value} {od an cdd cld td : Option Addr} {osl ccs csl tsl : Array (Option Value)} {vs : Array Value} {file : Str} {tf : Tok} {m : Nat} {qual : Str} {p0 p1 p2 p3 p4 p5 p6 p7 p8 p9 q1 q2 q3 : Pos}
    (X : K.In h) (G : h.Ns mainGlobals mg)
    (a : nsIn K mainGlobals x = some (some (.ref C)))
    (l : K.lookup C = some (excClassObj nm q C N bs bm true sn sub ab col dd k0 k1 k2 k3 k5 "ValueError.__new__"))
    (r : PySem.HandSPX.refsVE bm = true)
    (i : findIn K (.ref C) "__init__" = some (some (.ref fI)))
    (g : K.lookup fI = some ⟨oc, od, .func (ksFn "__init__" qual (errArgs q1 q2 q3) (errBody p0 p1 p2 p3 p4 p5 p6 p7 p8 p9) errScope (.ref T) kV doc pm an (.ref cda) ct cc), osl⟩)
    (hl : (p2.endLine == p4.line) = true)
    (j : codeIn K (.ref cda) qual = true)
    (mm : K.lookup cda = some ⟨ccl, cdd, .fields vs, ccs⟩) (nn : vs[2]? = some (.str file tf)) (oo : ((P.main.file : Str) == file) = true)
    (pp : K.lookup cc = some ⟨cl, cld, .cell (some (.ref C)), csl⟩)
    (qq : K.lookup T = some ⟨tc, td, .seq [z].toArray m, tsl⟩)
    (su : nsIn K mainGlobals "super" = some none) (top : (P.main.scope.names.lookup ("super" : Str)).isSome = false)
    (b : errB K C R fI = true) : ErrF P K mg R (x, C) := by
  simp only [errB, Bool.and_eq_true, decide_eq_true_eq] at b
  obtain ⟨⟨⟨⟨⟨⟨⟨⟨⟨⟨⟨b1, b2⟩, b3⟩, b4⟩, b5⟩, b6⟩, b7⟩, b8⟩, b9⟩, b10⟩, b11⟩, b12⟩ := b
  have xf := xfB_ok b1
  refine ⟨mg_of X G a, ⟨fI, _, ⟨⟨⟨_, _, _, _, _, _, _, _, _, _, _, _, _, _, _, l, r⟩, b3, xf.exC, b4, b5⟩, i, b6, ⟨_, _, _, _, _, _, _, _, _, _, _, _, _, _, _, _, _, _, _, _, _, _, _, _, _, rfl, hl, g, j, ⟨_, _, _, _, _, _, mm, nn, oo⟩, ⟨_, _, _, pp⟩, ⟨T, _, z, m, rfl, qq, rfl⟩⟩, mg_none_of X G su, top, b7, b8, b9, b10, b11⟩⟩, xf, excB_ok b2, b12⟩
/-! ### tables of held defs, from lists -/
def tabL {α : Type} (l : List (Addr × α)) : Addr → Option α := fun f => (l.find? fun p => p.1 == f).map (·.2)
theorem tabL_in {α : Type} {l : List (Addr × α)} {f : Addr} {x : α} (h : tabL l f = some x) : (f, x) ∈ l := by
  unfold tabL at h
  cases e : l.find? fun p => p.1 == f with
  | none => rw [e] at h; cases h
  | some p =>
    rw [e] at h
    have h1 : p.2 = x := Option.some.inj h
    have h2 : p.1 = f := by simpa using List.find?_some e
    have h3 := List.mem_of_find?_eq_some e
    rw [← h1, ← h2]
    exact h3
theorem tabL_at {α : Type} {l : List (Addr × α)} (hn : (l.map (·.1)).Nodup) : ∀ {p : Addr × α}, p ∈ l → tabL l p.1 = some p.2 := by
  induction l with
  | nil => intro p h; cases h
  | cons q l ih =>
    intro p h
    rw [List.map_cons, List.nodup_cons] at hn
    unfold tabL
    rw [List.find?_cons]
    rcases List.mem_cons.mp h with rfl | h
    · rw [beq_self_eq_true]
      rfl
    · have n : (q.1 == p.1) = false := by
        cases e : q.1 == p.1 with
        | false => rfl
        | true => exact absurd (List.mem_map_of_mem (f := fun (z : Addr × α) => z.1) h) (by rw [← eq_of_beq e]; exact hn.1)
      rw [n]
      exact ih hn.2 h
section
variable {P : Program} {w : World} {K : Frag} {mg : Str → Option Value} {base : Heap}
def HX1 (P : Program) (w : World) (K : Frag) (mg : Str → Option Value) (base : Heap) (k : Nat) (p : Addr × SpX) : Prop := ∃ (fd : FuncData) (ps : List Str), FnOk P w K mg base (CX P w) k p.1 fd ps (liftSpX p.2) ∧ keepIn K (.ref p.1) = true ∧ Binds K fd ps []
theorem GotX.h1 {j k : Nat} {ps : List Str} {x : Str} {st : Stmt} {f : Addr} {sp : SpX} (G : GotX P w K mg base j ps x st f sp) (h : j ≤ k) : HX1 P w K mg base k (f, sp) := by
  obtain ⟨fd, F, F2, F3⟩ := G.ex
  exact ⟨fd, ps, F.mono h, F2.kp, F3⟩
theorem heldX_mk {k : Nat} {l : List (Addr × SpX)} (h : ∀ p ∈ l, HX1 P w K mg base k p) : HeldX P w K mg base k (tabL l) := ⟨fun f sp e => h _ (tabL_in e)⟩
def H1 (P : Program) (w : World) (K : Frag) (mg : Str → Option Value) (base : Heap) (k : Nat) (p : Addr × SpA) : Prop := ∃ (fd : FuncData) (ps : List Str), FnOk P w K mg base CX0 k p.1 fd ps (liftSp p.2) ∧ keepIn K (.ref p.1) = true ∧ Binds K fd ps []
theorem Got.h1 {j k : Nat} {ps : List Str} {x : Str} {st : Stmt} {f : Addr} {sp : SpA} (G : Got P w K mg base j ps x st f sp) (h : j ≤ k) : H1 P w K mg base k (f, sp) := by
  obtain ⟨fd, F, F2, F3⟩ := G.ex
  exact ⟨fd, ps, F.mono h, F2.kp, F3⟩
theorem held_mk {k : Nat} {l : List (Addr × SpA)} (h : ∀ p ∈ l, H1 P w K mg base k p) : Held' P w K mg base k (tabL l) := ⟨fun f sp e => h _ (tabL_in e)⟩
end
theorem hcd_of {K : Frag} {x : Str} {a : Arguments} {b : List Stmt} {sc : Scope} {f c : Addr} {oc kV doc pm ct : Value} {od an : Option Addr} {osl : Array (Option Value)} (l : K.lookup f = some ⟨oc, od, .func (fnOf x x a b sc .none kV doc pm an (.ref c) ct), osl⟩) :
    ∀ oc od kV doc pm an cdv ct osl, K.lookup f = some ⟨oc, od, .func (fnOf x x a b sc .none kV doc pm an cdv ct), osl⟩ → cdv = .ref c := by
  intro oc od kV doc pm an cdv ct osl e
  rw [l] at e
  have z := Option.some.inj e
  injection z with _ _ z3 _
  injection z3 with z4
  exact (congrArg FuncData.code z4).symm
end Lay

namespace Lay
open PySem L2 PyProof.Rows PySem.W
theorem Room.units65 {k : Nat} {A : Around} (r : Room k A) : A.units + 65 < cLine := by have := r.un; omega
section
variable {X : Cx} {e : Expr} {es : List Expr} {te ta tb : TEA} {p pos : Pos} {x : Str}
/-! ### x in xs, x not in xs: data -/
def rInA (neg : Bool) : RA2 := fun x y S P => ∃ d ds, pyd (rsv S x) = some d ∧ pyd (rsv S y) = some (.list ds) ∧ SeqAt.shaped d = true ∧ SeqAt.shaped (.list ds) = true ∧ P (.bl (if neg then !(ds.any fun z => PyData.eqv z d) else ds.any fun z => PyData.eqv z d)) S
theorem oa_in (hu : X.A.units + 65 < cLine) : OpX X (compareOp .In) (rInA false) := by
  refine ⟨_, op_inD hu, fun M S H x y u v P Q s ax ay q k => ?_⟩
  obtain ⟨d, e, h1, h2, h3, h4, h5⟩ := q
  exact ⟨d, e, rsv_ok s ax h1, rsv_ok s ay h2, h3, h4, k.same s h5 rfl⟩
theorem oa_notIn (hu : X.A.units + 65 < cLine) : OpX X (compareOp .NotIn) (rInA true) := by
  refine ⟨_, op_notInD hu, fun M S H x y u v P Q s ax ay q k => ?_⟩
  obtain ⟨d, e, h1, h2, h3, h4, h5⟩ := q
  exact ⟨d, e, rsv_ok s ax h1, rsv_ok s ay h2, h3, h4, k.same s h5 rfl⟩
theorem any_ints (i : Int) : ∀ ns : List Int, ((ns.map PyData.int).any fun z => PyData.eqv z (.int i)) = decide (i ∈ ns)
  | [] => rfl
  | n :: ns => by
    rw [List.map_cons, List.any_cons, any_ints i ns, Bool.eq_iff_iff, Bool.or_eq_true, decide_eq_true_eq, decide_eq_true_eq, List.mem_cons]
    have : PyData.eqv (.int n) (.int i) = (n == i) := by unfold PyData.eqv; rfl
    rw [this, beq_iff_eq]
    exact or_congr_left ⟨fun h => h.symm, fun h => h.symm⟩
theorem rIn_ints {neg : Bool} {i : Int} {ns : List Int} {y : A} {S : Sto} {P : A → Sto → Prop} (hy : rsv S y = .lst (ns.map .int)) (p : P (.bl (if neg then !decide (i ∈ ns) else decide (i ∈ ns))) S) : rInA neg (.int i) y S P := by
  refine ⟨.int i, ns.map .int, by unfold rsv lstr pyd; rfl, by rw [hy]; show (pyds (ns.map .int)).map _ = _; rw [pyds_ints]; rfl, by rfl, shaped_ints ns, ?_⟩
  rw [any_ints]
  exact p
/-! ### xs.index(i) of a list of ints -/
def rIndex : V → List V → Hp → VK → Prop := fun x vs H Q => ∃ (l : Addr) (ns : List Int) (i : Int), x = .ref l ∧ vs = [.int i] ∧ H l = some (.lst (ns.map V.int)) ∧ i ∈ ns ∧ Q (.int (ns.idxOf i : Nat)) H
theorem ints_of_vals : ∀ {ns : List Int} {us : List Value}, Vals (ns.map V.int) us → IntsAre us ns
  | [], _, .nil => .nil
  | n :: ns, _, .cons h r => by
    obtain ⟨t, rfl⟩ := h
    exact .cons n t (ints_of_vals r)
theorem mt_index : MtM X "list.index" rIndex := by
  intro pins s σ H x vs v us Q I rx rv h
  obtain ⟨l, ns, i, rfl, rfl, hH, hi, q⟩ := h
  cases rx
  obtain ⟨u, rfl, ru⟩ := rv.one
  obtain ⟨t, rfl⟩ := ru
  obtain ⟨z, its, n, r, hl, e⟩ := I.lstM hH
  rw [List.length_map] at z
  exact PySem.SeqAt.list_index_ints (vs := its) ⟨_, e, rfl, n, rfl⟩ (ints_of_vals r) z hi ⟨.int _, H, I.kept (t' := s.toks + 1) fun _ _ z => z, ⟨s.toks, rfl⟩, q⟩
def eIndex (to te : TEA) : TEA := fun nv S P => to nv S fun x S1 => (∃ xs, lstv S1 x = some xs) ∧ te nv S1 fun y S2 => ∃ (ns : List Int) (i : Int), y = .int i ∧ lstv S2 x = some (ns.map .int) ∧ i ∈ ns ∧ P (.int (ns.idxOf i : Nat)) S2
theorem avs_int {M : Msk} {S : Sto} {H : Hp} : ∀ {ns : List Int} {vs : List V}, AVs M S H (ns.map A.int) vs → vs = ns.map V.int
  | [], _, h => h
  | n :: ns, _, ⟨v, r, h1, h2, h3⟩ => by
    rw [h1, show v = _ from h2, avs_int h3]
    rfl
theorem ea_index {o : Expr} {to : TEA} {apos : Pos} (ho : EA X o to) (h : EA X e te) (hs : starEach [e] X.env = (false, eval e X.env) :: starEach [] X.env := by rfl) (hbase : attributeBase o "index" X.env (eval o X.env) = eval o X.env := by rfl)
    (hfew : ((backTo pos (starEach [e] X.env)).all (fun x => !x.1) && (backToKw pos (keywordEach [] X.env)).all (fun x => x.1.isSome) && decide ([e].length + ([] : List Keyword).length + (if ([] : List Keyword).isEmpty then 0 else 1) < 30)) = true := by rfl)
    (hline : (apos.endLine == pos.line) = true := by rfl) (hpl : (backTo pos (starEach [] X.env)).any (·.1) = false := by rfl) : EA X (.Call (.Attribute o "index" apos) [e] [] pos) (eIndex to te) := by
  obtain ⟨t, pp, k⟩ := ho
  obtain ⟨t1, pp1, k1⟩ := h
  refine ⟨_, pe_bm PySem.F.plainAttrs_list PySem.F.slot_list_index PySem.F.type_list_index mt_index pp (pa_cons pp1 pa_nil hs) hbase hfew hline hs hpl, fun M σ H nv S P Q r h w => ?_⟩
  refine k M σ H nv S _ _ r h fun x S1 v H1 q e1 s1 av => ?_
  obtain ⟨⟨xs, hp⟩, q⟩ := q
  obtain ⟨p, vs, rfl, c1, c2⟩ := lstv_ok s1 av hp
  refine ⟨.inl ⟨rfl, vs, .inl (.inl c1)⟩, k1 M σ H1 nv S1 _ _ (r.up e1 s1) q fun y S2 v2 H2 q2 e2 s2 a2 => ?_⟩
  obtain ⟨ns, i, rfl, hp2, hi, q2⟩ := q2
  obtain ⟨p', ws, e0, d1, d2⟩ := lstv_ok s2 (av.up e2) hp2
  cases e0
  rw [avs_int d2] at d1
  exact ⟨p, ns, i, rfl, by rw [show v2 = _ from a2], d1, hi, w _ _ _ _ q2 (e1.trans e2) s2 rfl⟩
/-! ### a, b, c = x, y, z -/
def sPar3 (i j l : Nat) (tl : TAA) : TSA := fun D nv S => tl nv S fun as S1 => match as with
  | [x, y, z] => D.nx (((nv.set i (some x)).set j (some y)).set l (some z)) S1
  | _ => False
theorem avs3 {M : Msk} {S : Sto} {H : Hp} {x y z : A} {vs : List V} (a : AVs M S H [x, y, z] vs) : ∃ v w u, vs = [v, w, u] ∧ AV M S H x v ∧ AV M S H y w ∧ AV M S H z u := by
  obtain ⟨v, r, e1, e2, e3⟩ := a
  obtain ⟨w, u, rfl, e4, e5⟩ := avs2 e3
  exact ⟨v, w, u, e1, e2, e4, e5⟩
theorem sa_par3 (i j l : Nat) {x y z : Str} {a b c : Expr} {tl : TAA} {px py pz pt : Pos} {kt k2 pt2} (hN : X.N.Nodup) (ha : LA X [a, b, c] tl) (hc : X.calm = true := by rfl) (hi : X.N[i]? = some x := by rfl) (hj : X.N[j]? = some y := by rfl) (hl : X.N[l]? = some z := by rfl) (hij : i ≠ j := by decide) (hil : i ≠ l := by decide) (hjl : j ≠ l := by decide)
    (hx : X.env.scope.names.lookup x = some .local := by rfl) (hy : X.env.scope.names.lookup y = some .local := by rfl) (hz : X.env.scope.names.lookup z = some .local := by rfl)
    (hw : swappedStores [.Tuple [.Name x px, .Name y py, .Name z pz] kt pt] (.Tuple [a, b, c] k2 pt2) X.env = pure (some [x, y, z]) := by rfl)
    (hs : swapsWithSole [.Tuple [.Name x px, .Name y py, .Name z pz] kt pt] (.Tuple [a, b, c] k2 pt2) pos.line X.env = pure false := by rfl) :
    SA X (.Assign [.Tuple [.Name x px, .Name y py, .Name z pz] kt pt] (.Tuple [a, b, c] k2 pt2) pos) (sPar3 i j l tl) := by
  obtain ⟨t1, p1, k1⟩ := ha
  refine ⟨_, ps_par3 hc hN hi hj hl hij hil hjl hx hy hz p1 hw hs, fun M σ H nv S D D' r h lk => ?_⟩
  refine k1 M σ H nv S _ _ r h fun as S' vs H' n q e s av => ?_
  try dsimp only at q
  split at q
  · obtain ⟨u, v, w, rfl, a1, a2, a3⟩ := avs3 av
    exact ⟨u, v, w, rfl, lk.nx _ S' _ H' q e ((((r.up e s).set i a1).set j a2).set l a3)⟩
  · exact q.elim
/-! ### lists of the store made data -/
mutual
def unfA (f : Addr → Option (List A)) : A → A
  | .ref p => match f p with
    | some ys => .lst ys
    | none => .ref p
  | .lst xs => .lst (unfAs f xs)
  | .tup xs => .tup (unfAs f xs)
  | .non => .non
  | .bl b => .bl b
  | .int i => .int i
  | .str x => .str x
  | .ty n => .ty n
def unfAs (f : Addr → Option (List A)) : List A → List A
  | [] => []
  | x :: xs => unfA f x :: unfAs f xs
end
/-- what f tells are lists of the store -/
def CellsOf (S : Sto) (f : Addr → Option (List A)) : Prop := ∀ p ys, f p = some ys → S p = some (.lst ys)
mutual
theorem AV.unf {M : Msk} {S S' : Sto} {H : Hp} {f : Addr → Option (List A)} (sh : SH M S H) (hf : CellsOf S f) (hk : Kx M S H M S' H) (hn : ∀ p ys, f p = some ys → S' p = none) : ∀ (a : A) (v : V), AV M S H a v → AV M S' H (unfA f a) v
  | .non, _, h => by unfold unfA; exact h
  | .bl _, _, h => by unfold unfA; exact h
  | .int _, _, h => by unfold unfA; exact h
  | .str _, _, h => by unfold unfA; exact h
  | .ty _, _, h => by unfold unfA; exact h
  | .ref p, v, h => by
    unfold unfA
    cases e : f p with
    | none => exact h
    | some ys =>
      obtain ⟨m, vs, c1, c2⟩ := sh.cell p _ (hf p ys e)
      exact ⟨p, vs, h, hn p ys e, m, c1, AVs.mono hk _ _ c2⟩
  | .lst xs, v, ⟨p, vs, h1, h2, h3, h4, h5⟩ => by
    unfold unfA
    exact ⟨p, vs, h1, (hk.keep p _ h4 h2 h3).2.1, h3, h4, AVs.unf sh hf hk hn xs vs h5⟩
  | .tup xs, v, ⟨p, vs, h1, h2, h3, h4, h5⟩ => by
    unfold unfA
    exact ⟨p, vs, h1, (hk.keep p _ h4 h2 h3).2.1, h3, h4, AVs.unf sh hf hk hn xs vs h5⟩
theorem AVs.unf {M : Msk} {S S' : Sto} {H : Hp} {f : Addr → Option (List A)} (sh : SH M S H) (hf : CellsOf S f) (hk : Kx M S H M S' H) (hn : ∀ p ys, f p = some ys → S' p = none) : ∀ (as : List A) (vs : List V), AVs M S H as vs → AVs M S' H (unfAs f as) vs
  | [], _, h => by unfold unfAs; exact h
  | x :: xs, _, ⟨v, r, h1, h2, h3⟩ => by
    unfold unfAs
    exact ⟨v, r, h1, AV.unf sh hf hk hn x v h2, AVs.unf sh hf hk hn xs r h3⟩
end
/-- the frame's names: each as it was, gone, or told as data -/
def meltN (f : Addr → Option (List A)) : Nv → Nv → Prop
  | [], nv' => nv' = []
  | o :: r, nv' => ∃ o' r', nv' = o' :: r' ∧ (o' = o ∨ o' = none ∨ o' = o.map (unfA f)) ∧ meltN f r r'
/-- the store: each cell as it was, gone, or told as data; the lists of f are gone -/
def meltS (f : Addr → Option (List A)) (S S' : Sto) : Prop := CellsOf S f ∧ (∀ p ys, f p = some ys → S' p = none) ∧ ∀ b c, S' b = some c → S b = some c ∨ ∃ xs, S b = some (.lst xs) ∧ c = .lst (unfAs f xs)
theorem meltS.kx {f : Addr → Option (List A)} {M : Msk} {S S' : Sto} {H : Hp} (h : meltS f S S') : Kx M S H M S' H := by
  refine ⟨fun b o hb sb mb => ⟨hb, ?_, mb⟩⟩
  cases e : S' b with
  | none => rfl
  | some c =>
    rcases h.2.2 b c e with z | ⟨xs, z, _⟩
    · rw [sb] at z
      cases z
    · rw [sb] at z
      cases z
theorem meltS.ext {f : Addr → Option (List A)} {S S' : Sto} {H : Hp} (h : meltS f S S') : Ext S H S' H := ⟨fun b o hb sb => ⟨hb, ((h.kx (M := fun _ => False) (H := H)).keep b o hb sb (fun z => z)).2.1⟩⟩
theorem meltS.sh {f : Addr → Option (List A)} {M : Msk} {S S' : Sto} {H : Hp} (h : meltS f S S') (s : SH M S H) : SH M S' H := by
  refine ⟨fun b c e => ?_, s.mask⟩
  rcases h.2.2 b c e with z | ⟨xs, z, rfl⟩
  · exact ⟨(s.cell b c z).1, (s.cell b c z).2.up h.kx fun _ q => q⟩
  · obtain ⟨m, vs, c1, c2⟩ := s.cell b _ z
    exact ⟨m, vs, c1, AVs.unf s h.1 h.kx h.2.1 _ _ c2⟩
theorem melt_at {f : Addr → Option (List A)} : ∀ {nv nv' : Nv}, meltN f nv nv' → nv'.length = nv.length ∧ ∀ (i : Nat) (a : A), nv'[i]? = some (some a) → ∃ b, nv[i]? = some (some b) ∧ (a = b ∨ a = unfA f b)
  | [], _, h => by
    rw [show _ = _ from h]
    exact ⟨rfl, fun i a e => by simp at e⟩
  | o :: r, _, ⟨o', r', e, h1, h2⟩ => by
    subst e
    obtain ⟨g1, g2⟩ := melt_at h2
    refine ⟨by rw [List.length_cons, List.length_cons, g1], fun i a q => ?_⟩
    cases i with
    | succ i => exact g2 i a q
    | zero =>
      simp only [List.getElem?_cons_zero, Option.some.injEq] at q ⊢
      subst q
      rcases h1 with h | h | h
      · exact ⟨a, h.symm, .inl rfl⟩
      · cases h
      · cases e : o with
        | none => rw [e] at h; cases h
        | some b =>
          rw [e] at h
          exact ⟨b, rfl, .inr (Option.some.inj h)⟩
theorem meltR {f : Addr → Option (List A)} {M : Msk} {S S' : Sto} {H : Hp} {σ : L2.St} {nv nv' : Nv} (h : meltS f S S') (n : meltN f nv nv') (r : Rl M S H σ nv) : Rl M S' H σ nv' := by
  obtain ⟨n1, n2⟩ := melt_at n
  refine ⟨h.sh r.sh, by rw [n1]; exact r.len, fun i a e => ?_⟩
  obtain ⟨b, hb, hab⟩ := n2 i a e
  obtain ⟨v, h1, h2⟩ := r.at_ i b hb
  refine ⟨v, h1, ?_⟩
  rcases hab with rfl | rfl
  · exact AV.mono h.kx _ _ h2
  · exact AV.unf r.sh h.1 h.kx h.2.1 _ _ h2
/-- at the end of a suite: some lists of the store are told as data from here -/
def sMelt : TSA := fun D nv S => ∃ f nv' S', meltS f S S' ∧ meltN f nv nv' ∧ D.nx nv' S'
theorem sb_melt : SB X [] sMelt := ⟨_, pss_nil, fun M σ H nv S D D' r ⟨f, nv', S', h, n, q⟩ l => l.nx nv' S' σ H q h.ext (meltR h n r)⟩
end
/-! ### a def that is asked of data alone, handed lists of the store -/
def flatT : A → Prop
  | .non => True
  | .bl _ => True
  | .int _ => True
  | .str _ => True
  | _ => False
theorem flatT.av {M : Msk} {S S' : Sto} {H : Hp} {v : V} : ∀ {a : A}, flatT a → AV M S H a v → AV M S' H a v
  | .non, _, h => h
  | .bl _, _, h => h
  | .int _, _, h => h
  | .str _, _, h => h
def resSp (F : List A → (A → Prop) → Prop) : SpA := fun as S P => ∃ f, CellsOf S f ∧ F (unfAs f as) fun a => flatT a ∧ P a S
theorem Got.res {P : Program} {w : World} {K : Frag} {mg : Str → Option Value} {base : Heap} {x : Str} {k : Nat} {ps : List Str} {st : Stmt} {f : Addr} {F : List A → (A → Prop) → Prop} (G : Got P w K mg base k ps x st f fun as S P => F as fun a => P a S)
    (hF : ∀ as (p q : A → Prop), (∀ a, p a → q a) → F as p → F as q) : Got P w K mg base k ps x st f (resSp F) := by
  obtain ⟨fd, F1, r⟩ := G.ex
  refine ⟨⟨fd, F1.imp fun vs H Q E ⟨M, S, as, P', s, a, ⟨g, hg, q⟩, wk⟩ => ?_, r⟩, G.mg⟩
  have kx : Kx M S H M (fun _ => none) H := ⟨fun b o hb _ mb => ⟨hb, rfl, mb⟩⟩
  refine ⟨M, fun _ => none, unfAs g as, fun z S2 => S2 = (fun _ => none) ∧ flatT z ∧ P' z S, ⟨fun b c e => (nomatch e), s.mask⟩, AVs.unf s hg kx (fun _ _ _ => rfl) _ _ a, hF _ _ _ (fun z hz => ⟨rfl, hz⟩) q, fun z S2 v H2 ⟨e0, fl, pz⟩ e s2 av => ?_⟩
  subst e0
  have hk : ∀ b o, H b = some o → H2 b = some o := fun b o hb => (e.keep b o hb rfl).1
  have ext : Ext S H S H2 := ⟨fun b o hb sb => ⟨hk b o hb, sb⟩⟩
  exact wk z S v H2 pz ext ⟨fun b c hb => ⟨(s.cell b c hb).1, (s.cell b c hb).2.up ext.kx fun o ho => hk b o ho⟩, s2.mask⟩ (flatT.av fl av)
end Lay

namespace Lay
open PySem L2 PyProof.Rows
/-! ### rows of places 0 .. n - 1, each once -/
structure Dl (n : Nat) (ds : List Int) : Prop where
  len : ds.length = n
  bd : ∀ x ∈ ds, 0 ≤ x ∧ x < (n : Int)
  nd : ds.Nodup
theorem nd_le : ∀ (n : Nat) (l : List Int), l.Nodup → (∀ x ∈ l, 0 ≤ x ∧ x < (n : Int)) → l.length ≤ n
  | 0, l, _, h => by
    cases l with
    | nil => exact Nat.le_refl _
    | cons x l =>
      have := h x List.mem_cons_self
      omega
  | n + 1, l, nd, h => by
    have h2 := nd_le n (l.erase (n : Int)) (nd.erase _) fun x hx => by
      have q := (nd.mem_erase_iff).mp hx
      have := h x q.2
      omega
    by_cases m : (n : Int) ∈ l
    · rw [List.length_erase_of_mem m] at h2
      omega
    · rw [List.erase_of_not_mem m] at h2
      omega
theorem perm_sum {l m : List Int} (p : l.Perm m) : l.sum = m.sum := by
  induction p with
  | nil => rfl
  | cons x _ ih => rw [List.sum_cons, List.sum_cons, ih]
  | swap x y l =>
    simp only [List.sum_cons]
    omega
  | trans _ _ h1 h2 => rw [h1, h2]
/-- a sum over all places, of what is 0 outside l -/
theorem sum_sub (D : Int → Int) : ∀ (n : Nat) (l : List Int), l.Nodup → (∀ x ∈ l, 0 ≤ x ∧ x < (n : Int)) → (∀ i : Nat, i < n → (i : Int) ∉ l → D i = 0) → ((List.range n).map fun i : Nat => D i).sum = (l.map D).sum
  | 0, l, _, h, _ => by
    cases l with
    | nil => rfl
    | cons x l =>
      have := h x List.mem_cons_self
      omega
  | n + 1, l, nd, h, z => by
    have ih := sum_sub D n (l.erase (n : Int)) (nd.erase _) (fun x hx => by
      have q := (nd.mem_erase_iff).mp hx
      have := h x q.2
      omega) fun i hi hn => z i (by omega) fun m => hn ((nd.mem_erase_iff).mpr ⟨by omega, m⟩)
    rw [List.range_succ, List.map_append, List.sum_append, ih]
    by_cases m : (n : Int) ∈ l
    · have p := (List.perm_cons_erase m).map D
      rw [perm_sum p]
      simp
      omega
    · rw [List.erase_of_not_mem m]
      have := z n (by omega) m
      simp [this]
theorem sum_dif (f g : Nat → Int) : ∀ n : Nat, ((List.range n).map f).sum - ((List.range n).map g).sum = ((List.range n).map fun i => f i - g i).sum
  | 0 => rfl
  | n + 1 => by
    have := sum_dif f g n
    simp only [List.range_succ, List.map_append, List.sum_append, List.map_cons, List.map_nil, List.sum_cons, List.sum_nil]
    omega
/-- the one ahead of a place, in a ring -/
def prv (rs : List Int) (i : Nat) : Int := rs.getD (if i = 0 then rs.length - 1 else i - 1) 0
def prvs (rs : List Int) : List Int := (List.range rs.length).map (prv rs)
theorem prvs_snoc (l : List Int) (z : Int) : prvs (l ++ [z]) = z :: l := by
  apply List.ext_getElem
  · simp [prvs]
  · intro i h1 h2
    simp only [prvs, List.getElem_map, List.getElem_range]
    unfold prv
    cases i with
    | zero => simp
    | succ i =>
      have hi : i < l.length := by simpa using h2
      simp [List.getElem?_append, hi]
theorem prvs_perm (rs : List Int) : (prvs rs).Perm rs := by
  rcases List.eq_nil_or_concat rs with rfl | ⟨l, z, rfl⟩
  · exact .refl _
  · rw [List.concat_eq_append, prvs_snoc]
    exact (List.perm_append_comm (l₁ := [z]) (l₂ := l))
theorem prv_mem {rs : List Int} {i : Nat} (h : i < rs.length) : prv rs i ∈ rs := (prvs_perm rs).subset (List.mem_map_of_mem (List.mem_range.mpr h))
theorem atI_prv {rs : List Int} {i : Nat} (h : i < rs.length) : atI (rs.map A.int) ((i : Int) - 1) = some (.int (prv rs i)) := by
  cases i with
  | zero =>
    rcases List.eq_nil_or_concat rs with rfl | ⟨l, z, rfl⟩
    · cases h
    · rw [List.concat_eq_append, List.map_append]
      show atI (l.map A.int ++ [A.int z]) (-1) = _
      rw [atI_last]
      unfold prv
      simp
  | succ i =>
    have e : ((i + 1 : Nat) : Int) - 1 = (i : Nat) := by omega
    rw [e]
    refine atI_nat' ?_
    have hi : i < rs.length := by omega
    unfold prv
    simp [hi]
theorem atI_int {rs : List Int} {i : Int} (h0 : 0 ≤ i) (h : i < (rs.length : Int)) : atI (rs.map A.int) i = some (.int (rs.getD i.toNat 0)) := by
  refine atI_pos h0 ?_
  have hi : i.toNat < rs.length := by omega
  simp [hi]
theorem atI_lastI {rs : List Int} (h : rs ≠ []) : atI (rs.map A.int) (-1) = some (.int (rs.getLast h)) := by
  rcases List.eq_nil_or_concat rs with rfl | ⟨l, z, rfl⟩
  · exact absurd rfl h
  · have e : (l.concat z).getLast h = z := by simp
    rw [e, List.concat_eq_append, List.map_append]
    exact atI_last
theorem getD_mem {ds : List Int} {i : Nat} (h : i < ds.length) : ds.getD i 0 ∈ ds := by
  rw [List.getD_eq_getElem?_getD, List.getElem?_eq_getElem h]
  exact List.getElem_mem h
/-! ### many places set -/
def setAll (l : List (Nat × Int)) (f : List Int) : List Int := l.foldl (fun f p => f.set p.1 p.2) f
theorem setAll_len : ∀ (l : List (Nat × Int)) (f : List Int), (setAll l f).length = f.length
  | [], f => rfl
  | p :: l, f => by
    show (setAll l (f.set p.1 p.2)).length = _
    rw [setAll_len, List.length_set]
theorem setAll_out : ∀ (l : List (Nat × Int)) (f : List Int) (i : Nat), i ∉ l.map (·.1) → (setAll l f).getD i 0 = f.getD i 0
  | [], f, i, _ => rfl
  | p :: l, f, i, h => by
    show (setAll l (f.set p.1 p.2)).getD i 0 = _
    rw [List.map_cons, List.mem_cons, not_or] at h
    rw [setAll_out l _ i h.2, List.getD_eq_getElem?_getD, List.getD_eq_getElem?_getD, List.getElem?_set_ne (Ne.symm h.1)]
theorem setAll_in : ∀ (l : List (Nat × Int)) (f : List Int) (p : Nat × Int), (l.map (·.1)).Nodup → p ∈ l → p.1 < f.length → (setAll l f).getD p.1 0 = p.2
  | [], f, p, _, h, _ => by cases h
  | q :: l, f, p, nd, h, hl => by
    show (setAll l (f.set q.1 q.2)).getD p.1 0 = _
    rw [List.map_cons, List.nodup_cons] at nd
    rcases List.mem_cons.mp h with rfl | h
    · rw [setAll_out l _ _ nd.1, List.getD_eq_getElem?_getD, List.getElem?_set_self hl]
      rfl
    · exact setAll_in l _ p nd.2 h (by rw [List.length_set]; exact hl)
/-! ### a ring hands its rooms on -/
def handL (ds rs : List Int) (k : Nat) : List (Nat × Int) := (List.range k).map fun i => ((prv rs i).toNat, ds.getD (rs.getD i 0).toNat 0)
def handA (ds rs : List Int) : List Int := setAll (handL ds rs rs.length) ds
theorem handL_succ (ds rs : List Int) (k : Nat) : setAll (handL ds rs (k + 1)) ds = (setAll (handL ds rs k) ds).set (prv rs k).toNat (ds.getD (rs.getD k 0).toNat 0) := by
  unfold setAll handL
  rw [List.range_succ, List.map_append, List.foldl_append]
  rfl
theorem handL_fst (ds rs : List Int) : (handL ds rs rs.length).map (·.1) = (prvs rs).map Int.toNat := by
  unfold handL prvs
  rw [List.map_map, List.map_map]
  rfl
structure Rg (n : Nat) (rs : List Int) : Prop where
  nd : rs.Nodup
  bd : ∀ x ∈ rs, 0 ≤ x ∧ x < (n : Int)
theorem Rg.fst {n : Nat} {rs : List Int} (h : Rg n rs) (ds : List Int) : ((handL ds rs rs.length).map (·.1)).Nodup := by
  rw [handL_fst]
  have h2 : (prvs rs).Nodup := (prvs_perm rs).nodup_iff.mpr h.nd
  rw [List.nodup_iff_pairwise_ne, List.pairwise_map]
  refine List.Pairwise.imp_of_mem (fun {a b} ha hb hab => ?_) (List.nodup_iff_pairwise_ne.mp h2)
  have := h.bd a ((prvs_perm rs).subset ha)
  have := h.bd b ((prvs_perm rs).subset hb)
  omega
theorem hand_in {n : Nat} {ds rs : List Int} (h : Rg n rs) (hl : ds.length = n) {i : Nat} (hi : i < rs.length) : (handA ds rs).getD (prv rs i).toNat 0 = ds.getD (rs.getD i 0).toNat 0 := by
  have hb := h.bd _ (prv_mem hi)
  exact setAll_in _ _ ((prv rs i).toNat, ds.getD (rs.getD i 0).toNat 0) (h.fst ds) (List.mem_map.mpr ⟨i, List.mem_range.mpr hi, rfl⟩) (by show (prv rs i).toNat < _; omega)
theorem hand_out {n : Nat} {ds rs : List Int} (h : Rg n rs) {i : Nat} (hi : (i : Int) ∉ rs) : (handA ds rs).getD i 0 = ds.getD i 0 := by
  refine setAll_out _ _ i ?_
  rw [handL_fst]
  intro m
  obtain ⟨x, hx, e⟩ := List.mem_map.mp m
  have hx2 := (prvs_perm rs).subset hx
  have := h.bd x hx2
  have e2 : (i : Int) = x := by omega
  exact hi (e2 ▸ hx2)
theorem hand_len (ds rs : List Int) : (handA ds rs).length = ds.length := setAll_len _ _
/-! ### what a ring gains -/
def stepA (ww : Nat → Int → Int) (ds : List Int) (p q : Int) : Int := ww p.toNat (ds.getD q.toNat 0) - ww p.toNat (ds.getD p.toNat 0)
def ringGain (ww : Nat → Int → Int) (ds rs : List Int) : Int := ((List.range rs.length).map fun i => stepA ww ds (prv rs i) (rs.getD i 0)).sum
def sumW (ww : Nat → Int → Int) (ds : List Int) : Int := ((List.range ds.length).map fun i => ww i (ds.getD i 0)).sum
theorem hand_gain (ww : Nat → Int → Int) {n : Nat} {ds rs : List Int} (h : Rg n rs) (hl : ds.length = n) : sumW ww (handA ds rs) - sumW ww ds = ringGain ww ds rs := by
  unfold sumW
  rw [hand_len, sum_dif]
  have e := sum_sub (fun x => ww x.toNat ((handA ds rs).getD x.toNat 0) - ww x.toNat (ds.getD x.toNat 0)) ds.length (prvs rs) ((prvs_perm rs).nodup_iff.mpr h.nd) (fun x hx => by rw [hl]; exact h.bd x ((prvs_perm rs).subset hx)) fun i hi hn => by
    have : (i : Int) ∉ rs := fun m => hn ((prvs_perm rs).symm.subset m)
    show ww _ _ - ww _ _ = 0
    rw [Int.toNat_natCast, hand_out h this]
    omega
  simp only [Int.toNat_natCast] at e
  rw [e]
  unfold prvs ringGain
  rw [List.map_map]
  congr 1
  refine List.map_congr_left fun i hi => ?_
  have hi2 := List.mem_range.mp hi
  show ww _ _ - ww _ _ = stepA _ _ _ _
  unfold stepA
  rw [hand_in h hl hi2]
/-! ### from each place to the next -/
section
variable {n : Nat} {ds os : List Int}
theorem least {P : Nat → Prop} [DecidablePred P] : ∀ k : Nat, P k → ∃ m, m ≤ k ∧ P m ∧ ∀ j, j < m → ¬ P j
  | 0, h => ⟨0, Nat.le_refl _, h, fun j hj => absurd hj (Nat.not_lt_zero _)⟩
  | k + 1, h => by
    by_cases c : ∃ j, j ≤ k ∧ P j
    · obtain ⟨j, hj, pj⟩ := c
      have : ∀ i, i ≤ k → P i → ∃ m, m ≤ i ∧ P m ∧ ∀ j, j < m → ¬ P j := fun i hi pi => by
        obtain ⟨d, hd⟩ : ∃ d, k - i = d := ⟨_, rfl⟩
        exact least i pi
      obtain ⟨m, h1, h2, h3⟩ := this j hj pj
      exact ⟨m, by omega, h2, h3⟩
    · exact ⟨k + 1, Nat.le_refl _, h, fun j hj pj => c ⟨j, by omega, pj⟩⟩
theorem Dl.sur (d : Dl n ds) {v : Int} (h0 : 0 ≤ v) (h1 : v < (n : Int)) : v ∈ ds := by
  by_cases m : v ∈ ds
  · exact m
  · have := nd_le n (v :: ds) (List.nodup_cons.mpr ⟨m, d.nd⟩) fun x hx => by
      rcases List.mem_cons.mp hx with rfl | hx
      · exact ⟨h0, h1⟩
      · exact d.bd x hx
    rw [List.length_cons, d.len] at this
    omega
theorem Dl.at_ (d : Dl n ds) {i : Int} (h0 : 0 ≤ i) (h1 : i < (n : Int)) : 0 ≤ ds.getD i.toNat 0 ∧ ds.getD i.toNat 0 < (n : Int) := d.bd _ (getD_mem (by have := d.len; omega))
theorem Dl.inj (d : Dl n ds) {i j : Int} (hi : 0 ≤ i ∧ i < (n : Int)) (hj : 0 ≤ j ∧ j < (n : Int)) (e : ds.getD i.toNat 0 = ds.getD j.toNat 0) : i = j := by
  have li : i.toNat < ds.length := by have := d.len; omega
  have lj : j.toNat < ds.length := by have := d.len; omega
  rw [List.getD_eq_getElem?_getD, List.getD_eq_getElem?_getD, List.getElem?_eq_getElem li, List.getElem?_eq_getElem lj] at e
  have e2 : ds[i.toNat] = ds[j.toNat] := e
  have nd := List.pairwise_iff_getElem.mp (List.nodup_iff_pairwise_ne.mp d.nd)
  rcases Nat.lt_trichotomy i.toNat j.toNat with h | h | h
  · exact absurd e2 (nd _ _ li lj h)
  · omega
  · exact absurd e2.symm (nd _ _ lj li h)
/-- whose room one has in the other deal -/
def nx (ds os : List Int) (p : Int) : Int := (ds.idxOf (os.getD p.toNat 0) : Nat)
theorem nx_bd (d : Dl n ds) (o : Dl n os) {p : Int} (h : 0 ≤ p ∧ p < (n : Int)) : 0 ≤ nx ds os p ∧ nx ds os p < (n : Int) := by
  have b := o.at_ h.1 h.2
  have := List.idxOf_lt_length_iff.mpr (d.sur b.1 b.2)
  unfold nx
  have := d.len
  omega
theorem nx_at (d : Dl n ds) (o : Dl n os) {p : Int} (h : 0 ≤ p ∧ p < (n : Int)) : ds.getD (nx ds os p).toNat 0 = os.getD p.toNat 0 := by
  have b := o.at_ h.1 h.2
  have l := List.idxOf_lt_length_iff.mpr (d.sur b.1 b.2)
  unfold nx
  rw [Int.toNat_natCast, List.getD_eq_getElem?_getD, List.getElem?_eq_getElem l, Option.getD_some, List.getElem_idxOf]
theorem nx_inj (d : Dl n ds) (o : Dl n os) {p q : Int} (hp : 0 ≤ p ∧ p < (n : Int)) (hq : 0 ≤ q ∧ q < (n : Int)) (e : nx ds os p = nx ds os q) : p = q := by
  have h1 := nx_at d o hp
  rw [e, nx_at d o hq] at h1
  exact o.inj hp hq h1.symm
def it (ds os : List Int) (p : Int) : Nat → Int
  | 0 => p
  | j + 1 => nx ds os (it ds os p j)
theorem it_bd (d : Dl n ds) (o : Dl n os) {p : Int} (h : 0 ≤ p ∧ p < (n : Int)) : ∀ j, 0 ≤ it ds os p j ∧ it ds os p j < (n : Int)
  | 0 => h
  | j + 1 => nx_bd d o (it_bd d o h j)
theorem it_back (d : Dl n ds) (o : Dl n os) {p : Int} (h : 0 ≤ p ∧ p < (n : Int)) : ∀ a c, it ds os p (a + c) = it ds os p a → it ds os p c = p
  | 0, c, e => by rw [Nat.zero_add] at e; exact e
  | a + 1, c, e => by
    have e2 : a + 1 + c = (a + c) + 1 := by omega
    rw [e2] at e
    exact it_back d o h a c (nx_inj d o (it_bd d o h _) (it_bd d o h _) e)
theorem it_add (ds os : List Int) (p : Int) (a : Nat) : ∀ c, it ds os p (a + c) = it ds os (it ds os p a) c
  | 0 => rfl
  | c + 1 => by
    show nx ds os (it ds os p (a + c)) = nx ds os _
    rw [it_add ds os p a c]
theorem period (d : Dl n ds) (o : Dl n os) {p : Int} (h : 0 ≤ p ∧ p < (n : Int)) : ∃ k, 1 ≤ k ∧ k ≤ n ∧ it ds os p k = p ∧ ∀ j, 1 ≤ j → j < k → it ds os p j ≠ p := by
  have ex : ∃ c, 1 ≤ c ∧ c ≤ n ∧ it ds os p c = p := by
    apply Classical.byContradiction
    intro no
    have nd : ((List.range (n + 1)).map (it ds os p)).Nodup := by
      rw [List.nodup_iff_pairwise_ne, List.pairwise_map]
      refine List.Pairwise.imp_of_mem (fun {a b} ha hb hab => ?_) (List.pairwise_lt_range (n := n + 1))
      intro e
      have hb2 := List.mem_range.mp hb
      refine no ⟨b - a, by omega, by omega, it_back d o h a (b - a) ?_⟩
      rw [show a + (b - a) = b by omega]
      exact e.symm
    have := nd_le n _ nd fun x hx => by
      obtain ⟨j, _, rfl⟩ := List.mem_map.mp hx
      exact it_bd d o h j
    rw [List.length_map, List.length_range] at this
    omega
  obtain ⟨c, c1, c2, c3⟩ := ex
  obtain ⟨m, h1, h2, h3⟩ := least (P := fun k => 1 ≤ k ∧ it ds os p k = p) c ⟨c1, c3⟩
  exact ⟨m, h2.1, by omega, h2.2, fun j j1 j2 e => h3 j j2 ⟨j1, e⟩⟩
open Classical in
noncomputable def per (n : Nat) (ds os : List Int) (p : Int) : Nat := if h : ∃ k, 1 ≤ k ∧ k ≤ n ∧ it ds os p k = p ∧ ∀ j, 1 ≤ j → j < k → it ds os p j ≠ p then Classical.choose h else 1
theorem per_ok (d : Dl n ds) (o : Dl n os) {p : Int} (h : 0 ≤ p ∧ p < (n : Int)) : 1 ≤ per n ds os p ∧ per n ds os p ≤ n ∧ it ds os p (per n ds os p) = p ∧ ∀ j, 1 ≤ j → j < per n ds os p → it ds os p j ≠ p := by
  have ex := period d o h
  unfold per
  rw [dif_pos ex]
  exact Classical.choose_spec ex
def orb (ds os : List Int) (p : Int) (k : Nat) : List Int := (List.range k).map (it ds os p)
theorem orb_succ (ds os : List Int) (p : Int) (k : Nat) : orb ds os p (k + 1) = orb ds os p k ++ [it ds os p k] := by
  unfold orb
  rw [List.range_succ, List.map_append]
  rfl
theorem orb_len (ds os : List Int) (p : Int) (k : Nat) : (orb ds os p k).length = k := by unfold orb; rw [List.length_map, List.length_range]
noncomputable def rg (n : Nat) (ds os : List Int) (p : Int) : List Int := orb ds os p (per n ds os p)
theorem rg_nd (d : Dl n ds) (o : Dl n os) {p : Int} (h : 0 ≤ p ∧ p < (n : Int)) : (rg n ds os p).Nodup := by
  obtain ⟨_, _, _, h4⟩ := per_ok d o h
  unfold rg orb
  rw [List.nodup_iff_pairwise_ne, List.pairwise_map]
  refine List.Pairwise.imp_of_mem (fun {a b} ha hb hab => ?_) (List.pairwise_lt_range (n := per n ds os p))
  intro e
  have hb2 := List.mem_range.mp hb
  refine h4 (b - a) (by omega) (by omega) (it_back d o h a (b - a) ?_)
  rw [show a + (b - a) = b by omega]
  exact e.symm
theorem rg_rg (d : Dl n ds) (o : Dl n os) {p : Int} (h : 0 ≤ p ∧ p < (n : Int)) : Rg n (rg n ds os p) := ⟨rg_nd d o h, fun x hx => by
  obtain ⟨j, _, rfl⟩ := List.mem_map.mp hx
  exact it_bd d o h j⟩
theorem rg_len (n : Nat) (ds os : List Int) (p : Int) : (rg n ds os p).length = per n ds os p := orb_len _ _ _ _
theorem rg_getD (n : Nat) (ds os : List Int) (p : Int) {i : Nat} (hi : i < per n ds os p) : (rg n ds os p).getD i 0 = it ds os p i := by
  unfold rg orb
  simp [hi]
/-- in such a ring each leads to the next -/
def Lead (ds os rs : List Int) : Prop := ∀ i, i < rs.length → rs.getD i 0 = nx ds os (prv rs i)
theorem rg_lead (d : Dl n ds) (o : Dl n os) {p : Int} (h : 0 ≤ p ∧ p < (n : Int)) : Lead ds os (rg n ds os p) := by
  obtain ⟨h1, _, h3, _⟩ := per_ok d o h
  intro i hi
  rw [rg_len] at hi
  unfold prv
  rw [rg_getD n ds os p hi, rg_len]
  cases i with
  | zero =>
    rw [if_pos rfl, rg_getD n ds os p (by omega)]
    show p = it ds os p (per n ds os p - 1 + 1)
    rw [show per n ds os p - 1 + 1 = per n ds os p by omega, h3]
  | succ i =>
    rw [if_neg (by omega), rg_getD n ds os p (by omega)]
    rfl
theorem rg_closed (d : Dl n ds) (o : Dl n os) {p : Int} (h : 0 ≤ p ∧ p < (n : Int)) {x : Int} (hx : x ∈ rg n ds os p) : nx ds os x ∈ rg n ds os p := by
  obtain ⟨h1, _, h3, _⟩ := per_ok d o h
  obtain ⟨j, hj, rfl⟩ := List.mem_map.mp hx
  have hj2 := List.mem_range.mp hj
  show it ds os p (j + 1) ∈ _
  by_cases c : j + 1 < per n ds os p
  · exact List.mem_map.mpr ⟨j + 1, List.mem_range.mpr c, rfl⟩
  · rw [show j + 1 = per n ds os p by omega, h3]
    exact List.mem_map.mpr ⟨0, List.mem_range.mpr (by omega), rfl⟩
theorem rg_self (d : Dl n ds) (o : Dl n os) {p : Int} (h : 0 ≤ p ∧ p < (n : Int)) : p ∈ rg n ds os p := List.mem_map.mpr ⟨0, List.mem_range.mpr (per_ok d o h).1, rfl⟩
/-- nothing of a new ring stands in what is closed -/
theorem rg_apart (d : Dl n ds) (o : Dl n os) {p : Int} (h : 0 ≤ p ∧ p < (n : Int)) {s : List Int} (hs : ∀ x ∈ s, nx ds os x ∈ s) (hp : p ∉ s) : ∀ x ∈ rg n ds os p, x ∉ s := by
  obtain ⟨_, _, h3, _⟩ := per_ok d o h
  intro x hx m
  obtain ⟨j, hj, rfl⟩ := List.mem_map.mp hx
  have hj2 := List.mem_range.mp hj
  have go : ∀ c, it ds os p (j + c) ∈ s := fun c => by
    induction c with
    | zero => exact m
    | succ c ih => exact hs _ ih
  have := go (per n ds os p - j)
  rw [show j + (per n ds os p - j) = per n ds os p by omega, h3] at this
  exact hp this
/-! ### all rings -/
open Classical in
noncomputable def outer (n : Nat) (ds os : List Int) (st : List (List Int) × List Int) (p : Int) : List (List Int) × List Int :=
  if p ∈ st.2 then st else (if 1 < per n ds os p then st.1 ++ [rg n ds os p] else st.1, st.2 ++ rg n ds os p)
noncomputable def rgs (n : Nat) (ds os : List Int) : Nat → List (List Int) × List Int
  | 0 => ([], [])
  | i + 1 => outer n ds os (rgs n ds os i) (i : Nat)
structure Rgs (n : Nat) (ds os : List Int) (i : Nat) (f : List (List Int)) (s : List Int) : Prop where
  nd : s.Nodup
  bd : ∀ x ∈ s, 0 ≤ x ∧ x < (n : Int)
  cl : ∀ x ∈ s, nx ds os x ∈ s
  lo : ∀ j : Nat, j < i → (j : Int) ∈ s
  fn : f.flatten.Nodup
  fs : ∀ x ∈ f.flatten, x ∈ s
  fx : ∀ x ∈ s, x ∉ f.flatten → nx ds os x = x
  rg : ∀ r ∈ f, Rg n r ∧ Lead ds os r ∧ 2 ≤ r.length ∧ r.length ≤ n
theorem rgs_ok (d : Dl n ds) (o : Dl n os) : ∀ i, i ≤ n → Rgs n ds os i (rgs n ds os i).1 (rgs n ds os i).2
  | 0, _ => ⟨List.nodup_nil, fun x h => (absurd h List.not_mem_nil), fun x h => (absurd h List.not_mem_nil), fun j h => (absurd h (Nat.not_lt_zero _)), List.nodup_nil, fun x h => (absurd h List.not_mem_nil), fun x h => (absurd h List.not_mem_nil), fun r h => (absurd h List.not_mem_nil)⟩
  | i + 1, hi => by
    have ih := rgs_ok d o i (by omega)
    have hp : 0 ≤ ((i : Nat) : Int) ∧ ((i : Nat) : Int) < (n : Int) := by omega
    show Rgs n ds os (i + 1) (outer n ds os (rgs n ds os i) (i : Nat)).1 (outer n ds os (rgs n ds os i) (i : Nat)).2
    generalize rgs n ds os i = st at ih
    obtain ⟨f, s⟩ := st
    unfold outer
    by_cases m : ((i : Nat) : Int) ∈ s
    · rw [if_pos m]
      refine ⟨ih.nd, ih.bd, ih.cl, fun j hj => ?_, ih.fn, ih.fs, ih.fx, ih.rg⟩
      by_cases e : j = i
      · rw [e]; exact m
      · exact ih.lo j (by omega)
    · rw [if_neg m]
      have ap := rg_apart d o hp ih.cl m
      have R := rg_rg d o hp
      have L := rg_lead d o hp
      have pk := per_ok d o hp
      have nd2 : (s ++ rg n ds os (i : Nat)).Nodup := List.nodup_append.mpr ⟨ih.nd, R.nd, fun a ha b hb e => ap b hb (e ▸ ha)⟩
      have base : (∀ x ∈ s ++ rg n ds os (i : Nat), 0 ≤ x ∧ x < (n : Int)) ∧ (∀ x ∈ s ++ rg n ds os (i : Nat), nx ds os x ∈ s ++ rg n ds os (i : Nat)) ∧ ∀ j : Nat, j < i + 1 → (j : Int) ∈ s ++ rg n ds os (i : Nat) := by
        refine ⟨fun x hx => ?_, fun x hx => ?_, fun j hj => ?_⟩
        · rcases List.mem_append.mp hx with h | h
          · exact ih.bd x h
          · exact R.bd x h
        · rcases List.mem_append.mp hx with h | h
          · exact List.mem_append_left _ (ih.cl x h)
          · exact List.mem_append_right _ (rg_closed d o hp h)
        · by_cases e : j = i
          · rw [e]; exact List.mem_append_right _ (rg_self d o hp)
          · exact List.mem_append_left _ (ih.lo j (by omega))
      by_cases c : 1 < per n ds os (i : Nat)
      · rw [if_pos c]
        refine ⟨nd2, base.1, base.2.1, base.2.2, ?_, fun x hx => ?_, fun x hx hn => ?_, fun r hr => ?_⟩
        · rw [List.flatten_append]
          refine List.nodup_append.mpr ⟨ih.fn, by simpa using R.nd, fun a ha b hb e => ?_⟩
          have hb2 : b ∈ rg n ds os (i : Nat) := by simpa using hb
          exact ap b hb2 (e ▸ ih.fs a ha)
        · rw [List.flatten_append] at hx
          rcases List.mem_append.mp hx with h | h
          · exact List.mem_append_left _ (ih.fs x h)
          · exact List.mem_append_right _ (by simpa using h)
        · rw [List.flatten_append, List.mem_append, not_or] at hn
          rcases List.mem_append.mp hx with h | h
          · exact ih.fx x h hn.1
          · exact absurd h (by simpa using hn.2)
        · rcases List.mem_append.mp hr with h | h
          · exact ih.rg r h
          · rw [List.mem_singleton.mp h, rg_len]
            exact ⟨R, L, by omega, by omega⟩
      · rw [if_neg c]
        refine ⟨nd2, base.1, base.2.1, base.2.2, ih.fn, fun x hx => List.mem_append_left _ (ih.fs x hx), fun x hx hn => ?_, ih.rg⟩
        rcases List.mem_append.mp hx with h | h
        · exact ih.fx x h hn
        · obtain ⟨j, hj, rfl⟩ := List.mem_map.mp h
          have hj2 := List.mem_range.mp hj
          have p1 : per n ds os (i : Nat) = 1 := by omega
          obtain rfl : j = 0 := by omega
          show it ds os (i : Nat) 1 = _
          rw [← p1, pk.2.2.1]
          rfl
/-- handing on along all rings gives the other deal -/
theorem hand_all (d : Dl n ds) (o : Dl n os) : ∀ (f : List (List Int)) (now : List Int), now.length = n → f.flatten.Nodup → (∀ r ∈ f, Rg n r ∧ Lead ds os r) → (∀ x ∈ f.flatten, now.getD x.toNat 0 = ds.getD x.toNat 0) →
    (f.foldl handA now).length = n ∧ (∀ x ∈ f.flatten, (f.foldl handA now).getD x.toNat 0 = os.getD x.toNat 0) ∧ ∀ i : Nat, (i : Int) ∉ f.flatten → (f.foldl handA now).getD i 0 = now.getD i 0
  | [], now, hl, _, _, _ => ⟨hl, fun x h => (absurd h List.not_mem_nil), fun _ _ => rfl⟩
  | r :: f, now, hl, nd, hr, ha => by
    rw [List.flatten_cons] at nd ha
    obtain ⟨n1, n2, n3⟩ := List.nodup_append.mp nd
    obtain ⟨R, L⟩ := hr r List.mem_cons_self
    have out : ∀ x ∈ f.flatten, (handA now r).getD x.toNat 0 = now.getD x.toNat 0 := fun x hx => by
      have hb : 0 ≤ x := by
        obtain ⟨r', h1, h2⟩ := List.mem_flatten.mp hx
        exact ((hr r' (List.mem_cons_of_mem _ h1)).1.bd x h2).1
      refine hand_out R ?_
      rw [Int.toNat_of_nonneg hb]
      exact fun m => n3 x m x hx rfl
    obtain ⟨g1, g2, g3⟩ := hand_all d o f (handA now r) (by rw [hand_len, hl]) n2 (fun r' h => hr r' (List.mem_cons_of_mem _ h)) fun x hx => by rw [out x hx]; exact ha x (List.mem_append_right _ hx)
    refine ⟨g1, fun x hx => ?_, fun i hi => ?_⟩
    · rw [List.flatten_cons] at hx
      rcases List.mem_append.mp hx with h | h
      · obtain ⟨i, hi, e⟩ : ∃ i, i < r.length ∧ prv r i = x := by
          have := (prvs_perm r).symm.subset h
          obtain ⟨i, hi, e⟩ := List.mem_map.mp this
          exact ⟨i, List.mem_range.mp hi, e⟩
        have hb := R.bd x h
        have q := g3 x.toNat (by rw [Int.toNat_of_nonneg hb.1]; exact fun m => n3 x h x m rfl)
        show (f.foldl handA (handA now r)).getD x.toNat 0 = _
        rw [q, ← e, hand_in R hl hi]
        have hm : r.getD i 0 ∈ r := getD_mem hi
        rw [ha _ (List.mem_append_left _ hm), L i hi, nx_at d o (by rw [e]; exact hb)]
      · exact g2 x h
    · rw [List.flatten_cons, List.mem_append, not_or] at hi
      show (f.foldl handA (handA now r)).getD i 0 = _
      rw [g3 i hi.2, hand_out R hi.1]
theorem rgs_hand (d : Dl n ds) (o : Dl n os) : (rgs n ds os n).1.foldl handA ds = os := by
  have R := rgs_ok d o n (Nat.le_refl _)
  obtain ⟨g1, g2, g3⟩ := hand_all d o _ ds d.len R.fn (fun r hr => ⟨(R.rg r hr).1, (R.rg r hr).2.1⟩) fun _ _ => rfl
  apply List.ext_getElem
  · rw [g1, o.len]
  · intro i h1 h2
    have hi : i < n := by rw [← o.len]; exact h2
    have key : ((rgs n ds os n).1.foldl handA ds).getD i 0 = os.getD i 0 := by
      by_cases m : (i : Int) ∈ (rgs n ds os n).1.flatten
      · have := g2 _ m
        rw [Int.toNat_natCast] at this
        exact this
      · rw [g3 i m]
        have e := R.fx _ (R.lo i hi) m
        have q := nx_at d o (p := (i : Int)) (by omega)
        rw [e, Int.toNat_natCast] at q
        exact q
    rw [List.getD_eq_getElem?_getD, List.getD_eq_getElem?_getD, List.getElem?_eq_getElem h1, List.getElem?_eq_getElem h2] at key
    exact key
theorem gain_lead (ww : Nat → Int → Int) (d : Dl n ds) (o : Dl n os) {r : List Int} (R : Rg n r) (L : Lead ds os r) : ringGain ww ds r = (r.map fun x => ww x.toNat (os.getD x.toNat 0) - ww x.toNat (ds.getD x.toNat 0)).sum := by
  rw [← perm_sum ((prvs_perm r).map _)]
  unfold ringGain prvs
  rw [List.map_map]
  congr 1
  refine List.map_congr_left fun i hi => ?_
  have hi2 := List.mem_range.mp hi
  show _ = ww _ _ - ww _ _
  unfold stepA
  rw [L i hi2, nx_at d o (R.bd _ (prv_mem hi2))]
theorem gains_flat (ww : Nat → Int → Int) (E : Int → Int) : ∀ f : List (List Int), (∀ r ∈ f, ringGain ww ds r = (r.map E).sum) → (f.map (ringGain ww ds)).sum = (f.flatten.map E).sum
  | [], _ => rfl
  | r :: f, h => by
    rw [List.map_cons, List.sum_cons, List.flatten_cons, List.map_append, List.sum_append, h r List.mem_cons_self, gains_flat ww E f fun r' h' => h r' (List.mem_cons_of_mem _ h')]
/-- the rings between two deals gain the difference of their sums -/
theorem rgs_gain (ww : Nat → Int → Int) (d : Dl n ds) (o : Dl n os) : ((rgs n ds os n).1.map (ringGain ww ds)).sum = sumW ww os - sumW ww ds := by
  have R := rgs_ok d o n (Nat.le_refl _)
  rw [gains_flat ww _ _ fun r hr => gain_lead ww d o (R.rg r hr).1 (R.rg r hr).2.1]
  have e := sum_sub (fun x => ww x.toNat (os.getD x.toNat 0) - ww x.toNat (ds.getD x.toNat 0)) n _ R.fn (fun x hx => R.bd x (R.fs x hx)) fun i hi hn => by
    have e := R.fx _ (R.lo i hi) hn
    have q := nx_at d o (p := (i : Int)) (by omega)
    rw [e] at q
    show ww _ _ - ww _ _ = 0
    rw [q]
    omega
  unfold sumW
  rw [o.len, d.len, sum_dif]
  simp only [Int.toNat_natCast] at e
  rw [e]
end
/-! ### a suite told as one thing, till its names are known -/
def sWrap (t : TSA) : TSA := t
theorem sb_wrap {X : Cx} {b : List Stmt} {t : TSA} (h : SB X b t) : SB X b (sWrap t) := h
theorem sWrap_eq {t : TSA} : sWrap t = t := rfl
/-! ### a, b = e where a comprehension or a lambda reads a or b -/
def sAsg (te : TEA) (g : TGA) : TSA := fun D nv S => te nv S fun x S1 => g x nv S1 D.nx
theorem sa_asg {X : Cx} {tg e : Expr} {js : List Nat} {te : TEA} {g : TGA} {pos : Pos} (he : EA X e te) (hg : GA X tg js g) (hs : swapsWithSole [tg] e pos.line X.env = pure false := by rfl) (hw : swappedStores [tg] e X.env = pure none := by rfl)
    (h1 : (assignEach [tg] X.env).map (·.2) = [assign tg X.env] := by rfl) : SA X (.Assign [tg] e pos) (sAsg te g) := by
  obtain ⟨t1, p1, k1⟩ := he
  obtain ⟨t2, p2, k2⟩ := hg
  refine ⟨_, ps_asg p1 p2 hs hw h1, fun M σ H nv S D D' r h l => ?_⟩
  refine k1 M σ H nv S _ _ r h fun x S1 v H1 q e1 s1 av => ?_
  exact k2 M σ H1 nv S1 x v _ _ (r.up e1 s1) av q fun nv' S' σ' H' q2 e2 r2 _ => l.nx nv' S' σ' H' q2 (e1.trans e2) r2
end Lay

namespace Law
open PySem L2 Lay PyProof.Rows LamX NdefX
def topS (i : Nat) : Stmt := PySem.Challenge.pw_sharedrent_k08_rings_hand_rooms_on.main.body.getD i (.Pass ⟨0, 0, 0, 0⟩)
/-! ## the mathematics -/
/-- the bottom's sign goes over to the number -/
def lowC (n d : Int) : Int := if d < 0 then -(Int.gcd n d : Int) else (Int.gcd n d : Int)
def lowA (n d : Int) : A := .tup [.int (n.fdiv (lowC n d)), .int (d.fdiv (lowC n d))]
def isFrA : A → Bool
  | .tup [.int n, .int d] => decide (1 ≤ d) && decide ((Int.gcd n d : Int) = 1)
  | _ => false
theorem gcd_ne {n d : Int} (h : d ≠ 0) : (Int.gcd n d : Int) ≠ 0 := by
  have := Int.gcd_pos_of_ne_zero_right n h
  omega
theorem gcd_bd {n d : Int} {k : Nat} (h : d ≠ 0) (b : Bd k d) : Bd k (Int.gcd n d : Int) := by
  refine b.of_le ?_
  have h1 : Int.gcd n d ∣ d.natAbs := Int.gcd_dvd_natAbs_right n d
  rw [Int.natAbs_natCast]
  exact Nat.le_of_dvd (by omega) h1
theorem lowC_ne {n d : Int} (h : d ≠ 0) : lowC n d ≠ 0 := by
  have := gcd_ne (n := n) h
  unfold lowC
  split <;> omega
theorem lowC_bd {n d : Int} {k : Nat} (h : d ≠ 0) (b : Bd k d) : Bd k (lowC n d) := by
  have := gcd_bd (n := n) h b
  unfold lowC
  split
  · exact this.neg
  · exact this
theorem gcd_fmod (x y : Int) : Int.gcd y (x.fmod y) = Int.gcd x y := by
  rw [show x.fmod y = x - y * x.fdiv y by have := Int.mul_fdiv_add_fmod x y; omega]
  rw [Int.gcd_comm x y]
  rw [Int.mul_comm]
  exact Int.gcd_sub_mul_right_right y x (x.fdiv y)
theorem fmod_lt (x : Int) {y : Int} (h : y ≠ 0) : (x.fmod y).natAbs < y.natAbs := by
  rw [Int.fmod_eq_emod]
  have h1 := Int.emod_nonneg x h
  have h2 := Int.emod_lt x h
  split
  · omega
  · rename_i g
    have h3 : x % y ≠ 0 := fun z => g (.inr (Int.dvd_of_emod_eq_zero z))
    have h4 : y < 0 := by
      rcases Int.lt_or_le y 0 with z | z
      · exact z
      · exact absurd (.inl z) g
    omega
theorem fdiv_bd {x y : Int} {k : Nat} (h : Bd k x) : Bd (k + 1) (x.fdiv y) := by
  unfold Bd at *
  rw [Nat.pow_succ]
  have h1 : (x.fdiv y).natAbs ≤ x.natAbs + 1 := by
    rw [Int.fdiv_eq_ediv]
    have h2 := Int.natAbs_ediv_le_natAbs x y
    split <;> omega
  omega
/-! ### is_whole -/
abbrev s_is_whole : Stmt := topS 6
theorem sc_is_whole : FnScope ["value"] ["value"] (defScope s_is_whole) := ⟨rfl, rfl, rfl, by decide +kernel, rfl, by decide +kernel, by decide +kernel⟩
theorem bd_is_whole (kV doc pm : Value) (an : Option Addr) (cdv ct : Value) (us : List Value) (hl : us.length = (["value"] : List Str).length) : bindArgs (PySem.W.fnOf "is_whole" "is_whole" (defArgs s_is_whole) (defBody s_is_whole) (defScope s_is_whole) .none kV doc pm an cdv ct) ⟨us, []⟩ = pure ((["value"] : List Str).zip us) :=
  match us, hl with | [_], _ => rfl
def isWholeA : A → Bool
  | .int _ => true
  | _ => false
def sp_is_whole : SpA := fun as S P => ∃ x, as = [x] ∧ kn S x ∧ P (.bl (isWholeA x)) S
theorem got_is_whole {P : Program} {w : World} {K : PySem.W.Frag} {mg : Str → Option Value} {base : Heap} {f_is_whole : Addr} (B : Bi mg) (D : Def K mg "is_whole" s_is_whole f_is_whole) :
    Got P w K mg base (0 + 1) ["value"] "is_whole" s_is_whole f_is_whole sp_is_whole := by
  refine got_of D sc_is_whole (by rintro as S P ⟨x, rfl, _⟩; rfl) (bd_is_whole) (fun cdv A0 outer s0_ H E hr => ⟨_, (sb_one (sa_ret (ea_and (ea_callB cx_isi B.isinstance_ (la_cons (ea_var 0) (la_cons (ea_ty "int" B.int_) la_nil))) (ea_one (ea_not (ea_callB cx_isi B.isinstance_ (la_cons (ea_var 0) (la_cons (ea_ty "bool" B.bool_) la_nil)))))))), fun as S P h => ?_⟩)
  obtain ⟨x, rfl, hk, k⟩ := h
  (try simp only [startN, List.map_cons, List.map_nil, List.length_cons, List.length_nil, Nat.reduceAdd, Nat.reduceSub, Nat.zero_add, Nat.sub_self, List.replicate_succ, List.replicate_zero, List.reduceReplicate, List.cons_append, List.nil_append, List.append_nil, ↓sRet, ↓sRetN, ↓sSeq, ↓sNil, ↓sIf, ↓sSet, ↓sPar, ↓sPar3, ↓sAsg, ↓sDrop, ↓sSetL, ↓eAnd, ↓eOr, ↓eNot, ↓eIf, ↓eNeg, ↓eCall, ↓eCallK, ↓eCallV, ↓lCons, ↓lNil, ↓eVar, ↓eC, ↓eTup, ↓eLst, ↓eLstC, ↓eOp, ↓eSl, ↓oNo, ↓oPart, ↓eBits, ↓tBool, ↓tAndA, ↓tOrA, ↓tNotA, ↓List.getElem?_cons_zero, ↓List.getElem?_cons_succ, ↓List.set_cons_zero, ↓List.set_cons_succ, ↓rInt, ↓rInt0, ↓rAddA, ↓rEqA, ↓rIsA, ↓rMax2A, ↓rMin2A, ↓rIntA, ↓rAbsA, bsel_true, bsel_false, wipeN, gNm, tYesA, ↓isNon, ↓isBlOf, ↓isI, ↓isB, ↓isS, ↓isT, ↓isL, Bool.or_false, Bool.or_true, Bool.false_or, Bool.true_or, ↓wList, ↓eLc, ↓rLenA, ↓sFor, ↓sWhile, ↓wRng1, ↓wRng2, ↓wTup, ↓wEnum, ↓eChain, ↓eListR1, ↓eLenSet, ↓eRev, ↓eInR, ↓eApp, ↓ePop, ↓eValue, ↓xDrop, ↓xRet, ↓xSet, ↓xCall, ↓xCallV, ↓sRaise, ↓eCallVL, ↓eLam3, startNF, Bool.not_true, Bool.not_false, Bool.false_eq_true, ↓reduceIte, Bool.not_not])
  refine isi_int hk ?_
  cases x <;> simp only [isI, bsel_true, bsel_false] <;> first | exact k | (refine isi_bool hk ?_; exact k)
def sp_common_of : SpA := fun as S P => ∃ a b : Int, as = [.int a, .int b] ∧ P (.int (Int.gcd a b : Nat)) S
def sp_is_fraction : SpA := fun as S P => ∃ x, as = [x] ∧ nr x = true ∧ P (.bl (isFrA x)) S
/-! ### _law_hash -/
abbrev s__law_hash : Stmt := topS 28
theorem sc__law_hash : FnScope ["seed", "index", "mixed"] ["seed", "index"] (defScope s__law_hash) := ⟨rfl, rfl, rfl, by decide +kernel, rfl, by decide +kernel, by decide +kernel⟩
theorem bd__law_hash (kV doc pm : Value) (an : Option Addr) (cdv ct : Value) (us : List Value) (hl : us.length = (["seed", "index"] : List Str).length) : bindArgs (PySem.W.fnOf "_law_hash" "_law_hash" (defArgs s__law_hash) (defBody s__law_hash) (defScope s__law_hash) .none kV doc pm an cdv ct) ⟨us, []⟩ = pure ((["seed", "index"] : List Str).zip us) :=
  match us, hl with | [_, _], _ => rfl
def sp__law_hash : SpA := fun as S P => ∃ s i : Int, as = [.int s, .int i] ∧ Bd 31 s ∧ Bd 63 i ∧ ∀ r : Int, 0 ≤ r → r < 2147483647 → P (.int r) S
--len by rintro as S P ⟨a, b, rfl, _⟩; rfl
theorem got__law_hash {P : Program} {w : World} {K : PySem.W.Frag} {mg : Str → Option Value} {base : Heap} {f__law_hash : Addr} (B : Bi mg) (D : Def K mg "_law_hash" s__law_hash f__law_hash) :
    Got P w K mg base (0 + 1) ["seed", "index"] "_law_hash" s__law_hash f__law_hash sp__law_hash := by
  refine got_of D sc__law_hash (by rintro as S P ⟨a, b, rfl, _⟩; rfl) (bd__law_hash) (fun cdv A0 outer s0_ H E hr => ⟨_, (sb_cons (sa_set 2 sc__law_hash.nd (ea_op oa_mod (ea_callTy cx_int B.int_ (la_cons (ea_op oa_add (ea_op oa_add (ea_op oa_add (ea_op oa_mul (ea_var 0) ea_int) (ea_op oa_mul (ea_op oa_mul ea_int (ea_var 1)) (ea_var 1))) (ea_op oa_mul ea_int (ea_var 1))) ea_int) la_nil)) ea_int))
      (sb_cons (sa_set 2 sc__law_hash.nd (ea_op oa_mod (ea_callTy cx_int B.int_ (la_cons (ea_op oa_add (ea_op oa_add (ea_op oa_mul (ea_var 2) (ea_var 2)) (ea_op oa_mul ea_int (ea_var 1))) ea_int) la_nil)) ea_int))
      (sb_one (sa_ret (ea_op oa_mod (ea_callTy cx_int B.int_ (la_cons (ea_op oa_mul (ea_var 2) ea_int) la_nil)) ea_int))))), fun as S P h => ?_⟩)
  obtain ⟨s, i, rfl, hs, hi, k⟩ := h
  (try simp only [startN, List.map_cons, List.map_nil, List.length_cons, List.length_nil, Nat.reduceAdd, Nat.reduceSub, Nat.zero_add, Nat.sub_self, List.replicate_succ, List.replicate_zero, List.reduceReplicate, List.cons_append, List.nil_append, List.append_nil, ↓sRet, ↓sRetN, ↓sSeq, ↓sNil, ↓sIf, ↓sSet, ↓sPar, ↓sPar3, ↓sAsg, ↓sDrop, ↓sSetL, ↓eAnd, ↓eOr, ↓eNot, ↓eIf, ↓eNeg, ↓eCall, ↓eCallK, ↓eCallV, ↓lCons, ↓lNil, ↓eVar, ↓eC, ↓eTup, ↓eLst, ↓eLstC, ↓eOp, ↓eSl, ↓oNo, ↓oPart, ↓eBits, ↓tBool, ↓tAndA, ↓tOrA, ↓tNotA, ↓List.getElem?_cons_zero, ↓List.getElem?_cons_succ, ↓List.set_cons_zero, ↓List.set_cons_succ, ↓rInt, ↓rInt0, ↓rAddA, ↓rEqA, ↓rIsA, ↓rMax2A, ↓rMin2A, ↓rIntA, ↓rAbsA, bsel_true, bsel_false, wipeN, gNm, tYesA, ↓isNon, ↓isBlOf, ↓isI, ↓isB, ↓isS, ↓isT, ↓isL, Bool.or_false, Bool.or_true, Bool.false_or, Bool.true_or, ↓wList, ↓eLc, ↓rLenA, ↓sFor, ↓sWhile, ↓wRng1, ↓wRng2, ↓wTup, ↓wEnum, ↓eChain, ↓eListR1, ↓eLenSet, ↓eRev, ↓eInR, ↓eApp, ↓ePop, ↓eValue, ↓xDrop, ↓xRet, ↓xSet, ↓xCall, ↓xCallV, ↓sRaise, ↓eCallVL, ↓eLam3, startNF, Bool.not_true, Bool.not_false, Bool.false_eq_true, ↓reduceIte, Bool.not_not])
  have b1 : Bd 24 (1140671 : Int) := .small 24 (m := 1140671) (by decide)
  have b2 : Bd 25 (27644437 : Int) := .small 25 (m := 27644437) (by decide)
  have b3 : Bd 8 (131 : Int) := .small 8 (m := 131) (by decide)
  have b4 : Bd 16 (62089 : Int) := .small 16 (m := 62089) (by decide)
  have b5 : Bd 16 (48271 : Int) := .small 16 (m := 48271) (by decide)
  refine ⟨hs.mulW b1, b2.mulW hi, (b2.mul hi).mulW hi, b3.mulW hi, by decide, ?_⟩
  have m1 : ∀ z : Int, Bd 31 (z % 2147483629) := fun z => .small 31 (m := 2147483629) (by omega)
  have m2 : ∀ z : Int, Bd 31 (z % 2147483587) := fun z => .small 31 (m := 2147483587) (by omega)
  refine ⟨(m1 _).mulW (m1 _), b4.mulW hi, by decide, (m2 _).mulW b5, by decide, ?_⟩
  exact k _ (by omega) (by omega)
/-- a generator: what is left of the seed, the seed, how often it was asked (n at most) -/
def GenL (n : Nat) (l : List A) : Prop := ∃ a s i : Int, l = [.int a, .int s, .int i] ∧ 0 ≤ a ∧ Bd 2200 a ∧ 0 ≤ s ∧ s < 2147483647 ∧ 0 ≤ i ∧ i ≤ (n : Int)
theorem GenL.mono {n m : Nat} {l : List A} (h : GenL n l) (e : n ≤ m) : GenL m l := by
  obtain ⟨a, s, i, h1, h2, h3, h4, h5, h6, h7⟩ := h
  exact ⟨a, s, i, h1, h2, h3, h4, h5, h6, by omega⟩
/-! ### _law_random -/
abbrev s__law_random : Stmt := topS 29
theorem sc__law_random : FnScope ["generator", "bound", "drawn", "turn"] ["generator", "bound"] (defScope s__law_random) := ⟨rfl, rfl, rfl, by decide +kernel, rfl, by decide +kernel, by decide +kernel⟩
theorem bd__law_random (kV doc pm : Value) (an : Option Addr) (cdv ct : Value) (us : List Value) (hl : us.length = (["generator", "bound"] : List Str).length) : bindArgs (PySem.W.fnOf "_law_random" "_law_random" (defArgs s__law_random) (defBody s__law_random) (defScope s__law_random) .none kV doc pm an cdv ct) ⟨us, []⟩ = pure ((["generator", "bound"] : List Str).zip us) :=
  match us, hl with | [_, _], _ => rfl
def sp__law_random : SpA := fun as S P => ∃ (g : Addr) (b : Int) (n : Nat) (l : List A), as = [.ref g, .int b] ∧ S g = some (.lst l) ∧ GenL n l ∧ 0 < b ∧ Bd 1000 b ∧ n ≤ 1000000000000 ∧ ∀ (r : Int) (l' : List A), 0 ≤ r → r < b → GenL (n + 100) l' → P (.int r) (sup S g (.lst l'))
--len by rintro as S P ⟨a, b, _, _, rfl, _⟩; rfl
theorem got__law_random {P : Program} {w : World} {K : PySem.W.Frag} {mg : Str → Option Value} {base : Heap} {f__law_hash f__law_random : Addr} (B : Bi mg) (D : Def K mg "_law_random" s__law_random f__law_random) (G__law_hash : Got P w K mg base 1 ["seed", "index"] "_law_hash" s__law_hash f__law_hash sp__law_hash) :
    Got P w K mg base (1 + 1) ["generator", "bound"] "_law_random" s__law_random f__law_random sp__law_random := by
  refine got_of D sc__law_random (by rintro as S P ⟨a, b, _, _, rfl, _⟩; rfl) (bd__law_random) (fun cdv A0 outer s0_ H E hr => ⟨_, (sb_cons (sa_if (tt_cmp oa_gt (ea_ix (ea_var 0) ea_int) ea_int) (sb_cons (sa_set 2 sc__law_random.nd (ea_op oa_mod (ea_callTy cx_int B.int_ (la_cons (ea_ix (ea_var 0) ea_int) la_nil)) (ea_var 1)))
      (sb_cons (sa_setL (ea_op oa_fdiv (ea_ix (ea_var 0) ea_int) (ea_var 1)) (ea_var 0) ea_int)
      (sb_one (sa_ret (ea_var 2))))) sb_nil)
      (sb_cons (sa_set 2 sc__law_random.nd ea_int)
      (sb_cons (sa_for PassesOwn.never (ia_rng1 B.range_ (la_cons (ea_op oa_add ea_int (ea_op oa_fdiv (ea_bits (ea_var 1)) ea_int)) la_nil)) (ga_name 3 sc__law_random.nd) (sb_cons (sa_setL (ea_op oa_add (ea_ix (ea_var 0) ea_int) ea_int) (ea_var 0) ea_int)
      (sb_one (sa_set 2 sc__law_random.nd (ea_op oa_add (ea_op oa_mul (ea_var 2) ea_int) (ea_call G__law_hash (hr.mono (by omega)) (la_cons (ea_ix (ea_var 0) ea_int) (la_cons (ea_ix (ea_var 0) ea_int) la_nil))))))))
      (sb_one (sa_ret (ea_op oa_mod (ea_callTy cx_int B.int_ (la_cons (ea_var 2) la_nil)) (ea_var 1))))))), fun as S P h => ?_⟩)
  obtain ⟨g, b, n, l, rfl, hg, ⟨a, s, i, rfl, a0, ab, s0, s1, i0, i1⟩, b0, bb, hn, k⟩ := h
  (try simp only [startN, List.map_cons, List.map_nil, List.length_cons, List.length_nil, Nat.reduceAdd, Nat.reduceSub, Nat.zero_add, Nat.sub_self, List.replicate_succ, List.replicate_zero, List.reduceReplicate, List.cons_append, List.nil_append, List.append_nil, ↓sRet, ↓sRetN, ↓sSeq, ↓sNil, ↓sIf, ↓sSet, ↓sPar, ↓sPar3, ↓sAsg, ↓sDrop, ↓sSetL, ↓eAnd, ↓eOr, ↓eNot, ↓eIf, ↓eNeg, ↓eCall, ↓eCallK, ↓eCallV, ↓lCons, ↓lNil, ↓eVar, ↓eC, ↓eTup, ↓eLst, ↓eLstC, ↓eOp, ↓eSl, ↓oNo, ↓oPart, ↓eBits, ↓tBool, ↓tAndA, ↓tOrA, ↓tNotA, ↓List.getElem?_cons_zero, ↓List.getElem?_cons_succ, ↓List.set_cons_zero, ↓List.set_cons_succ, ↓rInt, ↓rInt0, ↓rAddA, ↓rEqA, ↓rIsA, ↓rMax2A, ↓rMin2A, ↓rIntA, ↓rAbsA, bsel_true, bsel_false, wipeN, gNm, tYesA, ↓isNon, ↓isBlOf, ↓isI, ↓isB, ↓isS, ↓isT, ↓isL, Bool.or_false, Bool.or_true, Bool.false_or, Bool.true_or, ↓wList, ↓eLc, ↓rLenA, ↓sFor, ↓sWhile, ↓wRng1, ↓wRng2, ↓wTup, ↓wEnum, ↓eChain, ↓eListR1, ↓eLenSet, ↓eRev, ↓eInR, ↓eApp, ↓ePop, ↓eValue, ↓xDrop, ↓xRet, ↓xSet, ↓xCall, ↓xCallV, ↓sRaise, ↓eCallVL, ↓eLam3, startNF, Bool.not_true, Bool.not_false, Bool.false_eq_true, ↓reduceIte, Bool.not_not])
  refine ⟨_, _, lstr_ref hg, rfl, ?_⟩
  (try simp only [startN, List.map_cons, List.map_nil, List.length_cons, List.length_nil, Nat.reduceAdd, Nat.reduceSub, Nat.zero_add, Nat.sub_self, List.replicate_succ, List.replicate_zero, List.reduceReplicate, List.cons_append, List.nil_append, List.append_nil, ↓sRet, ↓sRetN, ↓sSeq, ↓sNil, ↓sIf, ↓sSet, ↓sPar, ↓sPar3, ↓sAsg, ↓sDrop, ↓sSetL, ↓eAnd, ↓eOr, ↓eNot, ↓eIf, ↓eNeg, ↓eCall, ↓eCallK, ↓eCallV, ↓lCons, ↓lNil, ↓eVar, ↓eC, ↓eTup, ↓eLst, ↓eLstC, ↓eOp, ↓eSl, ↓oNo, ↓oPart, ↓eBits, ↓tBool, ↓tAndA, ↓tOrA, ↓tNotA, ↓List.getElem?_cons_zero, ↓List.getElem?_cons_succ, ↓List.set_cons_zero, ↓List.set_cons_succ, ↓rInt, ↓rInt0, ↓rAddA, ↓rEqA, ↓rIsA, ↓rMax2A, ↓rMin2A, ↓rIntA, ↓rAbsA, bsel_true, bsel_false, wipeN, gNm, tYesA, ↓isNon, ↓isBlOf, ↓isI, ↓isB, ↓isS, ↓isT, ↓isL, Bool.or_false, Bool.or_true, Bool.false_or, Bool.true_or, ↓wList, ↓eLc, ↓rLenA, ↓sFor, ↓sWhile, ↓wRng1, ↓wRng2, ↓wTup, ↓wEnum, ↓eChain, ↓eListR1, ↓eLenSet, ↓eRev, ↓eInR, ↓eApp, ↓ePop, ↓eValue, ↓xDrop, ↓xRet, ↓xSet, ↓xCall, ↓xCallV, ↓sRaise, ↓eCallVL, ↓eLam3, startNF, Bool.not_true, Bool.not_false, Bool.false_eq_true, ↓reduceIte, Bool.not_not])
  refine bsel_i (fun h => ?_) fun h => ?_
  · refine ⟨_, _, lstr_ref hg, rfl, ?_⟩
    (try simp only [startN, List.map_cons, List.map_nil, List.length_cons, List.length_nil, Nat.reduceAdd, Nat.reduceSub, Nat.zero_add, Nat.sub_self, List.replicate_succ, List.replicate_zero, List.reduceReplicate, List.cons_append, List.nil_append, List.append_nil, ↓sRet, ↓sRetN, ↓sSeq, ↓sNil, ↓sIf, ↓sSet, ↓sPar, ↓sPar3, ↓sAsg, ↓sDrop, ↓sSetL, ↓eAnd, ↓eOr, ↓eNot, ↓eIf, ↓eNeg, ↓eCall, ↓eCallK, ↓eCallV, ↓lCons, ↓lNil, ↓eVar, ↓eC, ↓eTup, ↓eLst, ↓eLstC, ↓eOp, ↓eSl, ↓oNo, ↓oPart, ↓eBits, ↓tBool, ↓tAndA, ↓tOrA, ↓tNotA, ↓List.getElem?_cons_zero, ↓List.getElem?_cons_succ, ↓List.set_cons_zero, ↓List.set_cons_succ, ↓rInt, ↓rInt0, ↓rAddA, ↓rEqA, ↓rIsA, ↓rMax2A, ↓rMin2A, ↓rIntA, ↓rAbsA, bsel_true, bsel_false, wipeN, gNm, tYesA, ↓isNon, ↓isBlOf, ↓isI, ↓isB, ↓isS, ↓isT, ↓isL, Bool.or_false, Bool.or_true, Bool.false_or, Bool.true_or, ↓wList, ↓eLc, ↓rLenA, ↓sFor, ↓sWhile, ↓wRng1, ↓wRng2, ↓wTup, ↓wEnum, ↓eChain, ↓eListR1, ↓eLenSet, ↓eRev, ↓eInR, ↓eApp, ↓ePop, ↓eValue, ↓xDrop, ↓xRet, ↓xSet, ↓xCall, ↓xCallV, ↓sRaise, ↓eCallVL, ↓eLam3, startNF, Bool.not_true, Bool.not_false, Bool.false_eq_true, ↓reduceIte, Bool.not_not])
    refine ⟨b0, _, _, lstr_ref hg, rfl, ?_⟩
    (try simp only [startN, List.map_cons, List.map_nil, List.length_cons, List.length_nil, Nat.reduceAdd, Nat.reduceSub, Nat.zero_add, Nat.sub_self, List.replicate_succ, List.replicate_zero, List.reduceReplicate, List.cons_append, List.nil_append, List.append_nil, ↓sRet, ↓sRetN, ↓sSeq, ↓sNil, ↓sIf, ↓sSet, ↓sPar, ↓sPar3, ↓sAsg, ↓sDrop, ↓sSetL, ↓eAnd, ↓eOr, ↓eNot, ↓eIf, ↓eNeg, ↓eCall, ↓eCallK, ↓eCallV, ↓lCons, ↓lNil, ↓eVar, ↓eC, ↓eTup, ↓eLst, ↓eLstC, ↓eOp, ↓eSl, ↓oNo, ↓oPart, ↓eBits, ↓tBool, ↓tAndA, ↓tOrA, ↓tNotA, ↓List.getElem?_cons_zero, ↓List.getElem?_cons_succ, ↓List.set_cons_zero, ↓List.set_cons_succ, ↓rInt, ↓rInt0, ↓rAddA, ↓rEqA, ↓rIsA, ↓rMax2A, ↓rMin2A, ↓rIntA, ↓rAbsA, bsel_true, bsel_false, wipeN, gNm, tYesA, ↓isNon, ↓isBlOf, ↓isI, ↓isB, ↓isS, ↓isT, ↓isL, Bool.or_false, Bool.or_true, Bool.false_or, Bool.true_or, ↓wList, ↓eLc, ↓rLenA, ↓sFor, ↓sWhile, ↓wRng1, ↓wRng2, ↓wTup, ↓wEnum, ↓eChain, ↓eListR1, ↓eLenSet, ↓eRev, ↓eInR, ↓eApp, ↓ePop, ↓eValue, ↓xDrop, ↓xRet, ↓xSet, ↓xCall, ↓xCallV, ↓sRaise, ↓eCallVL, ↓eLam3, startNF, Bool.not_true, Bool.not_false, Bool.false_eq_true, ↓reduceIte, Bool.not_not])
    refine ⟨bb.divW b0, _, 0, hg, rfl, ?_⟩
    (try simp only [startN, List.map_cons, List.map_nil, List.length_cons, List.length_nil, Nat.reduceAdd, Nat.reduceSub, Nat.zero_add, Nat.sub_self, List.replicate_succ, List.replicate_zero, List.reduceReplicate, List.cons_append, List.nil_append, List.append_nil, ↓sRet, ↓sRetN, ↓sSeq, ↓sNil, ↓sIf, ↓sSet, ↓sPar, ↓sPar3, ↓sAsg, ↓sDrop, ↓sSetL, ↓eAnd, ↓eOr, ↓eNot, ↓eIf, ↓eNeg, ↓eCall, ↓eCallK, ↓eCallV, ↓lCons, ↓lNil, ↓eVar, ↓eC, ↓eTup, ↓eLst, ↓eLstC, ↓eOp, ↓eSl, ↓oNo, ↓oPart, ↓eBits, ↓tBool, ↓tAndA, ↓tOrA, ↓tNotA, ↓List.getElem?_cons_zero, ↓List.getElem?_cons_succ, ↓List.set_cons_zero, ↓List.set_cons_succ, ↓rInt, ↓rInt0, ↓rAddA, ↓rEqA, ↓rIsA, ↓rMax2A, ↓rMin2A, ↓rIntA, ↓rAbsA, bsel_true, bsel_false, wipeN, gNm, tYesA, ↓isNon, ↓isBlOf, ↓isI, ↓isB, ↓isS, ↓isT, ↓isL, Bool.or_false, Bool.or_true, Bool.false_or, Bool.true_or, ↓wList, ↓eLc, ↓rLenA, ↓sFor, ↓sWhile, ↓wRng1, ↓wRng2, ↓wTup, ↓wEnum, ↓eChain, ↓eListR1, ↓eLenSet, ↓eRev, ↓eInR, ↓eApp, ↓ePop, ↓eValue, ↓xDrop, ↓xRet, ↓xSet, ↓xCall, ↓xCallV, ↓sRaise, ↓eCallVL, ↓eLam3, startNF, Bool.not_true, Bool.not_false, Bool.false_eq_true, ↓reduceIte, Bool.not_not])
    refine k _ _ (Int.emod_nonneg _ (by omega)) (Int.emod_lt_of_pos _ b0) ⟨a / b, s, i, rfl, Int.ediv_nonneg a0 (by omega), ab.of_le ?_, s0, s1, i0, by omega⟩
    have h1 := Int.ediv_nonneg a0 (show 0 ≤ b by omega)
    have h2 := Int.ediv_le_self b a0
    omega
  · have hbits : Builtin.Int.intBits b ≤ 1000 := PyProof.Rows.intBits_le bb
    have ht : (0 : Int) ≤ 1 + ((Builtin.Int.intBits b : Nat) : Int) / 30 ∧ 1 + ((Builtin.Int.intBits b : Nat) : Int) / 30 ≤ 34 := by omega
    refine ⟨⟨by omega, by decide⟩, ⟨by omega, by omega⟩, fun t nv S' => ∃ (d j : Int) (v : Option A), nv = [some (.ref g), some (.int b), some (.int d), v] ∧ S' = sup S g (.lst [.int a, .int s, .int j]) ∧ 0 ≤ j ∧ j ≤ (n : Int) + t ∧ Bd (32 * t + 32) d, ⟨0, i, none, rfl, (sup_id hg).symm, i0, by omega, .small _ (m := 0) (by decide) (Nat.two_pow_pos _)⟩, fun _ _ _ _ _ => trivial, ?_, ?_⟩
    · rintro t x nv S' hx ⟨d, j, v, rfl, rfl, j0, j1, bd⟩
      obtain ⟨ht1, rfl⟩ := rngA_at hx
      have ht2 : t < 34 := by omega
      (try simp only [startN, List.map_cons, List.map_nil, List.length_cons, List.length_nil, Nat.reduceAdd, Nat.reduceSub, Nat.zero_add, Nat.sub_self, List.replicate_succ, List.replicate_zero, List.reduceReplicate, List.cons_append, List.nil_append, List.append_nil, ↓sRet, ↓sRetN, ↓sSeq, ↓sNil, ↓sIf, ↓sSet, ↓sPar, ↓sPar3, ↓sAsg, ↓sDrop, ↓sSetL, ↓eAnd, ↓eOr, ↓eNot, ↓eIf, ↓eNeg, ↓eCall, ↓eCallK, ↓eCallV, ↓lCons, ↓lNil, ↓eVar, ↓eC, ↓eTup, ↓eLst, ↓eLstC, ↓eOp, ↓eSl, ↓oNo, ↓oPart, ↓eBits, ↓tBool, ↓tAndA, ↓tOrA, ↓tNotA, ↓List.getElem?_cons_zero, ↓List.getElem?_cons_succ, ↓List.set_cons_zero, ↓List.set_cons_succ, ↓rInt, ↓rInt0, ↓rAddA, ↓rEqA, ↓rIsA, ↓rMax2A, ↓rMin2A, ↓rIntA, ↓rAbsA, bsel_true, bsel_false, wipeN, gNm, tYesA, ↓isNon, ↓isBlOf, ↓isI, ↓isB, ↓isS, ↓isT, ↓isL, Bool.or_false, Bool.or_true, Bool.false_or, Bool.true_or, ↓wList, ↓eLc, ↓rLenA, ↓sFor, ↓sWhile, ↓wRng1, ↓wRng2, ↓wTup, ↓wEnum, ↓eChain, ↓eListR1, ↓eLenSet, ↓eRev, ↓eInR, ↓eApp, ↓ePop, ↓eValue, ↓xDrop, ↓xRet, ↓xSet, ↓xCall, ↓xCallV, ↓sRaise, ↓eCallVL, ↓eLam3, startNF, Bool.not_true, Bool.not_false, Bool.false_eq_true, ↓reduceIte, Bool.not_not])
      refine ⟨_, _, lstr_ref sup_same, rfl, ?_⟩
      (try simp only [startN, List.map_cons, List.map_nil, List.length_cons, List.length_nil, Nat.reduceAdd, Nat.reduceSub, Nat.zero_add, Nat.sub_self, List.replicate_succ, List.replicate_zero, List.reduceReplicate, List.cons_append, List.nil_append, List.append_nil, ↓sRet, ↓sRetN, ↓sSeq, ↓sNil, ↓sIf, ↓sSet, ↓sPar, ↓sPar3, ↓sAsg, ↓sDrop, ↓sSetL, ↓eAnd, ↓eOr, ↓eNot, ↓eIf, ↓eNeg, ↓eCall, ↓eCallK, ↓eCallV, ↓lCons, ↓lNil, ↓eVar, ↓eC, ↓eTup, ↓eLst, ↓eLstC, ↓eOp, ↓eSl, ↓oNo, ↓oPart, ↓eBits, ↓tBool, ↓tAndA, ↓tOrA, ↓tNotA, ↓List.getElem?_cons_zero, ↓List.getElem?_cons_succ, ↓List.set_cons_zero, ↓List.set_cons_succ, ↓rInt, ↓rInt0, ↓rAddA, ↓rEqA, ↓rIsA, ↓rMax2A, ↓rMin2A, ↓rIntA, ↓rAbsA, bsel_true, bsel_false, wipeN, gNm, tYesA, ↓isNon, ↓isBlOf, ↓isI, ↓isB, ↓isS, ↓isT, ↓isL, Bool.or_false, Bool.or_true, Bool.false_or, Bool.true_or, ↓wList, ↓eLc, ↓rLenA, ↓sFor, ↓sWhile, ↓wRng1, ↓wRng2, ↓wTup, ↓wEnum, ↓eChain, ↓eListR1, ↓eLenSet, ↓eRev, ↓eInR, ↓eApp, ↓ePop, ↓eValue, ↓xDrop, ↓xRet, ↓xSet, ↓xCall, ↓xCallV, ↓sRaise, ↓eCallVL, ↓eLam3, startNF, Bool.not_true, Bool.not_false, Bool.false_eq_true, ↓reduceIte, Bool.not_not])
      refine ⟨_, 2, sup_same, rfl, ?_⟩
      (try simp only [startN, List.map_cons, List.map_nil, List.length_cons, List.length_nil, Nat.reduceAdd, Nat.reduceSub, Nat.zero_add, Nat.sub_self, List.replicate_succ, List.replicate_zero, List.reduceReplicate, List.cons_append, List.nil_append, List.append_nil, ↓sRet, ↓sRetN, ↓sSeq, ↓sNil, ↓sIf, ↓sSet, ↓sPar, ↓sPar3, ↓sAsg, ↓sDrop, ↓sSetL, ↓eAnd, ↓eOr, ↓eNot, ↓eIf, ↓eNeg, ↓eCall, ↓eCallK, ↓eCallV, ↓lCons, ↓lNil, ↓eVar, ↓eC, ↓eTup, ↓eLst, ↓eLstC, ↓eOp, ↓eSl, ↓oNo, ↓oPart, ↓eBits, ↓tBool, ↓tAndA, ↓tOrA, ↓tNotA, ↓List.getElem?_cons_zero, ↓List.getElem?_cons_succ, ↓List.set_cons_zero, ↓List.set_cons_succ, ↓rInt, ↓rInt0, ↓rAddA, ↓rEqA, ↓rIsA, ↓rMax2A, ↓rMin2A, ↓rIntA, ↓rAbsA, bsel_true, bsel_false, wipeN, gNm, tYesA, ↓isNon, ↓isBlOf, ↓isI, ↓isB, ↓isS, ↓isT, ↓isL, Bool.or_false, Bool.or_true, Bool.false_or, Bool.true_or, ↓wList, ↓eLc, ↓rLenA, ↓sFor, ↓sWhile, ↓wRng1, ↓wRng2, ↓wTup, ↓wEnum, ↓eChain, ↓eListR1, ↓eLenSet, ↓eRev, ↓eInR, ↓eApp, ↓ePop, ↓eValue, ↓xDrop, ↓xRet, ↓xSet, ↓xCall, ↓xCallV, ↓sRaise, ↓eCallVL, ↓eLam3, startNF, Bool.not_true, Bool.not_false, Bool.false_eq_true, ↓reduceIte, Bool.not_not])
      rw [sup_sup]
      refine ⟨bd.mulW (.small 32 (m := 2147483587) (by decide)) (by omega) (by decide) (by omega), _, _, lstr_ref sup_same, rfl, _, _, lstr_ref sup_same, rfl, s, j + 1, rfl, .small 31 (m := 2147483647) (by omega), .small 63 (m := 2000000000000) (by omega), fun r r0 r1 => ?_⟩
      (try simp only [startN, List.map_cons, List.map_nil, List.length_cons, List.length_nil, Nat.reduceAdd, Nat.reduceSub, Nat.zero_add, Nat.sub_self, List.replicate_succ, List.replicate_zero, List.reduceReplicate, List.cons_append, List.nil_append, List.append_nil, ↓sRet, ↓sRetN, ↓sSeq, ↓sNil, ↓sIf, ↓sSet, ↓sPar, ↓sPar3, ↓sAsg, ↓sDrop, ↓sSetL, ↓eAnd, ↓eOr, ↓eNot, ↓eIf, ↓eNeg, ↓eCall, ↓eCallK, ↓eCallV, ↓lCons, ↓lNil, ↓eVar, ↓eC, ↓eTup, ↓eLst, ↓eLstC, ↓eOp, ↓eSl, ↓oNo, ↓oPart, ↓eBits, ↓tBool, ↓tAndA, ↓tOrA, ↓tNotA, ↓List.getElem?_cons_zero, ↓List.getElem?_cons_succ, ↓List.set_cons_zero, ↓List.set_cons_succ, ↓rInt, ↓rInt0, ↓rAddA, ↓rEqA, ↓rIsA, ↓rMax2A, ↓rMin2A, ↓rIntA, ↓rAbsA, bsel_true, bsel_false, wipeN, gNm, tYesA, ↓isNon, ↓isBlOf, ↓isI, ↓isB, ↓isS, ↓isT, ↓isL, Bool.or_false, Bool.or_true, Bool.false_or, Bool.true_or, ↓wList, ↓eLc, ↓rLenA, ↓sFor, ↓sWhile, ↓wRng1, ↓wRng2, ↓wTup, ↓wEnum, ↓eChain, ↓eListR1, ↓eLenSet, ↓eRev, ↓eInR, ↓eApp, ↓ePop, ↓eValue, ↓xDrop, ↓xRet, ↓xSet, ↓xCall, ↓xCallV, ↓sRaise, ↓eCallVL, ↓eLam3, startNF, Bool.not_true, Bool.not_false, Bool.false_eq_true, ↓reduceIte, Bool.not_not])
      refine ⟨_, j + 1, _, rfl, rfl, by omega, by omega, ?_⟩
      have e : 32 * (t + 1) + 32 = (32 * t + 32 + 31) + 1 := by omega
      rw [e]
      refine Bd.add ?_ (Bd.le (a := 31) (.small 31 (m := 2147483647) (by omega)) (by omega))
      have := bd.mul (show Bd 31 (2147483587 : Int) from .small 31 (m := 2147483587) (by decide))
      exact this
    · rintro nv S' ⟨d, j, v, rfl, rfl, j0, j1, bd⟩
      rw [rngA_len] at j1
      (try simp only [startN, List.map_cons, List.map_nil, List.length_cons, List.length_nil, Nat.reduceAdd, Nat.reduceSub, Nat.zero_add, Nat.sub_self, List.replicate_succ, List.replicate_zero, List.reduceReplicate, List.cons_append, List.nil_append, List.append_nil, ↓sRet, ↓sRetN, ↓sSeq, ↓sNil, ↓sIf, ↓sSet, ↓sPar, ↓sPar3, ↓sAsg, ↓sDrop, ↓sSetL, ↓eAnd, ↓eOr, ↓eNot, ↓eIf, ↓eNeg, ↓eCall, ↓eCallK, ↓eCallV, ↓lCons, ↓lNil, ↓eVar, ↓eC, ↓eTup, ↓eLst, ↓eLstC, ↓eOp, ↓eSl, ↓oNo, ↓oPart, ↓eBits, ↓tBool, ↓tAndA, ↓tOrA, ↓tNotA, ↓List.getElem?_cons_zero, ↓List.getElem?_cons_succ, ↓List.set_cons_zero, ↓List.set_cons_succ, ↓rInt, ↓rInt0, ↓rAddA, ↓rEqA, ↓rIsA, ↓rMax2A, ↓rMin2A, ↓rIntA, ↓rAbsA, bsel_true, bsel_false, wipeN, gNm, tYesA, ↓isNon, ↓isBlOf, ↓isI, ↓isB, ↓isS, ↓isT, ↓isL, Bool.or_false, Bool.or_true, Bool.false_or, Bool.true_or, ↓wList, ↓eLc, ↓rLenA, ↓sFor, ↓sWhile, ↓wRng1, ↓wRng2, ↓wTup, ↓wEnum, ↓eChain, ↓eListR1, ↓eLenSet, ↓eRev, ↓eInR, ↓eApp, ↓ePop, ↓eValue, ↓xDrop, ↓xRet, ↓xSet, ↓xCall, ↓xCallV, ↓sRaise, ↓eCallVL, ↓eLam3, startNF, Bool.not_true, Bool.not_false, Bool.false_eq_true, ↓reduceIte, Bool.not_not])
      exact ⟨b0, k _ _ (Int.emod_nonneg _ (by omega)) (Int.emod_lt_of_pos _ b0) ⟨a, s, j, rfl, a0, ab, s0, s1, j0, by omega⟩⟩
/-! ## worths, deals, prices: what they are -/
def cntA : A → Bool
  | .int i => decide (0 ≤ i)
  | _ => false
def belA (b : Int) : A → Bool
  | .int i => decide (0 ≤ i) && decide (i < b)
  | _ => false
def wthA : A → Bool
  | .int i => decide (-1000000000 ≤ i) && decide (i ≤ 1000000000)
  | _ => false
def rowA (m : Nat) : A → Bool
  | .lst xs => decide (xs.length = m) && xs.all wthA
  | _ => false
/-- the first row's length, of a list of 1 to 12 whose first is a list of 1 to 12 -/
def wideA : A → Option Nat
  | .lst (.lst r :: rs) => if rs.length + 1 ≤ 12 ∧ 1 ≤ r.length ∧ r.length ≤ 12 then some r.length else none
  | _ => none
def areW (x : A) : Bool := match wideA x, x with
  | some m, .lst xs => xs.all (rowA m)
  | _, _ => false
def sqW (x : A) : Bool := match wideA x, x with
  | some m, .lst xs => xs.all (rowA m) && decide (xs.length = m)
  | _, _ => false
/-- data of tests: good of depth n -/
def sp_pure (n : Nat) (f : A → A) : SpA := fun as S P => ∃ x, as = [x] ∧ gd n x = true ∧ P (f x) S
theorem len_pure {n : Nat} {f : A → A} : ∀ as S P, sp_pure n f as S P → as.length = 1 := by
  rintro as S P ⟨x, rfl, _⟩
  rfl
/-! ### is_count -/
abbrev s_is_count : Stmt := topS 10
theorem sc_is_count : FnScope ["value"] ["value"] (defScope s_is_count) := ⟨rfl, rfl, rfl, by decide +kernel, rfl, by decide +kernel, by decide +kernel⟩
theorem bd_is_count (kV doc pm : Value) (an : Option Addr) (cdv ct : Value) (us : List Value) (hl : us.length = (["value"] : List Str).length) : bindArgs (PySem.W.fnOf "is_count" "is_count" (defArgs s_is_count) (defBody s_is_count) (defScope s_is_count) .none kV doc pm an cdv ct) ⟨us, []⟩ = pure ((["value"] : List Str).zip us) :=
  match us, hl with | [_], _ => rfl
def sp_is_count : SpA := fun as S P => ∃ x, as = [x] ∧ kn S x ∧ P (.bl (cntA x)) S
theorem got_is_count {P : Program} {w : World} {K : PySem.W.Frag} {mg : Str → Option Value} {base : Heap} {f_is_count f_is_whole : Addr} (B : Bi mg) (D : Def K mg "is_count" s_is_count f_is_count) (G_is_whole : Got P w K mg base 1 ["value"] "is_whole" s_is_whole f_is_whole sp_is_whole) :
    Got P w K mg base (1 + 1) ["value"] "is_count" s_is_count f_is_count sp_is_count := by
  refine got_of D sc_is_count (by rintro as S P ⟨x, rfl, _⟩; rfl) (bd_is_count) (fun cdv A0 outer s0_ H E hr => ⟨_, (sb_one (sa_ret (ea_and (ea_call G_is_whole (hr.mono (by omega)) (la_cons (ea_var 0) la_nil)) (ea_one (ea_cmp oa_ge (ea_var 0) ea_int))))), fun as S P h => ?_⟩)
  obtain ⟨x, rfl, hk, k⟩ := h
  (try simp only [startN, List.map_cons, List.map_nil, List.length_cons, List.length_nil, Nat.reduceAdd, Nat.reduceSub, Nat.zero_add, Nat.sub_self, List.replicate_succ, List.replicate_zero, List.reduceReplicate, List.cons_append, List.nil_append, List.append_nil, ↓sRet, ↓sRetN, ↓sSeq, ↓sNil, ↓sIf, ↓sSet, ↓sPar, ↓sPar3, ↓sAsg, ↓sDrop, ↓sSetL, ↓eAnd, ↓eOr, ↓eNot, ↓eIf, ↓eNeg, ↓eCall, ↓eCallK, ↓eCallV, ↓lCons, ↓lNil, ↓eVar, ↓eC, ↓eTup, ↓eLst, ↓eLstC, ↓eOp, ↓eSl, ↓oNo, ↓oPart, ↓eBits, ↓tBool, ↓tAndA, ↓tOrA, ↓tNotA, ↓List.getElem?_cons_zero, ↓List.getElem?_cons_succ, ↓List.set_cons_zero, ↓List.set_cons_succ, ↓rInt, ↓rInt0, ↓rAddA, ↓rEqA, ↓rIsA, ↓rMax2A, ↓rMin2A, ↓rIntA, ↓rAbsA, bsel_true, bsel_false, wipeN, gNm, tYesA, ↓isNon, ↓isBlOf, ↓isI, ↓isB, ↓isS, ↓isT, ↓isL, Bool.or_false, Bool.or_true, Bool.false_or, Bool.true_or, ↓wList, ↓eLc, ↓rLenA, ↓sFor, ↓sWhile, ↓wRng1, ↓wRng2, ↓wTup, ↓wEnum, ↓eChain, ↓eListR1, ↓eLenSet, ↓eRev, ↓eInR, ↓eApp, ↓ePop, ↓eValue, ↓xDrop, ↓xRet, ↓xSet, ↓xCall, ↓xCallV, ↓sRaise, ↓eCallVL, ↓eLam3, startNF, Bool.not_true, Bool.not_false, Bool.false_eq_true, ↓reduceIte, Bool.not_not])
  refine ⟨x, rfl, hk, ?_⟩
  cases x with
  | int i => (try simp only [startN, List.map_cons, List.map_nil, List.length_cons, List.length_nil, Nat.reduceAdd, Nat.reduceSub, Nat.zero_add, Nat.sub_self, List.replicate_succ, List.replicate_zero, List.reduceReplicate, List.cons_append, List.nil_append, List.append_nil, ↓sRet, ↓sRetN, ↓sSeq, ↓sNil, ↓sIf, ↓sSet, ↓sPar, ↓sPar3, ↓sAsg, ↓sDrop, ↓sSetL, ↓eAnd, ↓eOr, ↓eNot, ↓eIf, ↓eNeg, ↓eCall, ↓eCallK, ↓eCallV, ↓lCons, ↓lNil, ↓eVar, ↓eC, ↓eTup, ↓eLst, ↓eLstC, ↓eOp, ↓eSl, ↓oNo, ↓oPart, ↓eBits, ↓tBool, ↓tAndA, ↓tOrA, ↓tNotA, ↓List.getElem?_cons_zero, ↓List.getElem?_cons_succ, ↓List.set_cons_zero, ↓List.set_cons_succ, ↓rInt, ↓rInt0, ↓rAddA, ↓rEqA, ↓rIsA, ↓rMax2A, ↓rMin2A, ↓rIntA, ↓rAbsA, bsel_true, bsel_false, wipeN, gNm, tYesA, ↓isNon, ↓isBlOf, ↓isI, ↓isB, ↓isS, ↓isT, ↓isL, Bool.or_false, Bool.or_true, Bool.false_or, Bool.true_or, ↓wList, ↓eLc, ↓rLenA, ↓sFor, ↓sWhile, ↓wRng1, ↓wRng2, ↓wTup, ↓wEnum, ↓eChain, ↓eListR1, ↓eLenSet, ↓eRev, ↓eInR, ↓eApp, ↓ePop, ↓eValue, ↓xDrop, ↓xRet, ↓xSet, ↓xCall, ↓xCallV, ↓sRaise, ↓eCallVL, ↓eLam3, startNF, Bool.not_true, Bool.not_false, Bool.false_eq_true, ↓reduceIte, Bool.not_not]); exact k
  | _ => (try simp only [startN, List.map_cons, List.map_nil, List.length_cons, List.length_nil, Nat.reduceAdd, Nat.reduceSub, Nat.zero_add, Nat.sub_self, List.replicate_succ, List.replicate_zero, List.reduceReplicate, List.cons_append, List.nil_append, List.append_nil, ↓sRet, ↓sRetN, ↓sSeq, ↓sNil, ↓sIf, ↓sSet, ↓sPar, ↓sPar3, ↓sAsg, ↓sDrop, ↓sSetL, ↓eAnd, ↓eOr, ↓eNot, ↓eIf, ↓eNeg, ↓eCall, ↓eCallK, ↓eCallV, ↓lCons, ↓lNil, ↓eVar, ↓eC, ↓eTup, ↓eLst, ↓eLstC, ↓eOp, ↓eSl, ↓oNo, ↓oPart, ↓eBits, ↓tBool, ↓tAndA, ↓tOrA, ↓tNotA, ↓List.getElem?_cons_zero, ↓List.getElem?_cons_succ, ↓List.set_cons_zero, ↓List.set_cons_succ, ↓rInt, ↓rInt0, ↓rAddA, ↓rEqA, ↓rIsA, ↓rMax2A, ↓rMin2A, ↓rIntA, ↓rAbsA, bsel_true, bsel_false, wipeN, gNm, tYesA, ↓isNon, ↓isBlOf, ↓isI, ↓isB, ↓isS, ↓isT, ↓isL, Bool.or_false, Bool.or_true, Bool.false_or, Bool.true_or, ↓wList, ↓eLc, ↓rLenA, ↓sFor, ↓sWhile, ↓wRng1, ↓wRng2, ↓wTup, ↓wEnum, ↓eChain, ↓eListR1, ↓eLenSet, ↓eRev, ↓eInR, ↓eApp, ↓ePop, ↓eValue, ↓xDrop, ↓xRet, ↓xSet, ↓xCall, ↓xCallV, ↓sRaise, ↓eCallVL, ↓eLam3, startNF, Bool.not_true, Bool.not_false, Bool.false_eq_true, ↓reduceIte, Bool.not_not]); exact k
/-! ### is_below -/
abbrev s_is_below : Stmt := topS 11
theorem sc_is_below : FnScope ["value", "bound"] ["value", "bound"] (defScope s_is_below) := ⟨rfl, rfl, rfl, by decide +kernel, rfl, by decide +kernel, by decide +kernel⟩
theorem bd_is_below (kV doc pm : Value) (an : Option Addr) (cdv ct : Value) (us : List Value) (hl : us.length = (["value", "bound"] : List Str).length) : bindArgs (PySem.W.fnOf "is_below" "is_below" (defArgs s_is_below) (defBody s_is_below) (defScope s_is_below) .none kV doc pm an cdv ct) ⟨us, []⟩ = pure ((["value", "bound"] : List Str).zip us) :=
  match us, hl with | [_, _], _ => rfl
def sp_is_below : SpA := fun as S P => ∃ x b, as = [x, .int b] ∧ kn S x ∧ P (.bl (belA b x)) S
--len by rintro as S P ⟨x, b, rfl, _⟩; rfl
theorem got_is_below {P : Program} {w : World} {K : PySem.W.Frag} {mg : Str → Option Value} {base : Heap} {f_is_below f_is_count : Addr} (B : Bi mg) (D : Def K mg "is_below" s_is_below f_is_below) (G_is_count : Got P w K mg base 2 ["value"] "is_count" s_is_count f_is_count sp_is_count) :
    Got P w K mg base (2 + 1) ["value", "bound"] "is_below" s_is_below f_is_below sp_is_below := by
  refine got_of D sc_is_below (by rintro as S P ⟨x, b, rfl, _⟩; rfl) (bd_is_below) (fun cdv A0 outer s0_ H E hr => ⟨_, (sb_one (sa_ret (ea_and (ea_call G_is_count (hr.mono (by omega)) (la_cons (ea_var 0) la_nil)) (ea_one (ea_cmp oa_lt (ea_var 0) (ea_var 1)))))), fun as S P h => ?_⟩)
  obtain ⟨x, b, rfl, hk, k⟩ := h
  (try simp only [startN, List.map_cons, List.map_nil, List.length_cons, List.length_nil, Nat.reduceAdd, Nat.reduceSub, Nat.zero_add, Nat.sub_self, List.replicate_succ, List.replicate_zero, List.reduceReplicate, List.cons_append, List.nil_append, List.append_nil, ↓sRet, ↓sRetN, ↓sSeq, ↓sNil, ↓sIf, ↓sSet, ↓sPar, ↓sPar3, ↓sAsg, ↓sDrop, ↓sSetL, ↓eAnd, ↓eOr, ↓eNot, ↓eIf, ↓eNeg, ↓eCall, ↓eCallK, ↓eCallV, ↓lCons, ↓lNil, ↓eVar, ↓eC, ↓eTup, ↓eLst, ↓eLstC, ↓eOp, ↓eSl, ↓oNo, ↓oPart, ↓eBits, ↓tBool, ↓tAndA, ↓tOrA, ↓tNotA, ↓List.getElem?_cons_zero, ↓List.getElem?_cons_succ, ↓List.set_cons_zero, ↓List.set_cons_succ, ↓rInt, ↓rInt0, ↓rAddA, ↓rEqA, ↓rIsA, ↓rMax2A, ↓rMin2A, ↓rIntA, ↓rAbsA, bsel_true, bsel_false, wipeN, gNm, tYesA, ↓isNon, ↓isBlOf, ↓isI, ↓isB, ↓isS, ↓isT, ↓isL, Bool.or_false, Bool.or_true, Bool.false_or, Bool.true_or, ↓wList, ↓eLc, ↓rLenA, ↓sFor, ↓sWhile, ↓wRng1, ↓wRng2, ↓wTup, ↓wEnum, ↓eChain, ↓eListR1, ↓eLenSet, ↓eRev, ↓eInR, ↓eApp, ↓ePop, ↓eValue, ↓xDrop, ↓xRet, ↓xSet, ↓xCall, ↓xCallV, ↓sRaise, ↓eCallVL, ↓eLam3, startNF, Bool.not_true, Bool.not_false, Bool.false_eq_true, ↓reduceIte, Bool.not_not])
  refine ⟨x, rfl, hk, ?_⟩
  cases x with
  | int i =>
    unfold cntA
    simp only [belA] at k
    (try simp only [startN, List.map_cons, List.map_nil, List.length_cons, List.length_nil, Nat.reduceAdd, Nat.reduceSub, Nat.zero_add, Nat.sub_self, List.replicate_succ, List.replicate_zero, List.reduceReplicate, List.cons_append, List.nil_append, List.append_nil, ↓sRet, ↓sRetN, ↓sSeq, ↓sNil, ↓sIf, ↓sSet, ↓sPar, ↓sPar3, ↓sAsg, ↓sDrop, ↓sSetL, ↓eAnd, ↓eOr, ↓eNot, ↓eIf, ↓eNeg, ↓eCall, ↓eCallK, ↓eCallV, ↓lCons, ↓lNil, ↓eVar, ↓eC, ↓eTup, ↓eLst, ↓eLstC, ↓eOp, ↓eSl, ↓oNo, ↓oPart, ↓eBits, ↓tBool, ↓tAndA, ↓tOrA, ↓tNotA, ↓List.getElem?_cons_zero, ↓List.getElem?_cons_succ, ↓List.set_cons_zero, ↓List.set_cons_succ, ↓rInt, ↓rInt0, ↓rAddA, ↓rEqA, ↓rIsA, ↓rMax2A, ↓rMin2A, ↓rIntA, ↓rAbsA, bsel_true, bsel_false, wipeN, gNm, tYesA, ↓isNon, ↓isBlOf, ↓isI, ↓isB, ↓isS, ↓isT, ↓isL, Bool.or_false, Bool.or_true, Bool.false_or, Bool.true_or, ↓wList, ↓eLc, ↓rLenA, ↓sFor, ↓sWhile, ↓wRng1, ↓wRng2, ↓wTup, ↓wEnum, ↓eChain, ↓eListR1, ↓eLenSet, ↓eRev, ↓eInR, ↓eApp, ↓ePop, ↓eValue, ↓xDrop, ↓xRet, ↓xSet, ↓xCall, ↓xCallV, ↓sRaise, ↓eCallVL, ↓eLam3, startNF, Bool.not_true, Bool.not_false, Bool.false_eq_true, ↓reduceIte, Bool.not_not])
    cases e : decide (0 ≤ i) with
    | true => rw [e, Bool.true_and] at k; (try simp only [startN, List.map_cons, List.map_nil, List.length_cons, List.length_nil, Nat.reduceAdd, Nat.reduceSub, Nat.zero_add, Nat.sub_self, List.replicate_succ, List.replicate_zero, List.reduceReplicate, List.cons_append, List.nil_append, List.append_nil, ↓sRet, ↓sRetN, ↓sSeq, ↓sNil, ↓sIf, ↓sSet, ↓sPar, ↓sPar3, ↓sAsg, ↓sDrop, ↓sSetL, ↓eAnd, ↓eOr, ↓eNot, ↓eIf, ↓eNeg, ↓eCall, ↓eCallK, ↓eCallV, ↓lCons, ↓lNil, ↓eVar, ↓eC, ↓eTup, ↓eLst, ↓eLstC, ↓eOp, ↓eSl, ↓oNo, ↓oPart, ↓eBits, ↓tBool, ↓tAndA, ↓tOrA, ↓tNotA, ↓List.getElem?_cons_zero, ↓List.getElem?_cons_succ, ↓List.set_cons_zero, ↓List.set_cons_succ, ↓rInt, ↓rInt0, ↓rAddA, ↓rEqA, ↓rIsA, ↓rMax2A, ↓rMin2A, ↓rIntA, ↓rAbsA, bsel_true, bsel_false, wipeN, gNm, tYesA, ↓isNon, ↓isBlOf, ↓isI, ↓isB, ↓isS, ↓isT, ↓isL, Bool.or_false, Bool.or_true, Bool.false_or, Bool.true_or, ↓wList, ↓eLc, ↓rLenA, ↓sFor, ↓sWhile, ↓wRng1, ↓wRng2, ↓wTup, ↓wEnum, ↓eChain, ↓eListR1, ↓eLenSet, ↓eRev, ↓eInR, ↓eApp, ↓ePop, ↓eValue, ↓xDrop, ↓xRet, ↓xSet, ↓xCall, ↓xCallV, ↓sRaise, ↓eCallVL, ↓eLam3, startNF, Bool.not_true, Bool.not_false, Bool.false_eq_true, ↓reduceIte, Bool.not_not]); exact k
    | false => rw [e, Bool.false_and] at k; (try simp only [startN, List.map_cons, List.map_nil, List.length_cons, List.length_nil, Nat.reduceAdd, Nat.reduceSub, Nat.zero_add, Nat.sub_self, List.replicate_succ, List.replicate_zero, List.reduceReplicate, List.cons_append, List.nil_append, List.append_nil, ↓sRet, ↓sRetN, ↓sSeq, ↓sNil, ↓sIf, ↓sSet, ↓sPar, ↓sPar3, ↓sAsg, ↓sDrop, ↓sSetL, ↓eAnd, ↓eOr, ↓eNot, ↓eIf, ↓eNeg, ↓eCall, ↓eCallK, ↓eCallV, ↓lCons, ↓lNil, ↓eVar, ↓eC, ↓eTup, ↓eLst, ↓eLstC, ↓eOp, ↓eSl, ↓oNo, ↓oPart, ↓eBits, ↓tBool, ↓tAndA, ↓tOrA, ↓tNotA, ↓List.getElem?_cons_zero, ↓List.getElem?_cons_succ, ↓List.set_cons_zero, ↓List.set_cons_succ, ↓rInt, ↓rInt0, ↓rAddA, ↓rEqA, ↓rIsA, ↓rMax2A, ↓rMin2A, ↓rIntA, ↓rAbsA, bsel_true, bsel_false, wipeN, gNm, tYesA, ↓isNon, ↓isBlOf, ↓isI, ↓isB, ↓isS, ↓isT, ↓isL, Bool.or_false, Bool.or_true, Bool.false_or, Bool.true_or, ↓wList, ↓eLc, ↓rLenA, ↓sFor, ↓sWhile, ↓wRng1, ↓wRng2, ↓wTup, ↓wEnum, ↓eChain, ↓eListR1, ↓eLenSet, ↓eRev, ↓eInR, ↓eApp, ↓ePop, ↓eValue, ↓xDrop, ↓xRet, ↓xSet, ↓xCall, ↓xCallV, ↓sRaise, ↓eCallVL, ↓eLam3, startNF, Bool.not_true, Bool.not_false, Bool.false_eq_true, ↓reduceIte, Bool.not_not]); exact k
  | _ => unfold cntA; (try simp only [startN, List.map_cons, List.map_nil, List.length_cons, List.length_nil, Nat.reduceAdd, Nat.reduceSub, Nat.zero_add, Nat.sub_self, List.replicate_succ, List.replicate_zero, List.reduceReplicate, List.cons_append, List.nil_append, List.append_nil, ↓sRet, ↓sRetN, ↓sSeq, ↓sNil, ↓sIf, ↓sSet, ↓sPar, ↓sPar3, ↓sAsg, ↓sDrop, ↓sSetL, ↓eAnd, ↓eOr, ↓eNot, ↓eIf, ↓eNeg, ↓eCall, ↓eCallK, ↓eCallV, ↓lCons, ↓lNil, ↓eVar, ↓eC, ↓eTup, ↓eLst, ↓eLstC, ↓eOp, ↓eSl, ↓oNo, ↓oPart, ↓eBits, ↓tBool, ↓tAndA, ↓tOrA, ↓tNotA, ↓List.getElem?_cons_zero, ↓List.getElem?_cons_succ, ↓List.set_cons_zero, ↓List.set_cons_succ, ↓rInt, ↓rInt0, ↓rAddA, ↓rEqA, ↓rIsA, ↓rMax2A, ↓rMin2A, ↓rIntA, ↓rAbsA, bsel_true, bsel_false, wipeN, gNm, tYesA, ↓isNon, ↓isBlOf, ↓isI, ↓isB, ↓isS, ↓isT, ↓isL, Bool.or_false, Bool.or_true, Bool.false_or, Bool.true_or, ↓wList, ↓eLc, ↓rLenA, ↓sFor, ↓sWhile, ↓wRng1, ↓wRng2, ↓wTup, ↓wEnum, ↓eChain, ↓eListR1, ↓eLenSet, ↓eRev, ↓eInR, ↓eApp, ↓ePop, ↓eValue, ↓xDrop, ↓xRet, ↓xSet, ↓xCall, ↓xCallV, ↓sRaise, ↓eCallVL, ↓eLam3, startNF, Bool.not_true, Bool.not_false, Bool.false_eq_true, ↓reduceIte, Bool.not_not]); exact k
/-! ### is_worth_row -/
abbrev s_is_worth_row : Stmt := topS 12
theorem sc_is_worth_row : FnScope ["value", "many", "worth"] ["value", "many"] (defScope s_is_worth_row) := ⟨rfl, rfl, rfl, by decide +kernel, rfl, by decide +kernel, by decide +kernel⟩
theorem bd_is_worth_row (kV doc pm : Value) (an : Option Addr) (cdv ct : Value) (us : List Value) (hl : us.length = (["value", "many"] : List Str).length) : bindArgs (PySem.W.fnOf "is_worth_row" "is_worth_row" (defArgs s_is_worth_row) (defBody s_is_worth_row) (defScope s_is_worth_row) .none kV doc pm an cdv ct) ⟨us, []⟩ = pure ((["value", "many"] : List Str).zip us) :=
  match us, hl with | [_, _], _ => rfl
def sp_is_worth_row : SpA := fun as S P => ∃ x, ∃ m : Nat, as = [x, .int (m : Int)] ∧ gd 6 x = true ∧ P (.bl (rowA m x)) S
--len by rintro as S P ⟨x, b, rfl, _⟩; rfl
theorem got_is_worth_row {P : Program} {w : World} {K : PySem.W.Frag} {mg : Str → Option Value} {base : Heap} {f_is_whole f_is_worth_row : Addr} (B : Bi mg) (D : Def K mg "is_worth_row" s_is_worth_row f_is_worth_row) (G_is_whole : Got P w K mg base 1 ["value"] "is_whole" s_is_whole f_is_whole sp_is_whole) (C_MOST_WORTH : Cst mg "MOST_WORTH" (.int 1000000000)) :
    Got P w K mg base (1 + 1) ["value", "many"] "is_worth_row" s_is_worth_row f_is_worth_row sp_is_worth_row := by
  refine got_of D sc_is_worth_row (by rintro as S P ⟨x, b, rfl, _⟩; rfl) (bd_is_worth_row) (fun cdv A0 outer s0_ H E hr => ⟨_, (sb_cons (sa_if (tt_w (tw_or (tt_not (tt_val (ea_callB cx_isi B.isinstance_ (la_cons (ea_var 0) (la_cons (ea_ty "list" B.list_) la_nil))))) (tw_or1 (tt_cmp (oa_ne hr.units) (ea_callB cx_len B.len_ (la_cons (ea_var 0) la_nil)) (ea_var 1))))) (sb_one (sa_ret ea_bl)) sb_nil)
      (sb_one (sa_ret (ea_cmp (oa_eq hr.units) (ea_lc [("worth", 2)] sc_is_worth_row.nd (ia_list (ea_var 0)) (by kernel_rfl) (fun _ _ _ _ _ => (ga_name 2 sc_is_worth_row.nd)) (fun _ _ _ _ _ => (tsa_one (tt_w (tw_or (tt_not (tt_val (ea_call G_is_whole (hr.mono (by omega)) (la_cons (ea_var 2) la_nil)))) (tw_or1 (tt_not (tt_chain oa_le oa_le (ea_neg (ea_cst C_MOST_WORTH)) (ea_var 2) (ea_cst C_MOST_WORTH)))))))) (fun _ _ _ _ _ => (ea_var 2))) (ea_lst la_nil))))), fun as S P h => ?_⟩)
  obtain ⟨x, m, rfl, hk, k⟩ := h
  (try simp only [startN, List.map_cons, List.map_nil, List.length_cons, List.length_nil, Nat.reduceAdd, Nat.reduceSub, Nat.zero_add, Nat.sub_self, List.replicate_succ, List.replicate_zero, List.reduceReplicate, List.cons_append, List.nil_append, List.append_nil, ↓sRet, ↓sRetN, ↓sSeq, ↓sNil, ↓sIf, ↓sSet, ↓sPar, ↓sPar3, ↓sAsg, ↓sDrop, ↓sSetL, ↓eAnd, ↓eOr, ↓eNot, ↓eIf, ↓eNeg, ↓eCall, ↓eCallK, ↓eCallV, ↓lCons, ↓lNil, ↓eVar, ↓eC, ↓eTup, ↓eLst, ↓eLstC, ↓eOp, ↓eSl, ↓oNo, ↓oPart, ↓eBits, ↓tBool, ↓tAndA, ↓tOrA, ↓tNotA, ↓List.getElem?_cons_zero, ↓List.getElem?_cons_succ, ↓List.set_cons_zero, ↓List.set_cons_succ, ↓rInt, ↓rInt0, ↓rAddA, ↓rEqA, ↓rIsA, ↓rMax2A, ↓rMin2A, ↓rIntA, ↓rAbsA, bsel_true, bsel_false, wipeN, gNm, tYesA, ↓isNon, ↓isBlOf, ↓isI, ↓isB, ↓isS, ↓isT, ↓isL, Bool.or_false, Bool.or_true, Bool.false_or, Bool.true_or, ↓wList, ↓eLc, ↓rLenA, ↓sFor, ↓sWhile, ↓wRng1, ↓wRng2, ↓wTup, ↓wEnum, ↓eChain, ↓eListR1, ↓eLenSet, ↓eRev, ↓eInR, ↓eApp, ↓ePop, ↓eValue, ↓xDrop, ↓xRet, ↓xSet, ↓xCall, ↓xCallV, ↓sRaise, ↓eCallVL, ↓eLam3, startNF, Bool.not_true, Bool.not_false, Bool.false_eq_true, ↓reduceIte, Bool.not_not])
  refine isi_list (gd_kn hk) ?_
  cases x with
  | lst xs =>
    obtain ⟨hg, hl⟩ := gd_lst hk
    (try simp only [startN, List.map_cons, List.map_nil, List.length_cons, List.length_nil, Nat.reduceAdd, Nat.reduceSub, Nat.zero_add, Nat.sub_self, List.replicate_succ, List.replicate_zero, List.reduceReplicate, List.cons_append, List.nil_append, List.append_nil, ↓sRet, ↓sRetN, ↓sSeq, ↓sNil, ↓sIf, ↓sSet, ↓sPar, ↓sPar3, ↓sAsg, ↓sDrop, ↓sSetL, ↓eAnd, ↓eOr, ↓eNot, ↓eIf, ↓eNeg, ↓eCall, ↓eCallK, ↓eCallV, ↓lCons, ↓lNil, ↓eVar, ↓eC, ↓eTup, ↓eLst, ↓eLstC, ↓eOp, ↓eSl, ↓oNo, ↓oPart, ↓eBits, ↓tBool, ↓tAndA, ↓tOrA, ↓tNotA, ↓List.getElem?_cons_zero, ↓List.getElem?_cons_succ, ↓List.set_cons_zero, ↓List.set_cons_succ, ↓rInt, ↓rInt0, ↓rAddA, ↓rEqA, ↓rIsA, ↓rMax2A, ↓rMin2A, ↓rIntA, ↓rAbsA, bsel_true, bsel_false, wipeN, gNm, tYesA, ↓isNon, ↓isBlOf, ↓isI, ↓isB, ↓isS, ↓isT, ↓isL, Bool.or_false, Bool.or_true, Bool.false_or, Bool.true_or, ↓wList, ↓eLc, ↓rLenA, ↓sFor, ↓sWhile, ↓wRng1, ↓wRng2, ↓wTup, ↓wEnum, ↓eChain, ↓eListR1, ↓eLenSet, ↓eRev, ↓eInR, ↓eApp, ↓ePop, ↓eValue, ↓xDrop, ↓xRet, ↓xSet, ↓xCall, ↓xCallV, ↓sRaise, ↓eCallVL, ↓eLam3, startNF, Bool.not_true, Bool.not_false, Bool.false_eq_true, ↓reduceIte, Bool.not_not])
    refine ⟨xs, rfl, ?_⟩
    (try simp only [startN, List.map_cons, List.map_nil, List.length_cons, List.length_nil, Nat.reduceAdd, Nat.reduceSub, Nat.zero_add, Nat.sub_self, List.replicate_succ, List.replicate_zero, List.reduceReplicate, List.cons_append, List.nil_append, List.append_nil, ↓sRet, ↓sRetN, ↓sSeq, ↓sNil, ↓sIf, ↓sSet, ↓sPar, ↓sPar3, ↓sAsg, ↓sDrop, ↓sSetL, ↓eAnd, ↓eOr, ↓eNot, ↓eIf, ↓eNeg, ↓eCall, ↓eCallK, ↓eCallV, ↓lCons, ↓lNil, ↓eVar, ↓eC, ↓eTup, ↓eLst, ↓eLstC, ↓eOp, ↓eSl, ↓oNo, ↓oPart, ↓eBits, ↓tBool, ↓tAndA, ↓tOrA, ↓tNotA, ↓List.getElem?_cons_zero, ↓List.getElem?_cons_succ, ↓List.set_cons_zero, ↓List.set_cons_succ, ↓rInt, ↓rInt0, ↓rAddA, ↓rEqA, ↓rIsA, ↓rMax2A, ↓rMin2A, ↓rIntA, ↓rAbsA, bsel_true, bsel_false, wipeN, gNm, tYesA, ↓isNon, ↓isBlOf, ↓isI, ↓isB, ↓isS, ↓isT, ↓isL, Bool.or_false, Bool.or_true, Bool.false_or, Bool.true_or, ↓wList, ↓eLc, ↓rLenA, ↓sFor, ↓sWhile, ↓wRng1, ↓wRng2, ↓wTup, ↓wEnum, ↓eChain, ↓eListR1, ↓eLenSet, ↓eRev, ↓eInR, ↓eApp, ↓ePop, ↓eValue, ↓xDrop, ↓xRet, ↓xSet, ↓xCall, ↓xCallV, ↓sRaise, ↓eCallVL, ↓eLam3, startNF, Bool.not_true, Bool.not_false, Bool.false_eq_true, ↓reduceIte, Bool.not_not])
    simp only [rowA] at k
    refine bsel_i (fun h => ?_) fun h => ?_
    · have hn : ¬ xs.length = m := fun z => by rw [z] at h; simp at h
      rw [decide_eq_false hn, Bool.false_and] at k
      exact k
    · have he : xs.length = m := by
        have z := of_decide_eq_true (by simpa using h : decide ((xs.length : Int) = (m : Int)) = true)
        omega
      rw [decide_eq_true he, Bool.true_and] at k
      refine ⟨xs, rfl, hl, fun i acc S' => S' = S ∧ acc = (xs.take i).filter fun x => !wthA x, ⟨rfl, rfl⟩, fun _ _ _ _ h => by obtain ⟨rfl, _⟩ := h; rfl, ?_, ?_⟩
      · rintro i x acc S' hx ⟨rfl, rfl⟩
        (try simp only [startN, List.map_cons, List.map_nil, List.length_cons, List.length_nil, Nat.reduceAdd, Nat.reduceSub, Nat.zero_add, Nat.sub_self, List.replicate_succ, List.replicate_zero, List.reduceReplicate, List.cons_append, List.nil_append, List.append_nil, ↓sRet, ↓sRetN, ↓sSeq, ↓sNil, ↓sIf, ↓sSet, ↓sPar, ↓sPar3, ↓sAsg, ↓sDrop, ↓sSetL, ↓eAnd, ↓eOr, ↓eNot, ↓eIf, ↓eNeg, ↓eCall, ↓eCallK, ↓eCallV, ↓lCons, ↓lNil, ↓eVar, ↓eC, ↓eTup, ↓eLst, ↓eLstC, ↓eOp, ↓eSl, ↓oNo, ↓oPart, ↓eBits, ↓tBool, ↓tAndA, ↓tOrA, ↓tNotA, ↓List.getElem?_cons_zero, ↓List.getElem?_cons_succ, ↓List.set_cons_zero, ↓List.set_cons_succ, ↓rInt, ↓rInt0, ↓rAddA, ↓rEqA, ↓rIsA, ↓rMax2A, ↓rMin2A, ↓rIntA, ↓rAbsA, bsel_true, bsel_false, wipeN, gNm, tYesA, ↓isNon, ↓isBlOf, ↓isI, ↓isB, ↓isS, ↓isT, ↓isL, Bool.or_false, Bool.or_true, Bool.false_or, Bool.true_or, ↓wList, ↓eLc, ↓rLenA, ↓sFor, ↓sWhile, ↓wRng1, ↓wRng2, ↓wTup, ↓wEnum, ↓eChain, ↓eListR1, ↓eLenSet, ↓eRev, ↓eInR, ↓eApp, ↓ePop, ↓eValue, ↓xDrop, ↓xRet, ↓xSet, ↓xCall, ↓xCallV, ↓sRaise, ↓eCallVL, ↓eLam3, startNF, Bool.not_true, Bool.not_false, Bool.false_eq_true, ↓reduceIte, Bool.not_not])
        rw [filt_succ hx]
        refine ⟨x, rfl, gd_kn (gds_get hg hx), ?_⟩
        cases x with
        | int j =>
          have ew : wthA (.int j) = (decide (-1000000000 ≤ j) && decide (j ≤ 1000000000)) := rfl
          have e0 : isWholeA (.int j) = true := rfl
          rw [ew, e0]
          (try simp only [startN, List.map_cons, List.map_nil, List.length_cons, List.length_nil, Nat.reduceAdd, Nat.reduceSub, Nat.zero_add, Nat.sub_self, List.replicate_succ, List.replicate_zero, List.reduceReplicate, List.cons_append, List.nil_append, List.append_nil, ↓sRet, ↓sRetN, ↓sSeq, ↓sNil, ↓sIf, ↓sSet, ↓sPar, ↓sPar3, ↓sAsg, ↓sDrop, ↓sSetL, ↓eAnd, ↓eOr, ↓eNot, ↓eIf, ↓eNeg, ↓eCall, ↓eCallK, ↓eCallV, ↓lCons, ↓lNil, ↓eVar, ↓eC, ↓eTup, ↓eLst, ↓eLstC, ↓eOp, ↓eSl, ↓oNo, ↓oPart, ↓eBits, ↓tBool, ↓tAndA, ↓tOrA, ↓tNotA, ↓List.getElem?_cons_zero, ↓List.getElem?_cons_succ, ↓List.set_cons_zero, ↓List.set_cons_succ, ↓rInt, ↓rInt0, ↓rAddA, ↓rEqA, ↓rIsA, ↓rMax2A, ↓rMin2A, ↓rIntA, ↓rAbsA, bsel_true, bsel_false, wipeN, gNm, tYesA, ↓isNon, ↓isBlOf, ↓isI, ↓isB, ↓isS, ↓isT, ↓isL, Bool.or_false, Bool.or_true, Bool.false_or, Bool.true_or, ↓wList, ↓eLc, ↓rLenA, ↓sFor, ↓sWhile, ↓wRng1, ↓wRng2, ↓wTup, ↓wEnum, ↓eChain, ↓eListR1, ↓eLenSet, ↓eRev, ↓eInR, ↓eApp, ↓ePop, ↓eValue, ↓xDrop, ↓xRet, ↓xSet, ↓xCall, ↓xCallV, ↓sRaise, ↓eCallVL, ↓eLam3, startNF, Bool.not_true, Bool.not_false, Bool.false_eq_true, ↓reduceIte, Bool.not_not])
          rcases Bool.eq_false_or_eq_true (decide (-1000000000 ≤ j)) with e1 | e1 <;> rcases Bool.eq_false_or_eq_true (decide (j ≤ 1000000000)) with e2 | e2 <;> rw [e1] <;> (try rw [e2]) <;> (try simp only [startN, List.map_cons, List.map_nil, List.length_cons, List.length_nil, Nat.reduceAdd, Nat.reduceSub, Nat.zero_add, Nat.sub_self, List.replicate_succ, List.replicate_zero, List.reduceReplicate, List.cons_append, List.nil_append, List.append_nil, ↓sRet, ↓sRetN, ↓sSeq, ↓sNil, ↓sIf, ↓sSet, ↓sPar, ↓sPar3, ↓sAsg, ↓sDrop, ↓sSetL, ↓eAnd, ↓eOr, ↓eNot, ↓eIf, ↓eNeg, ↓eCall, ↓eCallK, ↓eCallV, ↓lCons, ↓lNil, ↓eVar, ↓eC, ↓eTup, ↓eLst, ↓eLstC, ↓eOp, ↓eSl, ↓oNo, ↓oPart, ↓eBits, ↓tBool, ↓tAndA, ↓tOrA, ↓tNotA, ↓List.getElem?_cons_zero, ↓List.getElem?_cons_succ, ↓List.set_cons_zero, ↓List.set_cons_succ, ↓rInt, ↓rInt0, ↓rAddA, ↓rEqA, ↓rIsA, ↓rMax2A, ↓rMin2A, ↓rIntA, ↓rAbsA, bsel_true, bsel_false, wipeN, gNm, tYesA, ↓isNon, ↓isBlOf, ↓isI, ↓isB, ↓isS, ↓isT, ↓isL, Bool.or_false, Bool.or_true, Bool.false_or, Bool.true_or, ↓wList, ↓eLc, ↓rLenA, ↓sFor, ↓sWhile, ↓wRng1, ↓wRng2, ↓wTup, ↓wEnum, ↓eChain, ↓eListR1, ↓eLenSet, ↓eRev, ↓eInR, ↓eApp, ↓ePop, ↓eValue, ↓xDrop, ↓xRet, ↓xSet, ↓xCall, ↓xCallV, ↓sRaise, ↓eCallVL, ↓eLam3, startNF, Bool.not_true, Bool.not_false, Bool.false_eq_true, ↓reduceIte, Bool.not_not]) <;> (first | exact ⟨trivial, rfl⟩ | exact ⟨trivial, trivial⟩ | exact ⟨rfl, rfl⟩)
        | _ => have e0 : ∀ x, isWholeA x = false → wthA x = false := (fun x h => by cases x <;> first | rfl | cases h); rw [e0 _ rfl, show isWholeA _ = false from rfl]; (try simp only [startN, List.map_cons, List.map_nil, List.length_cons, List.length_nil, Nat.reduceAdd, Nat.reduceSub, Nat.zero_add, Nat.sub_self, List.replicate_succ, List.replicate_zero, List.reduceReplicate, List.cons_append, List.nil_append, List.append_nil, ↓sRet, ↓sRetN, ↓sSeq, ↓sNil, ↓sIf, ↓sSet, ↓sPar, ↓sPar3, ↓sAsg, ↓sDrop, ↓sSetL, ↓eAnd, ↓eOr, ↓eNot, ↓eIf, ↓eNeg, ↓eCall, ↓eCallK, ↓eCallV, ↓lCons, ↓lNil, ↓eVar, ↓eC, ↓eTup, ↓eLst, ↓eLstC, ↓eOp, ↓eSl, ↓oNo, ↓oPart, ↓eBits, ↓tBool, ↓tAndA, ↓tOrA, ↓tNotA, ↓List.getElem?_cons_zero, ↓List.getElem?_cons_succ, ↓List.set_cons_zero, ↓List.set_cons_succ, ↓rInt, ↓rInt0, ↓rAddA, ↓rEqA, ↓rIsA, ↓rMax2A, ↓rMin2A, ↓rIntA, ↓rAbsA, bsel_true, bsel_false, wipeN, gNm, tYesA, ↓isNon, ↓isBlOf, ↓isI, ↓isB, ↓isS, ↓isT, ↓isL, Bool.or_false, Bool.or_true, Bool.false_or, Bool.true_or, ↓wList, ↓eLc, ↓rLenA, ↓sFor, ↓sWhile, ↓wRng1, ↓wRng2, ↓wTup, ↓wEnum, ↓eChain, ↓eListR1, ↓eLenSet, ↓eRev, ↓eInR, ↓eApp, ↓ePop, ↓eValue, ↓xDrop, ↓xRet, ↓xSet, ↓xCall, ↓xCallV, ↓sRaise, ↓eCallVL, ↓eLam3, startNF, Bool.not_true, Bool.not_false, Bool.false_eq_true, ↓reduceIte, Bool.not_not]); (first | exact ⟨trivial, rfl⟩ | exact ⟨trivial, trivial⟩ | exact ⟨rfl, rfl⟩)
      · rintro acc S' ⟨rfl, rfl⟩
        rw [List.take_length]
        refine rEq_gd (gds_filt hg) (by decide) ?_
        rw [filt_emp]
        simpa using k
  | ref _ => exact absurd (gd_nr hk) (by unfold nr; decide)
  | ty _ => exact absurd (gd_nr hk) (by unfold nr; decide)
  | _ => (try simp only [startN, List.map_cons, List.map_nil, List.length_cons, List.length_nil, Nat.reduceAdd, Nat.reduceSub, Nat.zero_add, Nat.sub_self, List.replicate_succ, List.replicate_zero, List.reduceReplicate, List.cons_append, List.nil_append, List.append_nil, ↓sRet, ↓sRetN, ↓sSeq, ↓sNil, ↓sIf, ↓sSet, ↓sPar, ↓sPar3, ↓sAsg, ↓sDrop, ↓sSetL, ↓eAnd, ↓eOr, ↓eNot, ↓eIf, ↓eNeg, ↓eCall, ↓eCallK, ↓eCallV, ↓lCons, ↓lNil, ↓eVar, ↓eC, ↓eTup, ↓eLst, ↓eLstC, ↓eOp, ↓eSl, ↓oNo, ↓oPart, ↓eBits, ↓tBool, ↓tAndA, ↓tOrA, ↓tNotA, ↓List.getElem?_cons_zero, ↓List.getElem?_cons_succ, ↓List.set_cons_zero, ↓List.set_cons_succ, ↓rInt, ↓rInt0, ↓rAddA, ↓rEqA, ↓rIsA, ↓rMax2A, ↓rMin2A, ↓rIntA, ↓rAbsA, bsel_true, bsel_false, wipeN, gNm, tYesA, ↓isNon, ↓isBlOf, ↓isI, ↓isB, ↓isS, ↓isT, ↓isL, Bool.or_false, Bool.or_true, Bool.false_or, Bool.true_or, ↓wList, ↓eLc, ↓rLenA, ↓sFor, ↓sWhile, ↓wRng1, ↓wRng2, ↓wTup, ↓wEnum, ↓eChain, ↓eListR1, ↓eLenSet, ↓eRev, ↓eInR, ↓eApp, ↓ePop, ↓eValue, ↓xDrop, ↓xRet, ↓xSet, ↓xCall, ↓xCallV, ↓sRaise, ↓eCallVL, ↓eLam3, startNF, Bool.not_true, Bool.not_false, Bool.false_eq_true, ↓reduceIte, Bool.not_not]); exact k
theorem wide_some {x : A} {m : Nat} (h : wideA x = some m) : ∃ r rs, x = .lst (.lst r :: rs) ∧ rs.length + 1 ≤ 12 ∧ 1 ≤ r.length ∧ r.length ≤ 12 ∧ m = r.length := by
  unfold wideA at h
  split at h
  · rename_i r rs
    split at h
    · rename_i c
      cases h
      exact ⟨r, rs, rfl, c.1, c.2.1, c.2.2, rfl⟩
    · cases h
  · cases h
theorem atI_0 {x : A} {xs : List A} : atI (x :: xs) (0 : Int) = some x := atI_nat' (i := 0) rfl
theorem areW_no {x : A} (h : wideA x = none) : areW x = false := by unfold areW; rw [h]
/-! ### are_worths -/
abbrev s_are_worths : Stmt := topS 13
theorem sc_are_worths : FnScope ["value", "row"] ["value"] (defScope s_are_worths) := ⟨rfl, rfl, rfl, by decide +kernel, rfl, by decide +kernel, by decide +kernel⟩
theorem bd_are_worths (kV doc pm : Value) (an : Option Addr) (cdv ct : Value) (us : List Value) (hl : us.length = (["value"] : List Str).length) : bindArgs (PySem.W.fnOf "are_worths" "are_worths" (defArgs s_are_worths) (defBody s_are_worths) (defScope s_are_worths) .none kV doc pm an cdv ct) ⟨us, []⟩ = pure ((["value"] : List Str).zip us) :=
  match us, hl with | [_], _ => rfl
def sp_are_worths : SpA := sp_pure 7 fun x => .bl (areW x)
--len len_pure
theorem got_are_worths {P : Program} {w : World} {K : PySem.W.Frag} {mg : Str → Option Value} {base : Heap} {f_are_worths f_is_worth_row : Addr} (B : Bi mg) (D : Def K mg "are_worths" s_are_worths f_are_worths) (G_is_worth_row : Got P w K mg base 2 ["value", "many"] "is_worth_row" s_is_worth_row f_is_worth_row sp_is_worth_row) (C_LARGEST : Cst mg "LARGEST" (.int 12)) :
    Got P w K mg base (2 + 1) ["value"] "are_worths" s_are_worths f_are_worths sp_are_worths := by
  refine got_of D sc_are_worths (len_pure) (bd_are_worths) (fun cdv A0 outer s0_ H E hr => ⟨_, (sb_cons (sa_if (tt_w (tw_or (tt_not (tt_val (ea_callB cx_isi B.isinstance_ (la_cons (ea_var 0) (la_cons (ea_ty "list" B.list_) la_nil))))) (tw_or (tt_not (tt_chain oa_le oa_le ea_int (ea_callB cx_len B.len_ (la_cons (ea_var 0) la_nil)) (ea_cst C_LARGEST))) (tw_or1 (tt_not (tt_val (ea_callB cx_isi B.isinstance_ (la_cons (ea_ix (ea_var 0) ea_int) (la_cons (ea_ty "list" B.list_) la_nil))))))))) (sb_one (sa_ret ea_bl)) sb_nil)
      (sb_cons (sa_if (tt_not (tt_chain oa_le oa_le ea_int (ea_callB cx_len B.len_ (la_cons (ea_ix (ea_var 0) ea_int) la_nil)) (ea_cst C_LARGEST))) (sb_one (sa_ret ea_bl)) sb_nil)
      (sb_one (sa_ret (ea_cmp (oa_eq hr.units) (ea_lc [("row", 1)] sc_are_worths.nd (ia_list (ea_var 0)) (by kernel_rfl) (fun _ _ _ _ _ => (ga_name 1 sc_are_worths.nd)) (fun _ _ _ _ _ => (tsa_one (tt_not (tt_val (ea_call G_is_worth_row (hr.mono (by omega)) (la_cons (ea_var 1) (la_cons (ea_callB cx_len B.len_ (la_cons (ea_ix (ea_var 0) ea_int) la_nil)) la_nil))))))) (fun _ _ _ _ _ => (ea_var 1))) (ea_lst la_nil)))))), fun as S P h => ?_⟩)
  obtain ⟨x, rfl, hk, k⟩ := h
  have k : P (.bl (areW x)) S := k
  (try simp only [startN, List.map_cons, List.map_nil, List.length_cons, List.length_nil, Nat.reduceAdd, Nat.reduceSub, Nat.zero_add, Nat.sub_self, List.replicate_succ, List.replicate_zero, List.reduceReplicate, List.cons_append, List.nil_append, List.append_nil, ↓sRet, ↓sRetN, ↓sSeq, ↓sNil, ↓sIf, ↓sSet, ↓sPar, ↓sPar3, ↓sAsg, ↓sDrop, ↓sSetL, ↓eAnd, ↓eOr, ↓eNot, ↓eIf, ↓eNeg, ↓eCall, ↓eCallK, ↓eCallV, ↓lCons, ↓lNil, ↓eVar, ↓eC, ↓eTup, ↓eLst, ↓eLstC, ↓eOp, ↓eSl, ↓oNo, ↓oPart, ↓eBits, ↓tBool, ↓tAndA, ↓tOrA, ↓tNotA, ↓List.getElem?_cons_zero, ↓List.getElem?_cons_succ, ↓List.set_cons_zero, ↓List.set_cons_succ, ↓rInt, ↓rInt0, ↓rAddA, ↓rEqA, ↓rIsA, ↓rMax2A, ↓rMin2A, ↓rIntA, ↓rAbsA, bsel_true, bsel_false, wipeN, gNm, tYesA, ↓isNon, ↓isBlOf, ↓isI, ↓isB, ↓isS, ↓isT, ↓isL, Bool.or_false, Bool.or_true, Bool.false_or, Bool.true_or, ↓wList, ↓eLc, ↓rLenA, ↓sFor, ↓sWhile, ↓wRng1, ↓wRng2, ↓wTup, ↓wEnum, ↓eChain, ↓eListR1, ↓eLenSet, ↓eRev, ↓eInR, ↓eApp, ↓ePop, ↓eValue, ↓xDrop, ↓xRet, ↓xSet, ↓xCall, ↓xCallV, ↓sRaise, ↓eCallVL, ↓eLam3, startNF, Bool.not_true, Bool.not_false, Bool.false_eq_true, ↓reduceIte, Bool.not_not])
  refine isi_list (gd_kn hk) ?_
  cases x with
  | ref _ => exact absurd (gd_nr hk) (by unfold nr; decide)
  | ty _ => exact absurd (gd_nr hk) (by unfold nr; decide)
  | lst xs =>
    obtain ⟨hg, hl⟩ := gd_lst hk
    have no : wideA (.lst xs) = none → P (.bl false) S := fun e => by rw [areW_no e] at k; exact k
    (try simp only [startN, List.map_cons, List.map_nil, List.length_cons, List.length_nil, Nat.reduceAdd, Nat.reduceSub, Nat.zero_add, Nat.sub_self, List.replicate_succ, List.replicate_zero, List.reduceReplicate, List.cons_append, List.nil_append, List.append_nil, ↓sRet, ↓sRetN, ↓sSeq, ↓sNil, ↓sIf, ↓sSet, ↓sPar, ↓sPar3, ↓sAsg, ↓sDrop, ↓sSetL, ↓eAnd, ↓eOr, ↓eNot, ↓eIf, ↓eNeg, ↓eCall, ↓eCallK, ↓eCallV, ↓lCons, ↓lNil, ↓eVar, ↓eC, ↓eTup, ↓eLst, ↓eLstC, ↓eOp, ↓eSl, ↓oNo, ↓oPart, ↓eBits, ↓tBool, ↓tAndA, ↓tOrA, ↓tNotA, ↓List.getElem?_cons_zero, ↓List.getElem?_cons_succ, ↓List.set_cons_zero, ↓List.set_cons_succ, ↓rInt, ↓rInt0, ↓rAddA, ↓rEqA, ↓rIsA, ↓rMax2A, ↓rMin2A, ↓rIntA, ↓rAbsA, bsel_true, bsel_false, wipeN, gNm, tYesA, ↓isNon, ↓isBlOf, ↓isI, ↓isB, ↓isS, ↓isT, ↓isL, Bool.or_false, Bool.or_true, Bool.false_or, Bool.true_or, ↓wList, ↓eLc, ↓rLenA, ↓sFor, ↓sWhile, ↓wRng1, ↓wRng2, ↓wTup, ↓wEnum, ↓eChain, ↓eListR1, ↓eLenSet, ↓eRev, ↓eInR, ↓eApp, ↓ePop, ↓eValue, ↓xDrop, ↓xRet, ↓xSet, ↓xCall, ↓xCallV, ↓sRaise, ↓eCallVL, ↓eLam3, startNF, Bool.not_true, Bool.not_false, Bool.false_eq_true, ↓reduceIte, Bool.not_not])
    refine ⟨xs, rfl, ?_⟩
    (try simp only [startN, List.map_cons, List.map_nil, List.length_cons, List.length_nil, Nat.reduceAdd, Nat.reduceSub, Nat.zero_add, Nat.sub_self, List.replicate_succ, List.replicate_zero, List.reduceReplicate, List.cons_append, List.nil_append, List.append_nil, ↓sRet, ↓sRetN, ↓sSeq, ↓sNil, ↓sIf, ↓sSet, ↓sPar, ↓sPar3, ↓sAsg, ↓sDrop, ↓sSetL, ↓eAnd, ↓eOr, ↓eNot, ↓eIf, ↓eNeg, ↓eCall, ↓eCallK, ↓eCallV, ↓lCons, ↓lNil, ↓eVar, ↓eC, ↓eTup, ↓eLst, ↓eLstC, ↓eOp, ↓eSl, ↓oNo, ↓oPart, ↓eBits, ↓tBool, ↓tAndA, ↓tOrA, ↓tNotA, ↓List.getElem?_cons_zero, ↓List.getElem?_cons_succ, ↓List.set_cons_zero, ↓List.set_cons_succ, ↓rInt, ↓rInt0, ↓rAddA, ↓rEqA, ↓rIsA, ↓rMax2A, ↓rMin2A, ↓rIntA, ↓rAbsA, bsel_true, bsel_false, wipeN, gNm, tYesA, ↓isNon, ↓isBlOf, ↓isI, ↓isB, ↓isS, ↓isT, ↓isL, Bool.or_false, Bool.or_true, Bool.false_or, Bool.true_or, ↓wList, ↓eLc, ↓rLenA, ↓sFor, ↓sWhile, ↓wRng1, ↓wRng2, ↓wTup, ↓wEnum, ↓eChain, ↓eListR1, ↓eLenSet, ↓eRev, ↓eInR, ↓eApp, ↓ePop, ↓eValue, ↓xDrop, ↓xRet, ↓xSet, ↓xCall, ↓xCallV, ↓sRaise, ↓eCallVL, ↓eLam3, startNF, Bool.not_true, Bool.not_false, Bool.false_eq_true, ↓reduceIte, Bool.not_not])
    refine bsel_i (fun h1 => ?_) fun h1 => ?_
    · refine bsel_i (fun h2 => ?_) fun h2 => ?_
      · refine no ?_
        unfold wideA
        split
        · rename_i r rs e
          cases e
          rw [if_neg]
          rintro ⟨c1, _⟩
          simp at h2
          omega
        · rfl
      · obtain ⟨x0, rs, rfl⟩ : ∃ x0 rs, xs = x0 :: rs := by
          cases xs with
          | nil => simp at h1
          | cons a r => exact ⟨a, r, rfl⟩
        have g0 : gd 6 x0 = true := gds_mem hg List.mem_cons_self
        have hrs : rs.length + 1 ≤ 12 := by simp at h2; omega
        refine ⟨_, x0, rfl, atI_0, ?_⟩
        refine isi_list (gd_kn g0) ?_
        cases x0 with
        | ref _ => exact absurd (gd_nr g0) (by unfold nr; decide)
        | ty _ => exact absurd (gd_nr g0) (by unfold nr; decide)
        | lst r =>
          obtain ⟨hg0, hl0⟩ := gd_lst g0
          (try simp only [startN, List.map_cons, List.map_nil, List.length_cons, List.length_nil, Nat.reduceAdd, Nat.reduceSub, Nat.zero_add, Nat.sub_self, List.replicate_succ, List.replicate_zero, List.reduceReplicate, List.cons_append, List.nil_append, List.append_nil, ↓sRet, ↓sRetN, ↓sSeq, ↓sNil, ↓sIf, ↓sSet, ↓sPar, ↓sPar3, ↓sAsg, ↓sDrop, ↓sSetL, ↓eAnd, ↓eOr, ↓eNot, ↓eIf, ↓eNeg, ↓eCall, ↓eCallK, ↓eCallV, ↓lCons, ↓lNil, ↓eVar, ↓eC, ↓eTup, ↓eLst, ↓eLstC, ↓eOp, ↓eSl, ↓oNo, ↓oPart, ↓eBits, ↓tBool, ↓tAndA, ↓tOrA, ↓tNotA, ↓List.getElem?_cons_zero, ↓List.getElem?_cons_succ, ↓List.set_cons_zero, ↓List.set_cons_succ, ↓rInt, ↓rInt0, ↓rAddA, ↓rEqA, ↓rIsA, ↓rMax2A, ↓rMin2A, ↓rIntA, ↓rAbsA, bsel_true, bsel_false, wipeN, gNm, tYesA, ↓isNon, ↓isBlOf, ↓isI, ↓isB, ↓isS, ↓isT, ↓isL, Bool.or_false, Bool.or_true, Bool.false_or, Bool.true_or, ↓wList, ↓eLc, ↓rLenA, ↓sFor, ↓sWhile, ↓wRng1, ↓wRng2, ↓wTup, ↓wEnum, ↓eChain, ↓eListR1, ↓eLenSet, ↓eRev, ↓eInR, ↓eApp, ↓ePop, ↓eValue, ↓xDrop, ↓xRet, ↓xSet, ↓xCall, ↓xCallV, ↓sRaise, ↓eCallVL, ↓eLam3, startNF, Bool.not_true, Bool.not_false, Bool.false_eq_true, ↓reduceIte, Bool.not_not])
          refine ⟨_, .lst r, rfl, atI_0, r, rfl, ?_⟩
          (try simp only [startN, List.map_cons, List.map_nil, List.length_cons, List.length_nil, Nat.reduceAdd, Nat.reduceSub, Nat.zero_add, Nat.sub_self, List.replicate_succ, List.replicate_zero, List.reduceReplicate, List.cons_append, List.nil_append, List.append_nil, ↓sRet, ↓sRetN, ↓sSeq, ↓sNil, ↓sIf, ↓sSet, ↓sPar, ↓sPar3, ↓sAsg, ↓sDrop, ↓sSetL, ↓eAnd, ↓eOr, ↓eNot, ↓eIf, ↓eNeg, ↓eCall, ↓eCallK, ↓eCallV, ↓lCons, ↓lNil, ↓eVar, ↓eC, ↓eTup, ↓eLst, ↓eLstC, ↓eOp, ↓eSl, ↓oNo, ↓oPart, ↓eBits, ↓tBool, ↓tAndA, ↓tOrA, ↓tNotA, ↓List.getElem?_cons_zero, ↓List.getElem?_cons_succ, ↓List.set_cons_zero, ↓List.set_cons_succ, ↓rInt, ↓rInt0, ↓rAddA, ↓rEqA, ↓rIsA, ↓rMax2A, ↓rMin2A, ↓rIntA, ↓rAbsA, bsel_true, bsel_false, wipeN, gNm, tYesA, ↓isNon, ↓isBlOf, ↓isI, ↓isB, ↓isS, ↓isT, ↓isL, Bool.or_false, Bool.or_true, Bool.false_or, Bool.true_or, ↓wList, ↓eLc, ↓rLenA, ↓sFor, ↓sWhile, ↓wRng1, ↓wRng2, ↓wTup, ↓wEnum, ↓eChain, ↓eListR1, ↓eLenSet, ↓eRev, ↓eInR, ↓eApp, ↓ePop, ↓eValue, ↓xDrop, ↓xRet, ↓xSet, ↓xCall, ↓xCallV, ↓sRaise, ↓eCallVL, ↓eLam3, startNF, Bool.not_true, Bool.not_false, Bool.false_eq_true, ↓reduceIte, Bool.not_not])
          refine bsel_i (fun h3 => ?_) fun h3 => ?_
          · refine bsel_i (fun h4 => ?_) fun h4 => ?_
            · refine no ?_
              show (if _ then _ else none) = none
              rw [if_neg]
              rintro ⟨_, _, c⟩
              simp at h4
              omega
            · have hw : wideA (.lst (.lst r :: rs)) = some r.length := by
                show (if _ then _ else none) = _
                rw [if_pos]
                have z3 := of_decide_eq_true h3
                simp at h4
                exact ⟨hrs, by omega, by omega⟩
              have ek : areW (.lst (.lst r :: rs)) = (A.lst r :: rs).all (rowA r.length) := by unfold areW; rw [hw]
              rw [ek] at k
              generalize hxs : (A.lst r :: rs) = xs at *
              refine ⟨xs, rfl, hl, fun i acc S' => S' = S ∧ acc = (xs.take i).filter fun x => !rowA r.length x, ⟨rfl, rfl⟩, fun _ _ _ _ h => by obtain ⟨rfl, _⟩ := h; rfl, ?_, ?_⟩
              · rintro i x acc S' hx ⟨rfl, rfl⟩
                (try simp only [startN, List.map_cons, List.map_nil, List.length_cons, List.length_nil, Nat.reduceAdd, Nat.reduceSub, Nat.zero_add, Nat.sub_self, List.replicate_succ, List.replicate_zero, List.reduceReplicate, List.cons_append, List.nil_append, List.append_nil, ↓sRet, ↓sRetN, ↓sSeq, ↓sNil, ↓sIf, ↓sSet, ↓sPar, ↓sPar3, ↓sAsg, ↓sDrop, ↓sSetL, ↓eAnd, ↓eOr, ↓eNot, ↓eIf, ↓eNeg, ↓eCall, ↓eCallK, ↓eCallV, ↓lCons, ↓lNil, ↓eVar, ↓eC, ↓eTup, ↓eLst, ↓eLstC, ↓eOp, ↓eSl, ↓oNo, ↓oPart, ↓eBits, ↓tBool, ↓tAndA, ↓tOrA, ↓tNotA, ↓List.getElem?_cons_zero, ↓List.getElem?_cons_succ, ↓List.set_cons_zero, ↓List.set_cons_succ, ↓rInt, ↓rInt0, ↓rAddA, ↓rEqA, ↓rIsA, ↓rMax2A, ↓rMin2A, ↓rIntA, ↓rAbsA, bsel_true, bsel_false, wipeN, gNm, tYesA, ↓isNon, ↓isBlOf, ↓isI, ↓isB, ↓isS, ↓isT, ↓isL, Bool.or_false, Bool.or_true, Bool.false_or, Bool.true_or, ↓wList, ↓eLc, ↓rLenA, ↓sFor, ↓sWhile, ↓wRng1, ↓wRng2, ↓wTup, ↓wEnum, ↓eChain, ↓eListR1, ↓eLenSet, ↓eRev, ↓eInR, ↓eApp, ↓ePop, ↓eValue, ↓xDrop, ↓xRet, ↓xSet, ↓xCall, ↓xCallV, ↓sRaise, ↓eCallVL, ↓eLam3, startNF, Bool.not_true, Bool.not_false, Bool.false_eq_true, ↓reduceIte, Bool.not_not])
                rw [filt_succ hx]
                refine ⟨xs, .lst r, rfl, by rw [← hxs]; exact atI_0, r, rfl, x, r.length, rfl, gds_get hg hx, ?_⟩
                cases rowA r.length x <;> (try simp only [startN, List.map_cons, List.map_nil, List.length_cons, List.length_nil, Nat.reduceAdd, Nat.reduceSub, Nat.zero_add, Nat.sub_self, List.replicate_succ, List.replicate_zero, List.reduceReplicate, List.cons_append, List.nil_append, List.append_nil, ↓sRet, ↓sRetN, ↓sSeq, ↓sNil, ↓sIf, ↓sSet, ↓sPar, ↓sPar3, ↓sAsg, ↓sDrop, ↓sSetL, ↓eAnd, ↓eOr, ↓eNot, ↓eIf, ↓eNeg, ↓eCall, ↓eCallK, ↓eCallV, ↓lCons, ↓lNil, ↓eVar, ↓eC, ↓eTup, ↓eLst, ↓eLstC, ↓eOp, ↓eSl, ↓oNo, ↓oPart, ↓eBits, ↓tBool, ↓tAndA, ↓tOrA, ↓tNotA, ↓List.getElem?_cons_zero, ↓List.getElem?_cons_succ, ↓List.set_cons_zero, ↓List.set_cons_succ, ↓rInt, ↓rInt0, ↓rAddA, ↓rEqA, ↓rIsA, ↓rMax2A, ↓rMin2A, ↓rIntA, ↓rAbsA, bsel_true, bsel_false, wipeN, gNm, tYesA, ↓isNon, ↓isBlOf, ↓isI, ↓isB, ↓isS, ↓isT, ↓isL, Bool.or_false, Bool.or_true, Bool.false_or, Bool.true_or, ↓wList, ↓eLc, ↓rLenA, ↓sFor, ↓sWhile, ↓wRng1, ↓wRng2, ↓wTup, ↓wEnum, ↓eChain, ↓eListR1, ↓eLenSet, ↓eRev, ↓eInR, ↓eApp, ↓ePop, ↓eValue, ↓xDrop, ↓xRet, ↓xSet, ↓xCall, ↓xCallV, ↓sRaise, ↓eCallVL, ↓eLam3, startNF, Bool.not_true, Bool.not_false, Bool.false_eq_true, ↓reduceIte, Bool.not_not]) <;> (first | exact ⟨trivial, rfl⟩ | exact ⟨trivial, trivial⟩ | exact ⟨rfl, rfl⟩)
              · rintro acc S' ⟨rfl, rfl⟩
                rw [List.take_length]
                refine rEq_gd (gds_filt hg) (by decide) ?_
                rw [filt_emp]
                simpa using k
          · refine no ?_
            show (if _ then _ else none) = none
            rw [if_neg]
            rintro ⟨_, c, _⟩
            have z3 := of_decide_eq_false h3
            omega
        | _ => (try simp only [startN, List.map_cons, List.map_nil, List.length_cons, List.length_nil, Nat.reduceAdd, Nat.reduceSub, Nat.zero_add, Nat.sub_self, List.replicate_succ, List.replicate_zero, List.reduceReplicate, List.cons_append, List.nil_append, List.append_nil, ↓sRet, ↓sRetN, ↓sSeq, ↓sNil, ↓sIf, ↓sSet, ↓sPar, ↓sPar3, ↓sAsg, ↓sDrop, ↓sSetL, ↓eAnd, ↓eOr, ↓eNot, ↓eIf, ↓eNeg, ↓eCall, ↓eCallK, ↓eCallV, ↓lCons, ↓lNil, ↓eVar, ↓eC, ↓eTup, ↓eLst, ↓eLstC, ↓eOp, ↓eSl, ↓oNo, ↓oPart, ↓eBits, ↓tBool, ↓tAndA, ↓tOrA, ↓tNotA, ↓List.getElem?_cons_zero, ↓List.getElem?_cons_succ, ↓List.set_cons_zero, ↓List.set_cons_succ, ↓rInt, ↓rInt0, ↓rAddA, ↓rEqA, ↓rIsA, ↓rMax2A, ↓rMin2A, ↓rIntA, ↓rAbsA, bsel_true, bsel_false, wipeN, gNm, tYesA, ↓isNon, ↓isBlOf, ↓isI, ↓isB, ↓isS, ↓isT, ↓isL, Bool.or_false, Bool.or_true, Bool.false_or, Bool.true_or, ↓wList, ↓eLc, ↓rLenA, ↓sFor, ↓sWhile, ↓wRng1, ↓wRng2, ↓wTup, ↓wEnum, ↓eChain, ↓eListR1, ↓eLenSet, ↓eRev, ↓eInR, ↓eApp, ↓ePop, ↓eValue, ↓xDrop, ↓xRet, ↓xSet, ↓xCall, ↓xCallV, ↓sRaise, ↓eCallVL, ↓eLam3, startNF, Bool.not_true, Bool.not_false, Bool.false_eq_true, ↓reduceIte, Bool.not_not]); exact no rfl
    · refine no ?_
      have z := of_decide_eq_false h1
      cases xs with
      | nil => rfl
      | cons a r => exact absurd (by simp; omega) z
  | _ => (try simp only [startN, List.map_cons, List.map_nil, List.length_cons, List.length_nil, Nat.reduceAdd, Nat.reduceSub, Nat.zero_add, Nat.sub_self, List.replicate_succ, List.replicate_zero, List.reduceReplicate, List.cons_append, List.nil_append, List.append_nil, ↓sRet, ↓sRetN, ↓sSeq, ↓sNil, ↓sIf, ↓sSet, ↓sPar, ↓sPar3, ↓sAsg, ↓sDrop, ↓sSetL, ↓eAnd, ↓eOr, ↓eNot, ↓eIf, ↓eNeg, ↓eCall, ↓eCallK, ↓eCallV, ↓lCons, ↓lNil, ↓eVar, ↓eC, ↓eTup, ↓eLst, ↓eLstC, ↓eOp, ↓eSl, ↓oNo, ↓oPart, ↓eBits, ↓tBool, ↓tAndA, ↓tOrA, ↓tNotA, ↓List.getElem?_cons_zero, ↓List.getElem?_cons_succ, ↓List.set_cons_zero, ↓List.set_cons_succ, ↓rInt, ↓rInt0, ↓rAddA, ↓rEqA, ↓rIsA, ↓rMax2A, ↓rMin2A, ↓rIntA, ↓rAbsA, bsel_true, bsel_false, wipeN, gNm, tYesA, ↓isNon, ↓isBlOf, ↓isI, ↓isB, ↓isS, ↓isT, ↓isL, Bool.or_false, Bool.or_true, Bool.false_or, Bool.true_or, ↓wList, ↓eLc, ↓rLenA, ↓sFor, ↓sWhile, ↓wRng1, ↓wRng2, ↓wTup, ↓wEnum, ↓eChain, ↓eListR1, ↓eLenSet, ↓eRev, ↓eInR, ↓eApp, ↓ePop, ↓eValue, ↓xDrop, ↓xRet, ↓xSet, ↓xCall, ↓xCallV, ↓sRaise, ↓eCallVL, ↓eLam3, startNF, Bool.not_true, Bool.not_false, Bool.false_eq_true, ↓reduceIte, Bool.not_not]); exact k
/-! ### are_square -/
abbrev s_are_square : Stmt := topS 14
theorem sc_are_square : FnScope ["value"] ["value"] (defScope s_are_square) := ⟨rfl, rfl, rfl, by decide +kernel, rfl, by decide +kernel, by decide +kernel⟩
theorem bd_are_square (kV doc pm : Value) (an : Option Addr) (cdv ct : Value) (us : List Value) (hl : us.length = (["value"] : List Str).length) : bindArgs (PySem.W.fnOf "are_square" "are_square" (defArgs s_are_square) (defBody s_are_square) (defScope s_are_square) .none kV doc pm an cdv ct) ⟨us, []⟩ = pure ((["value"] : List Str).zip us) :=
  match us, hl with | [_], _ => rfl
def sp_are_square : SpA := sp_pure 7 fun x => .bl (sqW x)
--len len_pure
theorem got_are_square {P : Program} {w : World} {K : PySem.W.Frag} {mg : Str → Option Value} {base : Heap} {f_are_square f_are_worths : Addr} (B : Bi mg) (D : Def K mg "are_square" s_are_square f_are_square) (G_are_worths : Got P w K mg base 3 ["value"] "are_worths" s_are_worths f_are_worths sp_are_worths) :
    Got P w K mg base (3 + 1) ["value"] "are_square" s_are_square f_are_square sp_are_square := by
  refine got_of D sc_are_square (len_pure) (bd_are_square) (fun cdv A0 outer s0_ H E hr => ⟨_, (sb_one (sa_ret (ea_and (ea_call G_are_worths (hr.mono (by omega)) (la_cons (ea_var 0) la_nil)) (ea_one (ea_cmp (oa_eq hr.units) (ea_callB cx_len B.len_ (la_cons (ea_var 0) la_nil)) (ea_callB cx_len B.len_ (la_cons (ea_ix (ea_var 0) ea_int) la_nil))))))), fun as S P h => ?_⟩)
  obtain ⟨x, rfl, hk, k⟩ := h
  have k : P (.bl (sqW x)) S := k
  (try simp only [startN, List.map_cons, List.map_nil, List.length_cons, List.length_nil, Nat.reduceAdd, Nat.reduceSub, Nat.zero_add, Nat.sub_self, List.replicate_succ, List.replicate_zero, List.reduceReplicate, List.cons_append, List.nil_append, List.append_nil, ↓sRet, ↓sRetN, ↓sSeq, ↓sNil, ↓sIf, ↓sSet, ↓sPar, ↓sPar3, ↓sAsg, ↓sDrop, ↓sSetL, ↓eAnd, ↓eOr, ↓eNot, ↓eIf, ↓eNeg, ↓eCall, ↓eCallK, ↓eCallV, ↓lCons, ↓lNil, ↓eVar, ↓eC, ↓eTup, ↓eLst, ↓eLstC, ↓eOp, ↓eSl, ↓oNo, ↓oPart, ↓eBits, ↓tBool, ↓tAndA, ↓tOrA, ↓tNotA, ↓List.getElem?_cons_zero, ↓List.getElem?_cons_succ, ↓List.set_cons_zero, ↓List.set_cons_succ, ↓rInt, ↓rInt0, ↓rAddA, ↓rEqA, ↓rIsA, ↓rMax2A, ↓rMin2A, ↓rIntA, ↓rAbsA, bsel_true, bsel_false, wipeN, gNm, tYesA, ↓isNon, ↓isBlOf, ↓isI, ↓isB, ↓isS, ↓isT, ↓isL, Bool.or_false, Bool.or_true, Bool.false_or, Bool.true_or, ↓wList, ↓eLc, ↓rLenA, ↓sFor, ↓sWhile, ↓wRng1, ↓wRng2, ↓wTup, ↓wEnum, ↓eChain, ↓eListR1, ↓eLenSet, ↓eRev, ↓eInR, ↓eApp, ↓ePop, ↓eValue, ↓xDrop, ↓xRet, ↓xSet, ↓xCall, ↓xCallV, ↓sRaise, ↓eCallVL, ↓eLam3, startNF, Bool.not_true, Bool.not_false, Bool.false_eq_true, ↓reduceIte, Bool.not_not])
  refine ⟨x, rfl, hk, ?_⟩
  (try simp only [startN, List.map_cons, List.map_nil, List.length_cons, List.length_nil, Nat.reduceAdd, Nat.reduceSub, Nat.zero_add, Nat.sub_self, List.replicate_succ, List.replicate_zero, List.reduceReplicate, List.cons_append, List.nil_append, List.append_nil, ↓sRet, ↓sRetN, ↓sSeq, ↓sNil, ↓sIf, ↓sSet, ↓sPar, ↓sPar3, ↓sAsg, ↓sDrop, ↓sSetL, ↓eAnd, ↓eOr, ↓eNot, ↓eIf, ↓eNeg, ↓eCall, ↓eCallK, ↓eCallV, ↓lCons, ↓lNil, ↓eVar, ↓eC, ↓eTup, ↓eLst, ↓eLstC, ↓eOp, ↓eSl, ↓oNo, ↓oPart, ↓eBits, ↓tBool, ↓tAndA, ↓tOrA, ↓tNotA, ↓List.getElem?_cons_zero, ↓List.getElem?_cons_succ, ↓List.set_cons_zero, ↓List.set_cons_succ, ↓rInt, ↓rInt0, ↓rAddA, ↓rEqA, ↓rIsA, ↓rMax2A, ↓rMin2A, ↓rIntA, ↓rAbsA, bsel_true, bsel_false, wipeN, gNm, tYesA, ↓isNon, ↓isBlOf, ↓isI, ↓isB, ↓isS, ↓isT, ↓isL, Bool.or_false, Bool.or_true, Bool.false_or, Bool.true_or, ↓wList, ↓eLc, ↓rLenA, ↓sFor, ↓sWhile, ↓wRng1, ↓wRng2, ↓wTup, ↓wEnum, ↓eChain, ↓eListR1, ↓eLenSet, ↓eRev, ↓eInR, ↓eApp, ↓ePop, ↓eValue, ↓xDrop, ↓xRet, ↓xSet, ↓xCall, ↓xCallV, ↓sRaise, ↓eCallVL, ↓eLam3, startNF, Bool.not_true, Bool.not_false, Bool.false_eq_true, ↓reduceIte, Bool.not_not])
  refine bsel_i (fun h1 => ?_) fun h1 => ?_
  · unfold areW at h1
    split at h1
    · rename_i m xs e
      obtain ⟨r, rs, e1, _, _, _, rfl⟩ := wide_some e
      cases e1
      refine ⟨_, rfl, _, .lst r, rfl, atI_0, r, rfl, ?_⟩
      have ek : sqW (.lst (.lst r :: rs)) = decide ((.lst r :: rs).length = r.length) := by unfold sqW; rw [e]; show (List.all _ _ && _) = _; rw [h1, Bool.true_and]
      rw [ek] at k
      (try simp only [startN, List.map_cons, List.map_nil, List.length_cons, List.length_nil, Nat.reduceAdd, Nat.reduceSub, Nat.zero_add, Nat.sub_self, List.replicate_succ, List.replicate_zero, List.reduceReplicate, List.cons_append, List.nil_append, List.append_nil, ↓sRet, ↓sRetN, ↓sSeq, ↓sNil, ↓sIf, ↓sSet, ↓sPar, ↓sPar3, ↓sAsg, ↓sDrop, ↓sSetL, ↓eAnd, ↓eOr, ↓eNot, ↓eIf, ↓eNeg, ↓eCall, ↓eCallK, ↓eCallV, ↓lCons, ↓lNil, ↓eVar, ↓eC, ↓eTup, ↓eLst, ↓eLstC, ↓eOp, ↓eSl, ↓oNo, ↓oPart, ↓eBits, ↓tBool, ↓tAndA, ↓tOrA, ↓tNotA, ↓List.getElem?_cons_zero, ↓List.getElem?_cons_succ, ↓List.set_cons_zero, ↓List.set_cons_succ, ↓rInt, ↓rInt0, ↓rAddA, ↓rEqA, ↓rIsA, ↓rMax2A, ↓rMin2A, ↓rIntA, ↓rAbsA, bsel_true, bsel_false, wipeN, gNm, tYesA, ↓isNon, ↓isBlOf, ↓isI, ↓isB, ↓isS, ↓isT, ↓isL, Bool.or_false, Bool.or_true, Bool.false_or, Bool.true_or, ↓wList, ↓eLc, ↓rLenA, ↓sFor, ↓sWhile, ↓wRng1, ↓wRng2, ↓wTup, ↓wEnum, ↓eChain, ↓eListR1, ↓eLenSet, ↓eRev, ↓eInR, ↓eApp, ↓ePop, ↓eValue, ↓xDrop, ↓xRet, ↓xSet, ↓xCall, ↓xCallV, ↓sRaise, ↓eCallVL, ↓eLam3, startNF, Bool.not_true, Bool.not_false, Bool.false_eq_true, ↓reduceIte, Bool.not_not])
      have e2 : decide ((((.lst r :: rs : List A).length : Nat) : Int) = ((r.length : Nat) : Int)) = decide ((.lst r :: rs : List A).length = r.length) := by rw [decide_eq_decide]; omega
      simp only [List.length_cons] at e2 k
      rw [e2]
      exact k
    · cases h1
  · have e : sqW x = false := by
      cases e : wideA x with
      | none => unfold sqW; rw [e]
      | some m =>
        obtain ⟨r, rs, rfl, _⟩ := wide_some e
        unfold areW at h1
        rw [e] at h1
        unfold sqW
        rw [e]
        show (List.all _ _ && _) = false
        rw [show (List.all (A.lst r :: rs) (rowA m)) = false from h1]
        rfl
    rw [e] at k
    exact k
def sp_is_square : SpA := sp_pure 7 fun x => .bl (sqW x)
/-- a test of a value: what is raised, with it -/
def sp_chk (n : Nat) (f : A → Bool) (C : Addr) : SpX := fun as S P PE => ∃ x, as = [x] ∧ gd n x = true ∧ bsel (f x) (P .non S) (PE C x S)
theorem len_chk {n : Nat} {f : A → Bool} {C : Addr} : ∀ as S P PE, sp_chk n f C as S P PE → as.length = 1 := by
  rintro as S P PE ⟨x, rfl, _⟩
  rfl
/-! ### check_square -/
abbrev s_check_square : Stmt := topS 15
theorem sc_check_square : FnScope ["worths"] ["worths"] (defScope s_check_square) := ⟨rfl, rfl, rfl, by decide +kernel, rfl, by decide +kernel, by decide +kernel⟩
theorem bd_check_square (kV doc pm : Value) (an : Option Addr) (cdv ct : Value) (us : List Value) (hl : us.length = (["worths"] : List Str).length) : bindArgs (PySem.W.fnOf "check_square" "check_square" (defArgs s_check_square) (defBody s_check_square) (defScope s_check_square) .none kV doc pm an cdv ct) ⟨us, []⟩ = pure ((["worths"] : List Str).zip us) :=
  match us, hl with | [_], _ => rfl
--len len_chk
theorem got_check_square {P : Program} {w : World} {K : PySem.W.Frag} {mg : Str → Option Value} {base : Heap} {f_InvalidWorths f_RentError f_are_square f_check_square : Addr} {Te : TabE} (B : Bi mg) (D : Def K mg "check_square" s_check_square f_check_square) (G_are_square : Got P w K mg base 4 ["value"] "are_square" s_are_square f_are_square sp_are_square) (M_InvalidWorths : mg "InvalidWorths" = some (.ref f_InvalidWorths)) (ET : ErrT P K mg f_RentError Te) (T_InvalidWorths : Te f_InvalidWorths = some "InvalidWorths") :
    GotX P w K mg base (4 + 1) ["worths"] "check_square" s_check_square f_check_square (sp_chk 7 sqW f_InvalidWorths) := by
  refine gotx_of D sc_check_square (len_chk) (bd_check_square) (fun cdv A0 outer s0_ H E hr tk hpo => ⟨_, (bx_one (sx_if (tt_not (tt_val (ea_call G_are_square (hr.mono (by omega)) (la_cons (ea_var 0) la_nil)))) (bx_one (sx_raise (k := 0) tk ET T_InvalidWorths (hr.mono (by omega)) (ea_var 0))) bx_nil)), fun as S P PE h => ?_⟩)
  obtain ⟨x, rfl, hk, k⟩ := h
  (try simp only [startN, List.map_cons, List.map_nil, List.length_cons, List.length_nil, Nat.reduceAdd, Nat.reduceSub, Nat.zero_add, Nat.sub_self, List.replicate_succ, List.replicate_zero, List.reduceReplicate, List.cons_append, List.nil_append, List.append_nil, ↓sRet, ↓sRetN, ↓sSeq, ↓sNil, ↓sIf, ↓sSet, ↓sPar, ↓sPar3, ↓sAsg, ↓sDrop, ↓sSetL, ↓eAnd, ↓eOr, ↓eNot, ↓eIf, ↓eNeg, ↓eCall, ↓eCallK, ↓eCallV, ↓lCons, ↓lNil, ↓eVar, ↓eC, ↓eTup, ↓eLst, ↓eLstC, ↓eOp, ↓eSl, ↓oNo, ↓oPart, ↓eBits, ↓tBool, ↓tAndA, ↓tOrA, ↓tNotA, ↓List.getElem?_cons_zero, ↓List.getElem?_cons_succ, ↓List.set_cons_zero, ↓List.set_cons_succ, ↓rInt, ↓rInt0, ↓rAddA, ↓rEqA, ↓rIsA, ↓rMax2A, ↓rMin2A, ↓rIntA, ↓rAbsA, bsel_true, bsel_false, wipeN, gNm, tYesA, ↓isNon, ↓isBlOf, ↓isI, ↓isB, ↓isS, ↓isT, ↓isL, Bool.or_false, Bool.or_true, Bool.false_or, Bool.true_or, ↓wList, ↓eLc, ↓rLenA, ↓sFor, ↓sWhile, ↓wRng1, ↓wRng2, ↓wTup, ↓wEnum, ↓eChain, ↓eListR1, ↓eLenSet, ↓eRev, ↓eInR, ↓eApp, ↓ePop, ↓eValue, ↓xDrop, ↓xRet, ↓xSet, ↓xCall, ↓xCallV, ↓sRaise, ↓eCallVL, ↓eLam3, startNF, Bool.not_true, Bool.not_false, Bool.false_eq_true, ↓reduceIte, Bool.not_not])
  refine ⟨x, rfl, hk, ?_⟩
  (try simp only [startN, List.map_cons, List.map_nil, List.length_cons, List.length_nil, Nat.reduceAdd, Nat.reduceSub, Nat.zero_add, Nat.sub_self, List.replicate_succ, List.replicate_zero, List.reduceReplicate, List.cons_append, List.nil_append, List.append_nil, ↓sRet, ↓sRetN, ↓sSeq, ↓sNil, ↓sIf, ↓sSet, ↓sPar, ↓sPar3, ↓sAsg, ↓sDrop, ↓sSetL, ↓eAnd, ↓eOr, ↓eNot, ↓eIf, ↓eNeg, ↓eCall, ↓eCallK, ↓eCallV, ↓lCons, ↓lNil, ↓eVar, ↓eC, ↓eTup, ↓eLst, ↓eLstC, ↓eOp, ↓eSl, ↓oNo, ↓oPart, ↓eBits, ↓tBool, ↓tAndA, ↓tOrA, ↓tNotA, ↓List.getElem?_cons_zero, ↓List.getElem?_cons_succ, ↓List.set_cons_zero, ↓List.set_cons_succ, ↓rInt, ↓rInt0, ↓rAddA, ↓rEqA, ↓rIsA, ↓rMax2A, ↓rMin2A, ↓rIntA, ↓rAbsA, bsel_true, bsel_false, wipeN, gNm, tYesA, ↓isNon, ↓isBlOf, ↓isI, ↓isB, ↓isS, ↓isT, ↓isL, Bool.or_false, Bool.or_true, Bool.false_or, Bool.true_or, ↓wList, ↓eLc, ↓rLenA, ↓sFor, ↓sWhile, ↓wRng1, ↓wRng2, ↓wTup, ↓wEnum, ↓eChain, ↓eListR1, ↓eLenSet, ↓eRev, ↓eInR, ↓eApp, ↓ePop, ↓eValue, ↓xDrop, ↓xRet, ↓xSet, ↓xCall, ↓xCallV, ↓sRaise, ↓eCallVL, ↓eLam3, startNF, Bool.not_true, Bool.not_false, Bool.false_eq_true, ↓reduceIte, Bool.not_not])
  cases e : sqW x with
  | true => rw [e] at k; (try simp only [startN, List.map_cons, List.map_nil, List.length_cons, List.length_nil, Nat.reduceAdd, Nat.reduceSub, Nat.zero_add, Nat.sub_self, List.replicate_succ, List.replicate_zero, List.reduceReplicate, List.cons_append, List.nil_append, List.append_nil, ↓sRet, ↓sRetN, ↓sSeq, ↓sNil, ↓sIf, ↓sSet, ↓sPar, ↓sPar3, ↓sAsg, ↓sDrop, ↓sSetL, ↓eAnd, ↓eOr, ↓eNot, ↓eIf, ↓eNeg, ↓eCall, ↓eCallK, ↓eCallV, ↓lCons, ↓lNil, ↓eVar, ↓eC, ↓eTup, ↓eLst, ↓eLstC, ↓eOp, ↓eSl, ↓oNo, ↓oPart, ↓eBits, ↓tBool, ↓tAndA, ↓tOrA, ↓tNotA, ↓List.getElem?_cons_zero, ↓List.getElem?_cons_succ, ↓List.set_cons_zero, ↓List.set_cons_succ, ↓rInt, ↓rInt0, ↓rAddA, ↓rEqA, ↓rIsA, ↓rMax2A, ↓rMin2A, ↓rIntA, ↓rAbsA, bsel_true, bsel_false, wipeN, gNm, tYesA, ↓isNon, ↓isBlOf, ↓isI, ↓isB, ↓isS, ↓isT, ↓isL, Bool.or_false, Bool.or_true, Bool.false_or, Bool.true_or, ↓wList, ↓eLc, ↓rLenA, ↓sFor, ↓sWhile, ↓wRng1, ↓wRng2, ↓wTup, ↓wEnum, ↓eChain, ↓eListR1, ↓eLenSet, ↓eRev, ↓eInR, ↓eApp, ↓ePop, ↓eValue, ↓xDrop, ↓xRet, ↓xSet, ↓xCall, ↓xCallV, ↓sRaise, ↓eCallVL, ↓eLam3, startNF, Bool.not_true, Bool.not_false, Bool.false_eq_true, ↓reduceIte, Bool.not_not]); exact k
  | false => rw [e] at k; (try simp only [startN, List.map_cons, List.map_nil, List.length_cons, List.length_nil, Nat.reduceAdd, Nat.reduceSub, Nat.zero_add, Nat.sub_self, List.replicate_succ, List.replicate_zero, List.reduceReplicate, List.cons_append, List.nil_append, List.append_nil, ↓sRet, ↓sRetN, ↓sSeq, ↓sNil, ↓sIf, ↓sSet, ↓sPar, ↓sPar3, ↓sAsg, ↓sDrop, ↓sSetL, ↓eAnd, ↓eOr, ↓eNot, ↓eIf, ↓eNeg, ↓eCall, ↓eCallK, ↓eCallV, ↓lCons, ↓lNil, ↓eVar, ↓eC, ↓eTup, ↓eLst, ↓eLstC, ↓eOp, ↓eSl, ↓oNo, ↓oPart, ↓eBits, ↓tBool, ↓tAndA, ↓tOrA, ↓tNotA, ↓List.getElem?_cons_zero, ↓List.getElem?_cons_succ, ↓List.set_cons_zero, ↓List.set_cons_succ, ↓rInt, ↓rInt0, ↓rAddA, ↓rEqA, ↓rIsA, ↓rMax2A, ↓rMin2A, ↓rIntA, ↓rAbsA, bsel_true, bsel_false, wipeN, gNm, tYesA, ↓isNon, ↓isBlOf, ↓isI, ↓isB, ↓isS, ↓isT, ↓isL, Bool.or_false, Bool.or_true, Bool.false_or, Bool.true_or, ↓wList, ↓eLc, ↓rLenA, ↓sFor, ↓sWhile, ↓wRng1, ↓wRng2, ↓wTup, ↓wEnum, ↓eChain, ↓eListR1, ↓eLenSet, ↓eRev, ↓eInR, ↓eApp, ↓ePop, ↓eValue, ↓xDrop, ↓xRet, ↓xSet, ↓xCall, ↓xCallV, ↓sRaise, ↓eCallVL, ↓eLam3, startNF, Bool.not_true, Bool.not_false, Bool.false_eq_true, ↓reduceIte, Bool.not_not]); exact k
/-- the ints of a list of ints -/
def intsA : List A → Option (List Int)
  | [] => some []
  | .int i :: xs => (intsA xs).map (i :: ·)
  | _ :: _ => none
theorem ints_bel {m : Int} : ∀ {xs : List A}, xs.all (belA m) = true → ∃ ns, intsA xs = some ns ∧ xs = ns.map .int
  | [], _ => ⟨[], rfl, rfl⟩
  | x :: xs, h => by
    rw [List.all_cons, Bool.and_eq_true] at h
    obtain ⟨ns, h1, h2⟩ := ints_bel h.2
    cases x with
    | int i => exact ⟨i :: ns, by unfold intsA; rw [h1]; rfl, by rw [h2]; rfl⟩
    | _ => cases h.1
/-- a deal of so many -/
def dealA (m : Nat) : A → Bool
  | .lst xs => decide (xs.length = m) && xs.all (belA m) && (match intsA xs with
    | some ns => decide (dist ns = m)
    | none => false)
  | _ => false
/-! ### is_deal_of -/
abbrev s_is_deal_of : Stmt := topS 16
theorem sc_is_deal_of : FnScope ["size", "value", "room"] ["size", "value"] (defScope s_is_deal_of) := ⟨rfl, rfl, rfl, by decide +kernel, rfl, by decide +kernel, by decide +kernel⟩
theorem bd_is_deal_of (kV doc pm : Value) (an : Option Addr) (cdv ct : Value) (us : List Value) (hl : us.length = (["size", "value"] : List Str).length) : bindArgs (PySem.W.fnOf "is_deal_of" "is_deal_of" (defArgs s_is_deal_of) (defBody s_is_deal_of) (defScope s_is_deal_of) .none kV doc pm an cdv ct) ⟨us, []⟩ = pure ((["size", "value"] : List Str).zip us) :=
  match us, hl with | [_, _], _ => rfl
def sp_is_deal_of : SpA := fun as S P => ∃ x, ∃ m : Nat, as = [.int (m : Int), x] ∧ m ≤ 1000 ∧ gd 6 x = true ∧ P (.bl (dealA m x)) S
--len by rintro as S P ⟨x, m, rfl, _⟩; rfl
theorem got_is_deal_of {P : Program} {w : World} {K : PySem.W.Frag} {mg : Str → Option Value} {base : Heap} {f_is_below f_is_deal_of : Addr} (B : Bi mg) (D : Def K mg "is_deal_of" s_is_deal_of f_is_deal_of) (G_is_below : Got P w K mg base 3 ["value", "bound"] "is_below" s_is_below f_is_below sp_is_below) :
    Got P w K mg base (3 + 1) ["size", "value"] "is_deal_of" s_is_deal_of f_is_deal_of sp_is_deal_of := by
  refine got_of D sc_is_deal_of (by rintro as S P ⟨x, m, rfl, _⟩; rfl) (bd_is_deal_of) (fun cdv A0 outer s0_ H E hr => ⟨_, (sb_cons (sa_if (tt_w (tw_or (tt_not (tt_val (ea_callB cx_isi B.isinstance_ (la_cons (ea_var 1) (la_cons (ea_ty "list" B.list_) la_nil))))) (tw_or1 (tt_cmp (oa_ne hr.units) (ea_callB cx_len B.len_ (la_cons (ea_var 1) la_nil)) (ea_var 0))))) (sb_one (sa_ret ea_bl)) sb_nil)
      (sb_cons (sa_if (tt_cmp (oa_ne hr.units) (ea_lc [("room", 2)] sc_is_deal_of.nd (ia_list (ea_var 1)) (by kernel_rfl) (fun _ _ _ _ _ => (ga_name 2 sc_is_deal_of.nd)) (fun _ _ _ _ _ => (tsa_one (tt_not (tt_val (ea_call G_is_below (hr.mono (by omega)) (la_cons (ea_var 2) (la_cons (ea_var 0) la_nil))))))) (fun _ _ _ _ _ => (ea_var 2))) (ea_lst la_nil)) (sb_one (sa_ret ea_bl)) sb_nil)
      (sb_one (sa_ret (ea_cmp (oa_eq hr.units) (ea_lenSet B.len_ B.set_ (ea_var 1)) (ea_var 0)))))), fun as S P h => ?_⟩)
  obtain ⟨x, m, rfl, hm, hk, k⟩ := h
  (try simp only [startN, List.map_cons, List.map_nil, List.length_cons, List.length_nil, Nat.reduceAdd, Nat.reduceSub, Nat.zero_add, Nat.sub_self, List.replicate_succ, List.replicate_zero, List.reduceReplicate, List.cons_append, List.nil_append, List.append_nil, ↓sRet, ↓sRetN, ↓sSeq, ↓sNil, ↓sIf, ↓sSet, ↓sPar, ↓sPar3, ↓sAsg, ↓sDrop, ↓sSetL, ↓eAnd, ↓eOr, ↓eNot, ↓eIf, ↓eNeg, ↓eCall, ↓eCallK, ↓eCallV, ↓lCons, ↓lNil, ↓eVar, ↓eC, ↓eTup, ↓eLst, ↓eLstC, ↓eOp, ↓eSl, ↓oNo, ↓oPart, ↓eBits, ↓tBool, ↓tAndA, ↓tOrA, ↓tNotA, ↓List.getElem?_cons_zero, ↓List.getElem?_cons_succ, ↓List.set_cons_zero, ↓List.set_cons_succ, ↓rInt, ↓rInt0, ↓rAddA, ↓rEqA, ↓rIsA, ↓rMax2A, ↓rMin2A, ↓rIntA, ↓rAbsA, bsel_true, bsel_false, wipeN, gNm, tYesA, ↓isNon, ↓isBlOf, ↓isI, ↓isB, ↓isS, ↓isT, ↓isL, Bool.or_false, Bool.or_true, Bool.false_or, Bool.true_or, ↓wList, ↓eLc, ↓rLenA, ↓sFor, ↓sWhile, ↓wRng1, ↓wRng2, ↓wTup, ↓wEnum, ↓eChain, ↓eListR1, ↓eLenSet, ↓eRev, ↓eInR, ↓eApp, ↓ePop, ↓eValue, ↓xDrop, ↓xRet, ↓xSet, ↓xCall, ↓xCallV, ↓sRaise, ↓eCallVL, ↓eLam3, startNF, Bool.not_true, Bool.not_false, Bool.false_eq_true, ↓reduceIte, Bool.not_not])
  refine isi_list (gd_kn hk) ?_
  cases x with
  | ref _ => exact absurd (gd_nr hk) (by unfold nr; decide)
  | ty _ => exact absurd (gd_nr hk) (by unfold nr; decide)
  | lst xs =>
    obtain ⟨hg, hl⟩ := gd_lst hk
    simp only [dealA] at k
    (try simp only [startN, List.map_cons, List.map_nil, List.length_cons, List.length_nil, Nat.reduceAdd, Nat.reduceSub, Nat.zero_add, Nat.sub_self, List.replicate_succ, List.replicate_zero, List.reduceReplicate, List.cons_append, List.nil_append, List.append_nil, ↓sRet, ↓sRetN, ↓sSeq, ↓sNil, ↓sIf, ↓sSet, ↓sPar, ↓sPar3, ↓sAsg, ↓sDrop, ↓sSetL, ↓eAnd, ↓eOr, ↓eNot, ↓eIf, ↓eNeg, ↓eCall, ↓eCallK, ↓eCallV, ↓lCons, ↓lNil, ↓eVar, ↓eC, ↓eTup, ↓eLst, ↓eLstC, ↓eOp, ↓eSl, ↓oNo, ↓oPart, ↓eBits, ↓tBool, ↓tAndA, ↓tOrA, ↓tNotA, ↓List.getElem?_cons_zero, ↓List.getElem?_cons_succ, ↓List.set_cons_zero, ↓List.set_cons_succ, ↓rInt, ↓rInt0, ↓rAddA, ↓rEqA, ↓rIsA, ↓rMax2A, ↓rMin2A, ↓rIntA, ↓rAbsA, bsel_true, bsel_false, wipeN, gNm, tYesA, ↓isNon, ↓isBlOf, ↓isI, ↓isB, ↓isS, ↓isT, ↓isL, Bool.or_false, Bool.or_true, Bool.false_or, Bool.true_or, ↓wList, ↓eLc, ↓rLenA, ↓sFor, ↓sWhile, ↓wRng1, ↓wRng2, ↓wTup, ↓wEnum, ↓eChain, ↓eListR1, ↓eLenSet, ↓eRev, ↓eInR, ↓eApp, ↓ePop, ↓eValue, ↓xDrop, ↓xRet, ↓xSet, ↓xCall, ↓xCallV, ↓sRaise, ↓eCallVL, ↓eLam3, startNF, Bool.not_true, Bool.not_false, Bool.false_eq_true, ↓reduceIte, Bool.not_not])
    refine ⟨xs, rfl, ?_⟩
    (try simp only [startN, List.map_cons, List.map_nil, List.length_cons, List.length_nil, Nat.reduceAdd, Nat.reduceSub, Nat.zero_add, Nat.sub_self, List.replicate_succ, List.replicate_zero, List.reduceReplicate, List.cons_append, List.nil_append, List.append_nil, ↓sRet, ↓sRetN, ↓sSeq, ↓sNil, ↓sIf, ↓sSet, ↓sPar, ↓sPar3, ↓sAsg, ↓sDrop, ↓sSetL, ↓eAnd, ↓eOr, ↓eNot, ↓eIf, ↓eNeg, ↓eCall, ↓eCallK, ↓eCallV, ↓lCons, ↓lNil, ↓eVar, ↓eC, ↓eTup, ↓eLst, ↓eLstC, ↓eOp, ↓eSl, ↓oNo, ↓oPart, ↓eBits, ↓tBool, ↓tAndA, ↓tOrA, ↓tNotA, ↓List.getElem?_cons_zero, ↓List.getElem?_cons_succ, ↓List.set_cons_zero, ↓List.set_cons_succ, ↓rInt, ↓rInt0, ↓rAddA, ↓rEqA, ↓rIsA, ↓rMax2A, ↓rMin2A, ↓rIntA, ↓rAbsA, bsel_true, bsel_false, wipeN, gNm, tYesA, ↓isNon, ↓isBlOf, ↓isI, ↓isB, ↓isS, ↓isT, ↓isL, Bool.or_false, Bool.or_true, Bool.false_or, Bool.true_or, ↓wList, ↓eLc, ↓rLenA, ↓sFor, ↓sWhile, ↓wRng1, ↓wRng2, ↓wTup, ↓wEnum, ↓eChain, ↓eListR1, ↓eLenSet, ↓eRev, ↓eInR, ↓eApp, ↓ePop, ↓eValue, ↓xDrop, ↓xRet, ↓xSet, ↓xCall, ↓xCallV, ↓sRaise, ↓eCallVL, ↓eLam3, startNF, Bool.not_true, Bool.not_false, Bool.false_eq_true, ↓reduceIte, Bool.not_not])
    refine bsel_i (fun h => ?_) fun h => ?_
    · have hn : ¬ xs.length = m := fun z => by rw [z] at h; simp at h
      rw [decide_eq_false hn, Bool.false_and, Bool.false_and] at k
      exact k
    · have he : xs.length = m := by
        have z := of_decide_eq_true (by simpa using h : decide ((xs.length : Int) = (m : Int)) = true)
        omega
      rw [decide_eq_true he, Bool.true_and] at k
      refine ⟨xs, rfl, hl, fun i acc S' => S' = S ∧ acc = (xs.take i).filter fun x => !belA m x, ⟨rfl, rfl⟩, fun _ _ _ _ h => by obtain ⟨rfl, _⟩ := h; rfl, ?_, ?_⟩
      · rintro i x acc S' hx ⟨rfl, rfl⟩
        (try simp only [startN, List.map_cons, List.map_nil, List.length_cons, List.length_nil, Nat.reduceAdd, Nat.reduceSub, Nat.zero_add, Nat.sub_self, List.replicate_succ, List.replicate_zero, List.reduceReplicate, List.cons_append, List.nil_append, List.append_nil, ↓sRet, ↓sRetN, ↓sSeq, ↓sNil, ↓sIf, ↓sSet, ↓sPar, ↓sPar3, ↓sAsg, ↓sDrop, ↓sSetL, ↓eAnd, ↓eOr, ↓eNot, ↓eIf, ↓eNeg, ↓eCall, ↓eCallK, ↓eCallV, ↓lCons, ↓lNil, ↓eVar, ↓eC, ↓eTup, ↓eLst, ↓eLstC, ↓eOp, ↓eSl, ↓oNo, ↓oPart, ↓eBits, ↓tBool, ↓tAndA, ↓tOrA, ↓tNotA, ↓List.getElem?_cons_zero, ↓List.getElem?_cons_succ, ↓List.set_cons_zero, ↓List.set_cons_succ, ↓rInt, ↓rInt0, ↓rAddA, ↓rEqA, ↓rIsA, ↓rMax2A, ↓rMin2A, ↓rIntA, ↓rAbsA, bsel_true, bsel_false, wipeN, gNm, tYesA, ↓isNon, ↓isBlOf, ↓isI, ↓isB, ↓isS, ↓isT, ↓isL, Bool.or_false, Bool.or_true, Bool.false_or, Bool.true_or, ↓wList, ↓eLc, ↓rLenA, ↓sFor, ↓sWhile, ↓wRng1, ↓wRng2, ↓wTup, ↓wEnum, ↓eChain, ↓eListR1, ↓eLenSet, ↓eRev, ↓eInR, ↓eApp, ↓ePop, ↓eValue, ↓xDrop, ↓xRet, ↓xSet, ↓xCall, ↓xCallV, ↓sRaise, ↓eCallVL, ↓eLam3, startNF, Bool.not_true, Bool.not_false, Bool.false_eq_true, ↓reduceIte, Bool.not_not])
        rw [filt_succ hx]
        refine ⟨x, m, rfl, gd_kn (gds_get hg hx), ?_⟩
        cases belA m x <;> (try simp only [startN, List.map_cons, List.map_nil, List.length_cons, List.length_nil, Nat.reduceAdd, Nat.reduceSub, Nat.zero_add, Nat.sub_self, List.replicate_succ, List.replicate_zero, List.reduceReplicate, List.cons_append, List.nil_append, List.append_nil, ↓sRet, ↓sRetN, ↓sSeq, ↓sNil, ↓sIf, ↓sSet, ↓sPar, ↓sPar3, ↓sAsg, ↓sDrop, ↓sSetL, ↓eAnd, ↓eOr, ↓eNot, ↓eIf, ↓eNeg, ↓eCall, ↓eCallK, ↓eCallV, ↓lCons, ↓lNil, ↓eVar, ↓eC, ↓eTup, ↓eLst, ↓eLstC, ↓eOp, ↓eSl, ↓oNo, ↓oPart, ↓eBits, ↓tBool, ↓tAndA, ↓tOrA, ↓tNotA, ↓List.getElem?_cons_zero, ↓List.getElem?_cons_succ, ↓List.set_cons_zero, ↓List.set_cons_succ, ↓rInt, ↓rInt0, ↓rAddA, ↓rEqA, ↓rIsA, ↓rMax2A, ↓rMin2A, ↓rIntA, ↓rAbsA, bsel_true, bsel_false, wipeN, gNm, tYesA, ↓isNon, ↓isBlOf, ↓isI, ↓isB, ↓isS, ↓isT, ↓isL, Bool.or_false, Bool.or_true, Bool.false_or, Bool.true_or, ↓wList, ↓eLc, ↓rLenA, ↓sFor, ↓sWhile, ↓wRng1, ↓wRng2, ↓wTup, ↓wEnum, ↓eChain, ↓eListR1, ↓eLenSet, ↓eRev, ↓eInR, ↓eApp, ↓ePop, ↓eValue, ↓xDrop, ↓xRet, ↓xSet, ↓xCall, ↓xCallV, ↓sRaise, ↓eCallVL, ↓eLam3, startNF, Bool.not_true, Bool.not_false, Bool.false_eq_true, ↓reduceIte, Bool.not_not]) <;> (first | exact ⟨trivial, rfl⟩ | exact ⟨trivial, trivial⟩ | exact ⟨rfl, rfl⟩)
      · rintro acc S' ⟨rfl, rfl⟩
        rw [List.take_length]
        refine rEqD_gd (gds_filt hg) (by decide) ?_
        rw [filt_emp]
        simp only [Bool.not_not]
        (try simp only [startN, List.map_cons, List.map_nil, List.length_cons, List.length_nil, Nat.reduceAdd, Nat.reduceSub, Nat.zero_add, Nat.sub_self, List.replicate_succ, List.replicate_zero, List.reduceReplicate, List.cons_append, List.nil_append, List.append_nil, ↓sRet, ↓sRetN, ↓sSeq, ↓sNil, ↓sIf, ↓sSet, ↓sPar, ↓sPar3, ↓sAsg, ↓sDrop, ↓sSetL, ↓eAnd, ↓eOr, ↓eNot, ↓eIf, ↓eNeg, ↓eCall, ↓eCallK, ↓eCallV, ↓lCons, ↓lNil, ↓eVar, ↓eC, ↓eTup, ↓eLst, ↓eLstC, ↓eOp, ↓eSl, ↓oNo, ↓oPart, ↓eBits, ↓tBool, ↓tAndA, ↓tOrA, ↓tNotA, ↓List.getElem?_cons_zero, ↓List.getElem?_cons_succ, ↓List.set_cons_zero, ↓List.set_cons_succ, ↓rInt, ↓rInt0, ↓rAddA, ↓rEqA, ↓rIsA, ↓rMax2A, ↓rMin2A, ↓rIntA, ↓rAbsA, bsel_true, bsel_false, wipeN, gNm, tYesA, ↓isNon, ↓isBlOf, ↓isI, ↓isB, ↓isS, ↓isT, ↓isL, Bool.or_false, Bool.or_true, Bool.false_or, Bool.true_or, ↓wList, ↓eLc, ↓rLenA, ↓sFor, ↓sWhile, ↓wRng1, ↓wRng2, ↓wTup, ↓wEnum, ↓eChain, ↓eListR1, ↓eLenSet, ↓eRev, ↓eInR, ↓eApp, ↓ePop, ↓eValue, ↓xDrop, ↓xRet, ↓xSet, ↓xCall, ↓xCallV, ↓sRaise, ↓eCallVL, ↓eLam3, startNF, Bool.not_true, Bool.not_false, Bool.false_eq_true, ↓reduceIte, Bool.not_not])
        cases ea : xs.all (fun x => belA m x) with
        | false => rw [show xs.all (belA m) = false from ea, Bool.false_and] at k; (try simp only [startN, List.map_cons, List.map_nil, List.length_cons, List.length_nil, Nat.reduceAdd, Nat.reduceSub, Nat.zero_add, Nat.sub_self, List.replicate_succ, List.replicate_zero, List.reduceReplicate, List.cons_append, List.nil_append, List.append_nil, ↓sRet, ↓sRetN, ↓sSeq, ↓sNil, ↓sIf, ↓sSet, ↓sPar, ↓sPar3, ↓sAsg, ↓sDrop, ↓sSetL, ↓eAnd, ↓eOr, ↓eNot, ↓eIf, ↓eNeg, ↓eCall, ↓eCallK, ↓eCallV, ↓lCons, ↓lNil, ↓eVar, ↓eC, ↓eTup, ↓eLst, ↓eLstC, ↓eOp, ↓eSl, ↓oNo, ↓oPart, ↓eBits, ↓tBool, ↓tAndA, ↓tOrA, ↓tNotA, ↓List.getElem?_cons_zero, ↓List.getElem?_cons_succ, ↓List.set_cons_zero, ↓List.set_cons_succ, ↓rInt, ↓rInt0, ↓rAddA, ↓rEqA, ↓rIsA, ↓rMax2A, ↓rMin2A, ↓rIntA, ↓rAbsA, bsel_true, bsel_false, wipeN, gNm, tYesA, ↓isNon, ↓isBlOf, ↓isI, ↓isB, ↓isS, ↓isT, ↓isL, Bool.or_false, Bool.or_true, Bool.false_or, Bool.true_or, ↓wList, ↓eLc, ↓rLenA, ↓sFor, ↓sWhile, ↓wRng1, ↓wRng2, ↓wTup, ↓wEnum, ↓eChain, ↓eListR1, ↓eLenSet, ↓eRev, ↓eInR, ↓eApp, ↓ePop, ↓eValue, ↓xDrop, ↓xRet, ↓xSet, ↓xCall, ↓xCallV, ↓sRaise, ↓eCallVL, ↓eLam3, startNF, Bool.not_true, Bool.not_false, Bool.false_eq_true, ↓reduceIte, Bool.not_not]); exact k
        | true =>
          obtain ⟨ns, h1, h2⟩ := ints_bel ea
          rw [show xs.all (belA m) = true from ea, Bool.true_and, h1] at k
          (try simp only [startN, List.map_cons, List.map_nil, List.length_cons, List.length_nil, Nat.reduceAdd, Nat.reduceSub, Nat.zero_add, Nat.sub_self, List.replicate_succ, List.replicate_zero, List.reduceReplicate, List.cons_append, List.nil_append, List.append_nil, ↓sRet, ↓sRetN, ↓sSeq, ↓sNil, ↓sIf, ↓sSet, ↓sPar, ↓sPar3, ↓sAsg, ↓sDrop, ↓sSetL, ↓eAnd, ↓eOr, ↓eNot, ↓eIf, ↓eNeg, ↓eCall, ↓eCallK, ↓eCallV, ↓lCons, ↓lNil, ↓eVar, ↓eC, ↓eTup, ↓eLst, ↓eLstC, ↓eOp, ↓eSl, ↓oNo, ↓oPart, ↓eBits, ↓tBool, ↓tAndA, ↓tOrA, ↓tNotA, ↓List.getElem?_cons_zero, ↓List.getElem?_cons_succ, ↓List.set_cons_zero, ↓List.set_cons_succ, ↓rInt, ↓rInt0, ↓rAddA, ↓rEqA, ↓rIsA, ↓rMax2A, ↓rMin2A, ↓rIntA, ↓rAbsA, bsel_true, bsel_false, wipeN, gNm, tYesA, ↓isNon, ↓isBlOf, ↓isI, ↓isB, ↓isS, ↓isT, ↓isL, Bool.or_false, Bool.or_true, Bool.false_or, Bool.true_or, ↓wList, ↓eLc, ↓rLenA, ↓sFor, ↓sWhile, ↓wRng1, ↓wRng2, ↓wTup, ↓wEnum, ↓eChain, ↓eListR1, ↓eLenSet, ↓eRev, ↓eInR, ↓eApp, ↓ePop, ↓eValue, ↓xDrop, ↓xRet, ↓xSet, ↓xCall, ↓xCallV, ↓sRaise, ↓eCallVL, ↓eLam3, startNF, Bool.not_true, Bool.not_false, Bool.false_eq_true, ↓reduceIte, Bool.not_not])
          refine ⟨ns, by rw [h2]; rfl, by rw [h2, List.length_map] at he; omega, ?_⟩
          have e2 : decide ((dist ns : Int) = (m : Int)) = decide (dist ns = m) := by rw [decide_eq_decide]; omega
          (try simp only [startN, List.map_cons, List.map_nil, List.length_cons, List.length_nil, Nat.reduceAdd, Nat.reduceSub, Nat.zero_add, Nat.sub_self, List.replicate_succ, List.replicate_zero, List.reduceReplicate, List.cons_append, List.nil_append, List.append_nil, ↓sRet, ↓sRetN, ↓sSeq, ↓sNil, ↓sIf, ↓sSet, ↓sPar, ↓sPar3, ↓sAsg, ↓sDrop, ↓sSetL, ↓eAnd, ↓eOr, ↓eNot, ↓eIf, ↓eNeg, ↓eCall, ↓eCallK, ↓eCallV, ↓lCons, ↓lNil, ↓eVar, ↓eC, ↓eTup, ↓eLst, ↓eLstC, ↓eOp, ↓eSl, ↓oNo, ↓oPart, ↓eBits, ↓tBool, ↓tAndA, ↓tOrA, ↓tNotA, ↓List.getElem?_cons_zero, ↓List.getElem?_cons_succ, ↓List.set_cons_zero, ↓List.set_cons_succ, ↓rInt, ↓rInt0, ↓rAddA, ↓rEqA, ↓rIsA, ↓rMax2A, ↓rMin2A, ↓rIntA, ↓rAbsA, bsel_true, bsel_false, wipeN, gNm, tYesA, ↓isNon, ↓isBlOf, ↓isI, ↓isB, ↓isS, ↓isT, ↓isL, Bool.or_false, Bool.or_true, Bool.false_or, Bool.true_or, ↓wList, ↓eLc, ↓rLenA, ↓sFor, ↓sWhile, ↓wRng1, ↓wRng2, ↓wTup, ↓wEnum, ↓eChain, ↓eListR1, ↓eLenSet, ↓eRev, ↓eInR, ↓eApp, ↓ePop, ↓eValue, ↓xDrop, ↓xRet, ↓xSet, ↓xCall, ↓xCallV, ↓sRaise, ↓eCallVL, ↓eLam3, startNF, Bool.not_true, Bool.not_false, Bool.false_eq_true, ↓reduceIte, Bool.not_not])
          rw [e2]
          exact k
  | _ => (try simp only [startN, List.map_cons, List.map_nil, List.length_cons, List.length_nil, Nat.reduceAdd, Nat.reduceSub, Nat.zero_add, Nat.sub_self, List.replicate_succ, List.replicate_zero, List.reduceReplicate, List.cons_append, List.nil_append, List.append_nil, ↓sRet, ↓sRetN, ↓sSeq, ↓sNil, ↓sIf, ↓sSet, ↓sPar, ↓sPar3, ↓sAsg, ↓sDrop, ↓sSetL, ↓eAnd, ↓eOr, ↓eNot, ↓eIf, ↓eNeg, ↓eCall, ↓eCallK, ↓eCallV, ↓lCons, ↓lNil, ↓eVar, ↓eC, ↓eTup, ↓eLst, ↓eLstC, ↓eOp, ↓eSl, ↓oNo, ↓oPart, ↓eBits, ↓tBool, ↓tAndA, ↓tOrA, ↓tNotA, ↓List.getElem?_cons_zero, ↓List.getElem?_cons_succ, ↓List.set_cons_zero, ↓List.set_cons_succ, ↓rInt, ↓rInt0, ↓rAddA, ↓rEqA, ↓rIsA, ↓rMax2A, ↓rMin2A, ↓rIntA, ↓rAbsA, bsel_true, bsel_false, wipeN, gNm, tYesA, ↓isNon, ↓isBlOf, ↓isI, ↓isB, ↓isS, ↓isT, ↓isL, Bool.or_false, Bool.or_true, Bool.false_or, Bool.true_or, ↓wList, ↓eLc, ↓rLenA, ↓sFor, ↓sWhile, ↓wRng1, ↓wRng2, ↓wTup, ↓wEnum, ↓eChain, ↓eListR1, ↓eLenSet, ↓eRev, ↓eInR, ↓eApp, ↓ePop, ↓eValue, ↓xDrop, ↓xRet, ↓xSet, ↓xCall, ↓xCallV, ↓sRaise, ↓eCallVL, ↓eLam3, startNF, Bool.not_true, Bool.not_false, Bool.false_eq_true, ↓reduceIte, Bool.not_not]); exact k
/-! ### check_deal -/
abbrev s_check_deal : Stmt := topS 17
theorem sc_check_deal : FnScope ["size", "deal"] ["size", "deal"] (defScope s_check_deal) := ⟨rfl, rfl, rfl, by decide +kernel, rfl, by decide +kernel, by decide +kernel⟩
theorem bd_check_deal (kV doc pm : Value) (an : Option Addr) (cdv ct : Value) (us : List Value) (hl : us.length = (["size", "deal"] : List Str).length) : bindArgs (PySem.W.fnOf "check_deal" "check_deal" (defArgs s_check_deal) (defBody s_check_deal) (defScope s_check_deal) .none kV doc pm an cdv ct) ⟨us, []⟩ = pure ((["size", "deal"] : List Str).zip us) :=
  match us, hl with | [_, _], _ => rfl
def sp_chkd (C : Addr) : SpX := fun as S P PE => ∃ x, ∃ m : Nat, as = [.int (m : Int), x] ∧ m ≤ 1000 ∧ gd 6 x = true ∧ bsel (dealA m x) (P .non S) (PE C x S)
--len by rintro as S P PE ⟨x, m, rfl, _⟩; rfl
theorem got_check_deal {P : Program} {w : World} {K : PySem.W.Frag} {mg : Str → Option Value} {base : Heap} {f_InvalidDeal f_RentError f_check_deal f_is_deal_of : Addr} {Te : TabE} (B : Bi mg) (D : Def K mg "check_deal" s_check_deal f_check_deal) (G_is_deal_of : Got P w K mg base 4 ["size", "value"] "is_deal_of" s_is_deal_of f_is_deal_of sp_is_deal_of) (M_InvalidDeal : mg "InvalidDeal" = some (.ref f_InvalidDeal)) (ET : ErrT P K mg f_RentError Te) (T_InvalidDeal : Te f_InvalidDeal = some "InvalidDeal") :
    GotX P w K mg base (4 + 1) ["size", "deal"] "check_deal" s_check_deal f_check_deal (sp_chkd f_InvalidDeal) := by
  refine gotx_of D sc_check_deal (by rintro as S P PE ⟨x, m, rfl, _⟩; rfl) (bd_check_deal) (fun cdv A0 outer s0_ H E hr tk hpo => ⟨_, (bx_one (sx_if (tt_not (tt_val (ea_call G_is_deal_of (hr.mono (by omega)) (la_cons (ea_var 0) (la_cons (ea_var 1) la_nil))))) (bx_one (sx_raise (k := 0) tk ET T_InvalidDeal (hr.mono (by omega)) (ea_var 1))) bx_nil)), fun as S P PE h => ?_⟩)
  obtain ⟨x, m, rfl, hm, hk, k⟩ := h
  (try simp only [startN, List.map_cons, List.map_nil, List.length_cons, List.length_nil, Nat.reduceAdd, Nat.reduceSub, Nat.zero_add, Nat.sub_self, List.replicate_succ, List.replicate_zero, List.reduceReplicate, List.cons_append, List.nil_append, List.append_nil, ↓sRet, ↓sRetN, ↓sSeq, ↓sNil, ↓sIf, ↓sSet, ↓sPar, ↓sPar3, ↓sAsg, ↓sDrop, ↓sSetL, ↓eAnd, ↓eOr, ↓eNot, ↓eIf, ↓eNeg, ↓eCall, ↓eCallK, ↓eCallV, ↓lCons, ↓lNil, ↓eVar, ↓eC, ↓eTup, ↓eLst, ↓eLstC, ↓eOp, ↓eSl, ↓oNo, ↓oPart, ↓eBits, ↓tBool, ↓tAndA, ↓tOrA, ↓tNotA, ↓List.getElem?_cons_zero, ↓List.getElem?_cons_succ, ↓List.set_cons_zero, ↓List.set_cons_succ, ↓rInt, ↓rInt0, ↓rAddA, ↓rEqA, ↓rIsA, ↓rMax2A, ↓rMin2A, ↓rIntA, ↓rAbsA, bsel_true, bsel_false, wipeN, gNm, tYesA, ↓isNon, ↓isBlOf, ↓isI, ↓isB, ↓isS, ↓isT, ↓isL, Bool.or_false, Bool.or_true, Bool.false_or, Bool.true_or, ↓wList, ↓eLc, ↓rLenA, ↓sFor, ↓sWhile, ↓wRng1, ↓wRng2, ↓wTup, ↓wEnum, ↓eChain, ↓eListR1, ↓eLenSet, ↓eRev, ↓eInR, ↓eApp, ↓ePop, ↓eValue, ↓xDrop, ↓xRet, ↓xSet, ↓xCall, ↓xCallV, ↓sRaise, ↓eCallVL, ↓eLam3, startNF, Bool.not_true, Bool.not_false, Bool.false_eq_true, ↓reduceIte, Bool.not_not])
  refine ⟨x, m, rfl, hm, hk, ?_⟩
  (try simp only [startN, List.map_cons, List.map_nil, List.length_cons, List.length_nil, Nat.reduceAdd, Nat.reduceSub, Nat.zero_add, Nat.sub_self, List.replicate_succ, List.replicate_zero, List.reduceReplicate, List.cons_append, List.nil_append, List.append_nil, ↓sRet, ↓sRetN, ↓sSeq, ↓sNil, ↓sIf, ↓sSet, ↓sPar, ↓sPar3, ↓sAsg, ↓sDrop, ↓sSetL, ↓eAnd, ↓eOr, ↓eNot, ↓eIf, ↓eNeg, ↓eCall, ↓eCallK, ↓eCallV, ↓lCons, ↓lNil, ↓eVar, ↓eC, ↓eTup, ↓eLst, ↓eLstC, ↓eOp, ↓eSl, ↓oNo, ↓oPart, ↓eBits, ↓tBool, ↓tAndA, ↓tOrA, ↓tNotA, ↓List.getElem?_cons_zero, ↓List.getElem?_cons_succ, ↓List.set_cons_zero, ↓List.set_cons_succ, ↓rInt, ↓rInt0, ↓rAddA, ↓rEqA, ↓rIsA, ↓rMax2A, ↓rMin2A, ↓rIntA, ↓rAbsA, bsel_true, bsel_false, wipeN, gNm, tYesA, ↓isNon, ↓isBlOf, ↓isI, ↓isB, ↓isS, ↓isT, ↓isL, Bool.or_false, Bool.or_true, Bool.false_or, Bool.true_or, ↓wList, ↓eLc, ↓rLenA, ↓sFor, ↓sWhile, ↓wRng1, ↓wRng2, ↓wTup, ↓wEnum, ↓eChain, ↓eListR1, ↓eLenSet, ↓eRev, ↓eInR, ↓eApp, ↓ePop, ↓eValue, ↓xDrop, ↓xRet, ↓xSet, ↓xCall, ↓xCallV, ↓sRaise, ↓eCallVL, ↓eLam3, startNF, Bool.not_true, Bool.not_false, Bool.false_eq_true, ↓reduceIte, Bool.not_not])
  cases e : dealA m x with
  | true => rw [e] at k; (try simp only [startN, List.map_cons, List.map_nil, List.length_cons, List.length_nil, Nat.reduceAdd, Nat.reduceSub, Nat.zero_add, Nat.sub_self, List.replicate_succ, List.replicate_zero, List.reduceReplicate, List.cons_append, List.nil_append, List.append_nil, ↓sRet, ↓sRetN, ↓sSeq, ↓sNil, ↓sIf, ↓sSet, ↓sPar, ↓sPar3, ↓sAsg, ↓sDrop, ↓sSetL, ↓eAnd, ↓eOr, ↓eNot, ↓eIf, ↓eNeg, ↓eCall, ↓eCallK, ↓eCallV, ↓lCons, ↓lNil, ↓eVar, ↓eC, ↓eTup, ↓eLst, ↓eLstC, ↓eOp, ↓eSl, ↓oNo, ↓oPart, ↓eBits, ↓tBool, ↓tAndA, ↓tOrA, ↓tNotA, ↓List.getElem?_cons_zero, ↓List.getElem?_cons_succ, ↓List.set_cons_zero, ↓List.set_cons_succ, ↓rInt, ↓rInt0, ↓rAddA, ↓rEqA, ↓rIsA, ↓rMax2A, ↓rMin2A, ↓rIntA, ↓rAbsA, bsel_true, bsel_false, wipeN, gNm, tYesA, ↓isNon, ↓isBlOf, ↓isI, ↓isB, ↓isS, ↓isT, ↓isL, Bool.or_false, Bool.or_true, Bool.false_or, Bool.true_or, ↓wList, ↓eLc, ↓rLenA, ↓sFor, ↓sWhile, ↓wRng1, ↓wRng2, ↓wTup, ↓wEnum, ↓eChain, ↓eListR1, ↓eLenSet, ↓eRev, ↓eInR, ↓eApp, ↓ePop, ↓eValue, ↓xDrop, ↓xRet, ↓xSet, ↓xCall, ↓xCallV, ↓sRaise, ↓eCallVL, ↓eLam3, startNF, Bool.not_true, Bool.not_false, Bool.false_eq_true, ↓reduceIte, Bool.not_not]); exact k
  | false => rw [e] at k; (try simp only [startN, List.map_cons, List.map_nil, List.length_cons, List.length_nil, Nat.reduceAdd, Nat.reduceSub, Nat.zero_add, Nat.sub_self, List.replicate_succ, List.replicate_zero, List.reduceReplicate, List.cons_append, List.nil_append, List.append_nil, ↓sRet, ↓sRetN, ↓sSeq, ↓sNil, ↓sIf, ↓sSet, ↓sPar, ↓sPar3, ↓sAsg, ↓sDrop, ↓sSetL, ↓eAnd, ↓eOr, ↓eNot, ↓eIf, ↓eNeg, ↓eCall, ↓eCallK, ↓eCallV, ↓lCons, ↓lNil, ↓eVar, ↓eC, ↓eTup, ↓eLst, ↓eLstC, ↓eOp, ↓eSl, ↓oNo, ↓oPart, ↓eBits, ↓tBool, ↓tAndA, ↓tOrA, ↓tNotA, ↓List.getElem?_cons_zero, ↓List.getElem?_cons_succ, ↓List.set_cons_zero, ↓List.set_cons_succ, ↓rInt, ↓rInt0, ↓rAddA, ↓rEqA, ↓rIsA, ↓rMax2A, ↓rMin2A, ↓rIntA, ↓rAbsA, bsel_true, bsel_false, wipeN, gNm, tYesA, ↓isNon, ↓isBlOf, ↓isI, ↓isB, ↓isS, ↓isT, ↓isL, Bool.or_false, Bool.or_true, Bool.false_or, Bool.true_or, ↓wList, ↓eLc, ↓rLenA, ↓sFor, ↓sWhile, ↓wRng1, ↓wRng2, ↓wTup, ↓wEnum, ↓eChain, ↓eListR1, ↓eLenSet, ↓eRev, ↓eInR, ↓eApp, ↓ePop, ↓eValue, ↓xDrop, ↓xRet, ↓xSet, ↓xCall, ↓xCallV, ↓sRaise, ↓eCallVL, ↓eLam3, startNF, Bool.not_true, Bool.not_false, Bool.false_eq_true, ↓reduceIte, Bool.not_not]); exact k
def prcA (m : Nat) : A → Bool
  | .lst xs => decide (xs.length = m) && xs.all isFrA
  | _ => false
def sp_are_prices_of : SpA := fun as S P => ∃ x, ∃ m : Nat, as = [.int (m : Int), x] ∧ gd 6 x = true ∧ P (.bl (prcA m x)) S
theorem sq_len {ws : List A} (h : sqW (.lst ws) = true) : ws.length ≤ 12 ∧ 1 ≤ ws.length := by
  cases e : wideA (.lst ws) with
  | none => unfold sqW at h; rw [e] at h; cases h
  | some m =>
    obtain ⟨r', rs, e1, h1, _⟩ := wide_some e
    cases e1
    simp
    omega
/-- check_square(worths), then a test of the size and the value -/
def sp_chk2 (f : Nat → A → Bool) (C : Addr) : SpX := fun as S P PE => ∃ w x, as = [w, x] ∧ gd 7 w = true ∧ (sqW w = true → gd 6 x = true) ∧ bsel (sqW w) (∃ r, w = .lst r ∧ P (.bl (f r.length x)) S) (PE C w S)

/-- the worth of a person's room -/
def wAt (ws : List A) (i : Nat) (j : Int) : Int := match ws[i]? with
  | some (.lst r) => match r[j.toNat]? with
    | some (.int v) => v
    | _ => 0
  | _ => 0
/-- the sum of a deal -/
def sumA (ws : List A) (ns : List Int) : Int := ((List.range ns.length).map fun i => wAt ws i (ns.getD i 0)).sum
/-- square worths, read -/
theorem sq_row {ws : List A} (h : sqW (.lst ws) = true) {i : Nat} {r : A} (e : ws[i]? = some r) : ∃ xs, r = .lst xs ∧ xs.length = ws.length ∧ ∀ x ∈ xs, ∃ v, x = .int v := by
  unfold sqW at h
  split at h
  · rename_i m xs e2 e3
    cases e3
    rw [Bool.and_eq_true, decide_eq_true_eq, List.all_eq_true] at h
    have q := h.1 r (List.mem_of_getElem? e)
    cases r with
    | lst ys =>
      simp only [rowA, Bool.and_eq_true, decide_eq_true_eq, List.all_eq_true] at q
      refine ⟨ys, rfl, by omega, fun x hx => ?_⟩
      have z := q.2 x hx
      cases x with
      | int v => exact ⟨v, rfl⟩
      | _ => cases z
    | _ => cases q
  · cases h
theorem wAt_get {ws : List A} (h : sqW (.lst ws) = true) {i : Nat} {j : Int} (hi : i < ws.length) (h0 : 0 ≤ j) (h1 : j < ws.length) : ∃ r, ws[i]? = some (.lst r) ∧ atI r j = some (.int (wAt ws i j)) := by
  obtain ⟨xs, e, hl, hx⟩ := sq_row h (List.getElem?_eq_getElem hi)
  have hj : j.toNat < xs.length := by omega
  obtain ⟨v, hv⟩ := hx xs[j.toNat] (List.getElem_mem hj)
  refine ⟨xs, by rw [List.getElem?_eq_getElem hi, e], atI_pos h0 ?_⟩
  unfold wAt
  rw [List.getElem?_eq_getElem hi, e]
  show _ = some (A.int (match xs[j.toNat]? with | some (.int v) => v | _ => 0))
  rw [List.getElem?_eq_getElem hj, hv]
/-- worths and a deal of them -/
def sp_sum : SpA := fun as S P => ∃ ws : List A, ∃ ns : List Int, as = [.lst ws, .lst (ns.map .int)] ∧ sqW (.lst ws) = true ∧ ns.length = ws.length ∧ ws.length ≤ 1000 ∧ (∀ n ∈ ns, 0 ≤ n ∧ n < ws.length) ∧ P (.int (sumA ws ns)) S
theorem len_sum : ∀ as S P, sp_sum as S P → as.length = 2 := by
  rintro as S P ⟨ws, ns, rfl, _⟩
  rfl
theorem enum_ints {ns : List Int} {i : Nat} {x : A} (h : (enumA (ns.map .int))[i]? = some x) : i < ns.length ∧ x = .tup [.int (i : Nat), .int (ns.getD i 0)] := by
  obtain ⟨y, hy, rfl⟩ := enumA_get h
  rw [List.getElem?_map] at hy
  cases e : ns[i]? with
  | none => rw [e] at hy; cases hy
  | some n =>
    rw [e] at hy
    cases hy
    refine ⟨(List.getElem?_eq_some_iff.mp e).1, ?_⟩
    rw [List.getD_eq_getElem?_getD, e]
    rfl

/-! ### _law_sum -/
abbrev s__law_sum : Stmt := topS 43
theorem sc__law_sum : FnScope ["worths", "deal", "person", "room"] ["worths", "deal"] (defScope s__law_sum) := ⟨rfl, rfl, rfl, by decide +kernel, rfl, by decide +kernel, by decide +kernel⟩
theorem bd__law_sum (kV doc pm : Value) (an : Option Addr) (cdv ct : Value) (us : List Value) (hl : us.length = (["worths", "deal"] : List Str).length) : bindArgs (PySem.W.fnOf "_law_sum" "_law_sum" (defArgs s__law_sum) (defBody s__law_sum) (defScope s__law_sum) .none kV doc pm an cdv ct) ⟨us, []⟩ = pure ((["worths", "deal"] : List Str).zip us) :=
  match us, hl with | [_, _], _ => rfl
--len len_sum
theorem got__law_sum {P : Program} {w : World} {K : PySem.W.Frag} {mg : Str → Option Value} {base : Heap} {f__law_sum : Addr} (B : Bi mg) (D : Def K mg "_law_sum" s__law_sum f__law_sum) :
    Got P w K mg base (0 + 1) ["worths", "deal"] "_law_sum" s__law_sum f__law_sum sp_sum := by
  refine got_of D sc__law_sum (len_sum) (bd__law_sum) (fun cdv A0 outer s0_ H E hr => ⟨_, (sb_one (sa_ret (ea_callB cx_sum B.sum_ (la_cons (ea_lc [("person", 2), ("room", 3)] sc__law_sum.nd (ia_enum B.enumerate_ (ea_var 1)) (by kernel_rfl) (fun _ _ _ _ _ => (ga_tup 2 (gsa_cons (ga_name 2 sc__law_sum.nd) (gsa_cons (ga_name 3 sc__law_sum.nd) gsa_nil)))) (fun _ _ _ _ _ => tsa_nil) (fun _ _ _ _ _ => (ea_ix (ea_ix (ea_var 0) (ea_var 2)) (ea_var 3)))) la_nil)))), fun as S P h => ?_⟩)
  obtain ⟨ws, ns, rfl, hs, hl, h1, hn, k⟩ := h
  (try simp only [startN, List.map_cons, List.map_nil, List.length_cons, List.length_nil, Nat.reduceAdd, Nat.reduceSub, Nat.zero_add, Nat.sub_self, List.replicate_succ, List.replicate_zero, List.reduceReplicate, List.cons_append, List.nil_append, List.append_nil, ↓sRet, ↓sRetN, ↓sSeq, ↓sNil, ↓sIf, ↓sSet, ↓sPar, ↓sPar3, ↓sAsg, ↓sDrop, ↓sSetL, ↓eAnd, ↓eOr, ↓eNot, ↓eIf, ↓eNeg, ↓eCall, ↓eCallK, ↓eCallV, ↓lCons, ↓lNil, ↓eVar, ↓eC, ↓eTup, ↓eLst, ↓eLstC, ↓eOp, ↓eSl, ↓oNo, ↓oPart, ↓eBits, ↓tBool, ↓tAndA, ↓tOrA, ↓tNotA, ↓List.getElem?_cons_zero, ↓List.getElem?_cons_succ, ↓List.set_cons_zero, ↓List.set_cons_succ, ↓rInt, ↓rInt0, ↓rAddA, ↓rEqA, ↓rIsA, ↓rMax2A, ↓rMin2A, ↓rIntA, ↓rAbsA, bsel_true, bsel_false, wipeN, gNm, tYesA, ↓isNon, ↓isBlOf, ↓isI, ↓isB, ↓isS, ↓isT, ↓isL, Bool.or_false, Bool.or_true, Bool.false_or, Bool.true_or, ↓wList, ↓eLc, ↓rLenA, ↓sFor, ↓sWhile, ↓wRng1, ↓wRng2, ↓wTup, ↓wEnum, ↓eChain, ↓eListR1, ↓eLenSet, ↓eRev, ↓eInR, ↓eApp, ↓ePop, ↓eValue, ↓xDrop, ↓xRet, ↓xSet, ↓xCall, ↓xCallV, ↓sRaise, ↓eCallVL, ↓eLam3, startNF, Bool.not_true, Bool.not_false, Bool.false_eq_true, ↓reduceIte, Bool.not_not])
  refine ⟨ns.map .int, rfl, by rw [enumA_len, List.length_map]; omega, fun i acc S' => S' = S ∧ i ≤ ns.length ∧ acc = ((List.range i).map fun i => wAt ws i (ns.getD i 0)).map .int, ⟨rfl, Nat.zero_le _, rfl⟩, fun _ _ _ _ h => by obtain ⟨rfl, _⟩ := h; rfl, ?_, ?_⟩
  · rintro i x acc S' hx ⟨rfl, hi, rfl⟩
    obtain ⟨hi2, rfl⟩ := enum_ints hx
    (try simp only [startN, List.map_cons, List.map_nil, List.length_cons, List.length_nil, Nat.reduceAdd, Nat.reduceSub, Nat.zero_add, Nat.sub_self, List.replicate_succ, List.replicate_zero, List.reduceReplicate, List.cons_append, List.nil_append, List.append_nil, ↓sRet, ↓sRetN, ↓sSeq, ↓sNil, ↓sIf, ↓sSet, ↓sPar, ↓sPar3, ↓sAsg, ↓sDrop, ↓sSetL, ↓eAnd, ↓eOr, ↓eNot, ↓eIf, ↓eNeg, ↓eCall, ↓eCallK, ↓eCallV, ↓lCons, ↓lNil, ↓eVar, ↓eC, ↓eTup, ↓eLst, ↓eLstC, ↓eOp, ↓eSl, ↓oNo, ↓oPart, ↓eBits, ↓tBool, ↓tAndA, ↓tOrA, ↓tNotA, ↓List.getElem?_cons_zero, ↓List.getElem?_cons_succ, ↓List.set_cons_zero, ↓List.set_cons_succ, ↓rInt, ↓rInt0, ↓rAddA, ↓rEqA, ↓rIsA, ↓rMax2A, ↓rMin2A, ↓rIntA, ↓rAbsA, bsel_true, bsel_false, wipeN, gNm, tYesA, ↓isNon, ↓isBlOf, ↓isI, ↓isB, ↓isS, ↓isT, ↓isL, Bool.or_false, Bool.or_true, Bool.false_or, Bool.true_or, ↓wList, ↓eLc, ↓rLenA, ↓sFor, ↓sWhile, ↓wRng1, ↓wRng2, ↓wTup, ↓wEnum, ↓eChain, ↓eListR1, ↓eLenSet, ↓eRev, ↓eInR, ↓eApp, ↓ePop, ↓eValue, ↓xDrop, ↓xRet, ↓xSet, ↓xCall, ↓xCallV, ↓sRaise, ↓eCallVL, ↓eLam3, startNF, Bool.not_true, Bool.not_false, Bool.false_eq_true, ↓reduceIte, Bool.not_not])
    have hb := hn (ns.getD i 0) (by rw [List.getD_eq_getElem?_getD, List.getElem?_eq_getElem hi2]; exact List.getElem_mem hi2)
    obtain ⟨r, q1, q2⟩ := wAt_get hs (i := i) (j := ns.getD i 0) (by omega) hb.1 hb.2
    refine ⟨rfl, ws, .lst r, rfl, atI_nat' q1, r, _, rfl, q2, rfl, hi2, ?_⟩
    rw [List.range_succ, List.map_append, List.map_append]
    rfl
  · rintro acc S' ⟨rfl, hi, rfl⟩
    rw [enumA_len, List.length_map]
    exact ⟨_, rfl, k⟩
theorem deal_bel {m : Nat} {ns : List Int} (h : dealA m (.lst (ns.map .int)) = true) : ns.length = m ∧ ∀ n ∈ ns, 0 ≤ n ∧ n < (m : Int) := by
  simp only [dealA, Bool.and_eq_true, decide_eq_true_eq, List.length_map, List.all_eq_true] at h
  refine ⟨h.1.1, fun n hn => ?_⟩
  have q := h.1.2 (.int n) (List.mem_map_of_mem hn)
  simpa [belA] using q
def sp_sum_of (C D : Addr) : SpX := fun as S P PE => ∃ w x, as = [w, x] ∧ gd 7 w = true ∧ (sqW w = true → gd 6 x = true) ∧
  bsel (sqW w) (∃ ws, w = .lst ws ∧ bsel (dealA ws.length x) (∃ ns : List Int, x = .lst (ns.map .int) ∧ P (.int (sumA ws ns)) S) (PE D x S)) (PE C w S)
/-! ### _law_cell -/
abbrev s__law_cell : Stmt := topS 30
theorem sc__law_cell : FnScope ["script", "index"] ["script", "index"] (defScope s__law_cell) := ⟨rfl, rfl, rfl, by decide +kernel, rfl, by decide +kernel, by decide +kernel⟩
theorem bd__law_cell (kV doc pm : Value) (an : Option Addr) (cdv ct : Value) (us : List Value) (hl : us.length = (["script", "index"] : List Str).length) : bindArgs (PySem.W.fnOf "_law_cell" "_law_cell" (defArgs s__law_cell) (defBody s__law_cell) (defScope s__law_cell) .none kV doc pm an cdv ct) ⟨us, []⟩ = pure ((["script", "index"] : List Str).zip us) :=
  match us, hl with | [_, _], _ => rfl
def sp__law_cell : SpA := fun as S P => ∃ (scr : Addr) (ns : List Int) (i : Int), as = [.ref scr, .int i] ∧ S scr = some (.frz (ns.map .int)) ∧ 0 ≤ i ∧ ∀ c : Int, P (.int c) S
--len by rintro as S P ⟨_, _, _, rfl, _⟩; rfl
theorem got__law_cell {P : Program} {w : World} {K : PySem.W.Frag} {mg : Str → Option Value} {base : Heap} {f__law_cell : Addr} (B : Bi mg) (D : Def K mg "_law_cell" s__law_cell f__law_cell) :
    Got P w K mg base (0 + 1) ["script", "index"] "_law_cell" s__law_cell f__law_cell sp__law_cell := by
  refine got_of D sc__law_cell (by rintro as S P ⟨_, _, _, rfl, _⟩; rfl) (bd__law_cell) (fun cdv A0 outer s0_ H E hr => ⟨_, (sb_cons (sa_if (tt_cmp oa_lt (ea_var 1) (ea_callB cx_len B.len_ (la_cons (ea_var 0) la_nil))) (sb_one (sa_ret (ea_ix (ea_var 0) (ea_var 1)))) sb_nil)
      (sb_one (sa_ret (ea_op oa_mod (ea_callB cx_sum B.sum_ (la_cons (ea_sl (ea_var 0) oa_no (oa_part ea_int)) la_nil)) ea_int)))), fun as S P h => ?_⟩)
  obtain ⟨scr, ns, i, rfl, hs, i0, k⟩ := h
  (try simp only [startN, List.map_cons, List.map_nil, List.length_cons, List.length_nil, Nat.reduceAdd, Nat.reduceSub, Nat.zero_add, Nat.sub_self, List.replicate_succ, List.replicate_zero, List.reduceReplicate, List.cons_append, List.nil_append, List.append_nil, ↓sRet, ↓sRetN, ↓sSeq, ↓sNil, ↓sIf, ↓sSet, ↓sPar, ↓sPar3, ↓sAsg, ↓sDrop, ↓sSetL, ↓eAnd, ↓eOr, ↓eNot, ↓eIf, ↓eNeg, ↓eCall, ↓eCallK, ↓eCallV, ↓lCons, ↓lNil, ↓eVar, ↓eC, ↓eTup, ↓eLst, ↓eLstC, ↓eOp, ↓eSl, ↓oNo, ↓oPart, ↓eBits, ↓tBool, ↓tAndA, ↓tOrA, ↓tNotA, ↓List.getElem?_cons_zero, ↓List.getElem?_cons_succ, ↓List.set_cons_zero, ↓List.set_cons_succ, ↓rInt, ↓rInt0, ↓rAddA, ↓rEqA, ↓rIsA, ↓rMax2A, ↓rMin2A, ↓rIntA, ↓rAbsA, bsel_true, bsel_false, wipeN, gNm, tYesA, ↓isNon, ↓isBlOf, ↓isI, ↓isB, ↓isS, ↓isT, ↓isL, Bool.or_false, Bool.or_true, Bool.false_or, Bool.true_or, ↓wList, ↓eLc, ↓rLenA, ↓sFor, ↓sWhile, ↓wRng1, ↓wRng2, ↓wTup, ↓wEnum, ↓eChain, ↓eListR1, ↓eLenSet, ↓eRev, ↓eInR, ↓eApp, ↓ePop, ↓eValue, ↓xDrop, ↓xRet, ↓xSet, ↓xCall, ↓xCallV, ↓sRaise, ↓eCallVL, ↓eLam3, startNF, Bool.not_true, Bool.not_false, Bool.false_eq_true, ↓reduceIte, Bool.not_not])
  refine ⟨_, lstr_frz hs, ?_⟩
  (try simp only [startN, List.map_cons, List.map_nil, List.length_cons, List.length_nil, Nat.reduceAdd, Nat.reduceSub, Nat.zero_add, Nat.sub_self, List.replicate_succ, List.replicate_zero, List.reduceReplicate, List.cons_append, List.nil_append, List.append_nil, ↓sRet, ↓sRetN, ↓sSeq, ↓sNil, ↓sIf, ↓sSet, ↓sPar, ↓sPar3, ↓sAsg, ↓sDrop, ↓sSetL, ↓eAnd, ↓eOr, ↓eNot, ↓eIf, ↓eNeg, ↓eCall, ↓eCallK, ↓eCallV, ↓lCons, ↓lNil, ↓eVar, ↓eC, ↓eTup, ↓eLst, ↓eLstC, ↓eOp, ↓eSl, ↓oNo, ↓oPart, ↓eBits, ↓tBool, ↓tAndA, ↓tOrA, ↓tNotA, ↓List.getElem?_cons_zero, ↓List.getElem?_cons_succ, ↓List.set_cons_zero, ↓List.set_cons_succ, ↓rInt, ↓rInt0, ↓rAddA, ↓rEqA, ↓rIsA, ↓rMax2A, ↓rMin2A, ↓rIntA, ↓rAbsA, bsel_true, bsel_false, wipeN, gNm, tYesA, ↓isNon, ↓isBlOf, ↓isI, ↓isB, ↓isS, ↓isT, ↓isL, Bool.or_false, Bool.or_true, Bool.false_or, Bool.true_or, ↓wList, ↓eLc, ↓rLenA, ↓sFor, ↓sWhile, ↓wRng1, ↓wRng2, ↓wTup, ↓wEnum, ↓eChain, ↓eListR1, ↓eLenSet, ↓eRev, ↓eInR, ↓eApp, ↓ePop, ↓eValue, ↓xDrop, ↓xRet, ↓xSet, ↓xCall, ↓xCallV, ↓sRaise, ↓eCallVL, ↓eLam3, startNF, Bool.not_true, Bool.not_false, Bool.false_eq_true, ↓reduceIte, Bool.not_not])
  refine bsel_i (fun h => ?_) fun h => ?_
  · have h1 := of_decide_eq_true h
    rw [List.length_map] at h1
    have h2 : i.toNat < ns.length := by omega
    refine ⟨_, .int ns[i.toNat], lstr_frz hs, atI_pos i0 ?_, k _⟩
    rw [List.getElem?_map, List.getElem?_eq_getElem h2]
    rfl
  · refine ⟨_, lstr_frz hs, ?_⟩
    obtain ⟨ms, e⟩ := cutA_ints ns none (some 1)
    exact ⟨ms, by rw [e]; rfl, by decide, k _⟩
/-! ### _law_generator -/
abbrev s__law_generator : Stmt := topS 31
theorem sc__law_generator : FnScope ["script", "index", "seed"] ["script", "index"] (defScope s__law_generator) := ⟨rfl, rfl, rfl, by decide +kernel, rfl, by decide +kernel, by decide +kernel⟩
theorem bd__law_generator (kV doc pm : Value) (an : Option Addr) (cdv ct : Value) (us : List Value) (hl : us.length = (["script", "index"] : List Str).length) : bindArgs (PySem.W.fnOf "_law_generator" "_law_generator" (defArgs s__law_generator) (defBody s__law_generator) (defScope s__law_generator) .none kV doc pm an cdv ct) ⟨us, []⟩ = pure ((["script", "index"] : List Str).zip us) :=
  match us, hl with | [_, _], _ => rfl
def sp__law_generator : SpA := fun as S P => ∃ (scr : Addr) (ns : List Int) (i : Nat), as = [.ref scr, .int (i : Int)] ∧ S scr = some (.frz (ns.map .int)) ∧ i ≤ 1000 ∧ ∀ (g : Addr) (l : List A), S g = none → GenL (1000 * i) l → P (.ref g) (sup S g (.lst l))
--len by rintro as S P ⟨_, _, _, rfl, _⟩; rfl
theorem got__law_generator {P : Program} {w : World} {K : PySem.W.Frag} {mg : Str → Option Value} {base : Heap} {f__law_cell f__law_generator : Addr} (B : Bi mg) (D : Def K mg "_law_generator" s__law_generator f__law_generator) (G__law_cell : Got P w K mg base 1 ["script", "index"] "_law_cell" s__law_cell f__law_cell sp__law_cell) :
    Got P w K mg base (1 + 1) ["script", "index"] "_law_generator" s__law_generator f__law_generator sp__law_generator := by
  refine got_of D sc__law_generator (by rintro as S P ⟨_, _, _, rfl, _⟩; rfl) (bd__law_generator) (fun cdv A0 outer s0_ H E hr => ⟨_, (sb_cons (sa_set 2 sc__law_generator.nd (ea_call G__law_cell (hr.mono (by omega)) (la_cons (ea_var 0) (la_cons (ea_var 1) la_nil))))
      (sb_one (sa_ret (ea_lstC (la_cons (ea_op oa_mod (ea_callTy cx_int B.int_ (la_cons (ea_callB cx_max2 B.max_ (la_cons (ea_op oa_sub (ea_var 2) (ea_op oa_pow ea_int ea_int)) (la_cons ea_int la_nil))) la_nil)) (ea_op oa_pow (ea_op oa_pow ea_int ea_int) ea_int)) (la_cons (ea_op oa_mod (ea_callTy cx_int B.int_ (la_cons (ea_var 2) la_nil)) ea_int) (la_cons (ea_op oa_mul ea_int (ea_var 1)) la_nil))))))), fun as S P h => ?_⟩)
  obtain ⟨scr, ns, i, rfl, hs, hi, k⟩ := h
  (try simp only [startN, List.map_cons, List.map_nil, List.length_cons, List.length_nil, Nat.reduceAdd, Nat.reduceSub, Nat.zero_add, Nat.sub_self, List.replicate_succ, List.replicate_zero, List.reduceReplicate, List.cons_append, List.nil_append, List.append_nil, ↓sRet, ↓sRetN, ↓sSeq, ↓sNil, ↓sIf, ↓sSet, ↓sPar, ↓sPar3, ↓sAsg, ↓sDrop, ↓sSetL, ↓eAnd, ↓eOr, ↓eNot, ↓eIf, ↓eNeg, ↓eCall, ↓eCallK, ↓eCallV, ↓lCons, ↓lNil, ↓eVar, ↓eC, ↓eTup, ↓eLst, ↓eLstC, ↓eOp, ↓eSl, ↓oNo, ↓oPart, ↓eBits, ↓tBool, ↓tAndA, ↓tOrA, ↓tNotA, ↓List.getElem?_cons_zero, ↓List.getElem?_cons_succ, ↓List.set_cons_zero, ↓List.set_cons_succ, ↓rInt, ↓rInt0, ↓rAddA, ↓rEqA, ↓rIsA, ↓rMax2A, ↓rMin2A, ↓rIntA, ↓rAbsA, bsel_true, bsel_false, wipeN, gNm, tYesA, ↓isNon, ↓isBlOf, ↓isI, ↓isB, ↓isS, ↓isT, ↓isL, Bool.or_false, Bool.or_true, Bool.false_or, Bool.true_or, ↓wList, ↓eLc, ↓rLenA, ↓sFor, ↓sWhile, ↓wRng1, ↓wRng2, ↓wTup, ↓wEnum, ↓eChain, ↓eListR1, ↓eLenSet, ↓eRev, ↓eInR, ↓eApp, ↓ePop, ↓eValue, ↓xDrop, ↓xRet, ↓xSet, ↓xCall, ↓xCallV, ↓sRaise, ↓eCallVL, ↓eLam3, startNF, Bool.not_true, Bool.not_false, Bool.false_eq_true, ↓reduceIte, Bool.not_not])
  refine ⟨scr, ns, (i : Int), rfl, hs, by omega, fun c => ?_⟩
  (try simp only [startN, List.map_cons, List.map_nil, List.length_cons, List.length_nil, Nat.reduceAdd, Nat.reduceSub, Nat.zero_add, Nat.sub_self, List.replicate_succ, List.replicate_zero, List.reduceReplicate, List.cons_append, List.nil_append, List.append_nil, ↓sRet, ↓sRetN, ↓sSeq, ↓sNil, ↓sIf, ↓sSet, ↓sPar, ↓sPar3, ↓sAsg, ↓sDrop, ↓sSetL, ↓eAnd, ↓eOr, ↓eNot, ↓eIf, ↓eNeg, ↓eCall, ↓eCallK, ↓eCallV, ↓lCons, ↓lNil, ↓eVar, ↓eC, ↓eTup, ↓eLst, ↓eLstC, ↓eOp, ↓eSl, ↓oNo, ↓oPart, ↓eBits, ↓tBool, ↓tAndA, ↓tOrA, ↓tNotA, ↓List.getElem?_cons_zero, ↓List.getElem?_cons_succ, ↓List.set_cons_zero, ↓List.set_cons_succ, ↓rInt, ↓rInt0, ↓rAddA, ↓rEqA, ↓rIsA, ↓rMax2A, ↓rMin2A, ↓rIntA, ↓rAbsA, bsel_true, bsel_false, wipeN, gNm, tYesA, ↓isNon, ↓isBlOf, ↓isI, ↓isB, ↓isS, ↓isT, ↓isL, Bool.or_false, Bool.or_true, Bool.false_or, Bool.true_or, ↓wList, ↓eLc, ↓rLenA, ↓sFor, ↓sWhile, ↓wRng1, ↓wRng2, ↓wTup, ↓wEnum, ↓eChain, ↓eListR1, ↓eLenSet, ↓eRev, ↓eInR, ↓eApp, ↓ePop, ↓eValue, ↓xDrop, ↓xRet, ↓xSet, ↓xCall, ↓xCallV, ↓sRaise, ↓eCallVL, ↓eLam3, startNF, Bool.not_true, Bool.not_false, Bool.false_eq_true, ↓reduceIte, Bool.not_not])
  have hp : (0 : Int) < ((10 : Int) ^ (60 : Int).toNat) ^ (10 : Int).toNat := by decide +kernel
  refine ⟨⟨by decide, by decide +kernel⟩, ⟨by decide, by decide +kernel⟩, ⟨by decide, by decide +kernel⟩, hp, by decide, ?_, ?_⟩
  · exact Bd.mulW (a := 10) (b := 10) (.small 10 (m := 1000) (by decide)) (.small 10 (m := 1000) (by omega))
  · intro p hp2
    refine k p _ hp2 ⟨_, _, _, rfl, Int.emod_nonneg _ (by omega), ?_, by omega, by omega, by omega, by omega⟩
    have h1 := Int.emod_nonneg (max (c - (10 : Int) ^ (18 : Int).toNat) 0) (show ((10 : Int) ^ (60 : Int).toNat) ^ (10 : Int).toNat ≠ 0 by omega)
    have h2 := Int.emod_lt_of_pos (max (c - (10 : Int) ^ (18 : Int).toNat) 0) hp
    have h3 : Bd 2200 (((10 : Int) ^ (60 : Int).toNat) ^ (10 : Int).toNat) := by unfold Bd; decide +kernel
    exact h3.of_le (by omega)
/-! ### _law_pick -/
abbrev s__law_pick : Stmt := topS 32
theorem sc__law_pick : FnScope ["generator", "things"] ["generator", "things"] (defScope s__law_pick) := ⟨rfl, rfl, rfl, by decide +kernel, rfl, by decide +kernel, by decide +kernel⟩
theorem bd__law_pick (kV doc pm : Value) (an : Option Addr) (cdv ct : Value) (us : List Value) (hl : us.length = (["generator", "things"] : List Str).length) : bindArgs (PySem.W.fnOf "_law_pick" "_law_pick" (defArgs s__law_pick) (defBody s__law_pick) (defScope s__law_pick) .none kV doc pm an cdv ct) ⟨us, []⟩ = pure ((["generator", "things"] : List Str).zip us) :=
  match us, hl with | [_, _], _ => rfl
def sp__law_pick : SpA := fun as S P => ∃ (g : Addr) (xs : List A) (n : Nat) (l : List A), as = [.ref g, .lst xs] ∧ S g = some (.lst l) ∧ GenL n l ∧ 0 < xs.length ∧ xs.length ≤ 1000000 ∧ n ≤ 1000000000000 ∧ ∀ (z : A) (l' : List A), z ∈ xs → GenL (n + 100) l' → P z (sup S g (.lst l'))
--len by rintro as S P ⟨_, _, _, _, rfl, _⟩; rfl
theorem got__law_pick {P : Program} {w : World} {K : PySem.W.Frag} {mg : Str → Option Value} {base : Heap} {f__law_pick f__law_random : Addr} (B : Bi mg) (D : Def K mg "_law_pick" s__law_pick f__law_pick) (G__law_random : Got P w K mg base 2 ["generator", "bound"] "_law_random" s__law_random f__law_random sp__law_random) :
    Got P w K mg base (2 + 1) ["generator", "things"] "_law_pick" s__law_pick f__law_pick sp__law_pick := by
  refine got_of D sc__law_pick (by rintro as S P ⟨_, _, _, _, rfl, _⟩; rfl) (bd__law_pick) (fun cdv A0 outer s0_ H E hr => ⟨_, (sb_one (sa_ret (ea_ix (ea_var 1) (ea_call G__law_random (hr.mono (by omega)) (la_cons (ea_var 0) (la_cons (ea_callB cx_len B.len_ (la_cons (ea_var 1) la_nil)) la_nil)))))), fun as S P h => ?_⟩)
  obtain ⟨g, xs, n, l, rfl, hg, gl, x0, x1, hn, k⟩ := h
  (try simp only [startN, List.map_cons, List.map_nil, List.length_cons, List.length_nil, Nat.reduceAdd, Nat.reduceSub, Nat.zero_add, Nat.sub_self, List.replicate_succ, List.replicate_zero, List.reduceReplicate, List.cons_append, List.nil_append, List.append_nil, ↓sRet, ↓sRetN, ↓sSeq, ↓sNil, ↓sIf, ↓sSet, ↓sPar, ↓sPar3, ↓sAsg, ↓sDrop, ↓sSetL, ↓eAnd, ↓eOr, ↓eNot, ↓eIf, ↓eNeg, ↓eCall, ↓eCallK, ↓eCallV, ↓lCons, ↓lNil, ↓eVar, ↓eC, ↓eTup, ↓eLst, ↓eLstC, ↓eOp, ↓eSl, ↓oNo, ↓oPart, ↓eBits, ↓tBool, ↓tAndA, ↓tOrA, ↓tNotA, ↓List.getElem?_cons_zero, ↓List.getElem?_cons_succ, ↓List.set_cons_zero, ↓List.set_cons_succ, ↓rInt, ↓rInt0, ↓rAddA, ↓rEqA, ↓rIsA, ↓rMax2A, ↓rMin2A, ↓rIntA, ↓rAbsA, bsel_true, bsel_false, wipeN, gNm, tYesA, ↓isNon, ↓isBlOf, ↓isI, ↓isB, ↓isS, ↓isT, ↓isL, Bool.or_false, Bool.or_true, Bool.false_or, Bool.true_or, ↓wList, ↓eLc, ↓rLenA, ↓sFor, ↓sWhile, ↓wRng1, ↓wRng2, ↓wTup, ↓wEnum, ↓eChain, ↓eListR1, ↓eLenSet, ↓eRev, ↓eInR, ↓eApp, ↓ePop, ↓eValue, ↓xDrop, ↓xRet, ↓xSet, ↓xCall, ↓xCallV, ↓sRaise, ↓eCallVL, ↓eLam3, startNF, Bool.not_true, Bool.not_false, Bool.false_eq_true, ↓reduceIte, Bool.not_not])
  refine ⟨xs, rfl, g, _, n, l, rfl, hg, gl, by omega, .small 1000 (m := 1000000) (by omega) (by decide +kernel), hn, fun r l' r0 r1 gl' => ?_⟩
  (try simp only [startN, List.map_cons, List.map_nil, List.length_cons, List.length_nil, Nat.reduceAdd, Nat.reduceSub, Nat.zero_add, Nat.sub_self, List.replicate_succ, List.replicate_zero, List.reduceReplicate, List.cons_append, List.nil_append, List.append_nil, ↓sRet, ↓sRetN, ↓sSeq, ↓sNil, ↓sIf, ↓sSet, ↓sPar, ↓sPar3, ↓sAsg, ↓sDrop, ↓sSetL, ↓eAnd, ↓eOr, ↓eNot, ↓eIf, ↓eNeg, ↓eCall, ↓eCallK, ↓eCallV, ↓lCons, ↓lNil, ↓eVar, ↓eC, ↓eTup, ↓eLst, ↓eLstC, ↓eOp, ↓eSl, ↓oNo, ↓oPart, ↓eBits, ↓tBool, ↓tAndA, ↓tOrA, ↓tNotA, ↓List.getElem?_cons_zero, ↓List.getElem?_cons_succ, ↓List.set_cons_zero, ↓List.set_cons_succ, ↓rInt, ↓rInt0, ↓rAddA, ↓rEqA, ↓rIsA, ↓rMax2A, ↓rMin2A, ↓rIntA, ↓rAbsA, bsel_true, bsel_false, wipeN, gNm, tYesA, ↓isNon, ↓isBlOf, ↓isI, ↓isB, ↓isS, ↓isT, ↓isL, Bool.or_false, Bool.or_true, Bool.false_or, Bool.true_or, ↓wList, ↓eLc, ↓rLenA, ↓sFor, ↓sWhile, ↓wRng1, ↓wRng2, ↓wTup, ↓wEnum, ↓eChain, ↓eListR1, ↓eLenSet, ↓eRev, ↓eInR, ↓eApp, ↓ePop, ↓eValue, ↓xDrop, ↓xRet, ↓xSet, ↓xCall, ↓xCallV, ↓sRaise, ↓eCallVL, ↓eLam3, startNF, Bool.not_true, Bool.not_false, Bool.false_eq_true, ↓reduceIte, Bool.not_not])
  have h2 : r.toNat < xs.length := by omega
  have z : atI xs ((r.toNat : Nat) : Int) = some xs[r.toNat] := atI_nat' (List.getElem?_eq_getElem h2)
  have e : ((r.toNat : Nat) : Int) = r := by omega
  rw [e] at z
  exact ⟨xs, xs[r.toNat], rfl, z, k _ _ (List.getElem_mem h2) gl'⟩
/-! ### _law_same -/
abbrev s__law_same : Stmt := topS 34
theorem sc__law_same : FnScope ["told", "due", "at"] ["told", "due"] (defScope s__law_same) := ⟨rfl, rfl, rfl, by decide +kernel, rfl, by decide +kernel, by decide +kernel⟩
theorem bd__law_same (kV doc pm : Value) (an : Option Addr) (cdv ct : Value) (us : List Value) (hl : us.length = (["told", "due"] : List Str).length) : bindArgs (PySem.W.fnOf "_law_same" "_law_same" (defArgs s__law_same) (defBody s__law_same) (defScope s__law_same) .none kV doc pm an cdv ct) ⟨us, []⟩ = pure ((["told", "due"] : List Str).zip us) :=
  match us, hl with | [_, _], _ => rfl
def sp__law_same (n : Nat) : SpA := fun as S P => ∃ t d : A, as = [t, d] ∧ nr t = true ∧ nr d = true ∧ dle n d = true ∧ ∀ b : Bool, (b = true ↔ t = d) → P (.bl b) S
theorem sp_none__law_same (as : List A) (S : Sto) (P : A → Sto → Prop) : ¬ sp__law_same 0 as S P := by
  rintro ⟨t, d, _, _, _, h, _⟩
  cases h
--len by rintro as S P ⟨_, _, rfl, _⟩; rfl
theorem got__law_same {P : Program} {w : World} {K : PySem.W.Frag} {mg : Str → Option Value} {base : Heap} {f__law_same : Addr} {k n : Nat} (B : Bi mg) (D : Def K mg "_law_same" s__law_same f__law_same) (G__law_same : Got P w K mg base k ["told", "due"] "_law_same" s__law_same f__law_same (sp__law_same n)) :
    Got P w K mg base (k + 1) ["told", "due"] "_law_same" s__law_same f__law_same (sp__law_same (n + 1)) := by
  refine got_of D sc__law_same (by rintro as S P ⟨_, _, rfl, _⟩; rfl) (bd__law_same) (fun cdv A0 outer s0_ H E hr => ⟨_, (sb_cons (sa_if (tt_w (tw_or (tt_cmp oa_is (ea_var 1) ea_non) (tw_or (tt_cmp oa_is (ea_var 1) ea_bl) (tw_or1 (tt_cmp oa_is (ea_var 1) ea_bl))))) (sb_one (sa_ret (ea_if (tt_cmp oa_is (ea_var 1) ea_non) (ea_cmp oa_is (ea_var 0) ea_non) (ea_if (tt_cmp oa_is (ea_var 1) ea_bl) (ea_cmp oa_is (ea_var 0) ea_bl) (ea_cmp oa_is (ea_var 0) ea_bl))))) sb_nil)
      (sb_cons (sa_if (tt_val (ea_callB cx_isiT B.isinstance_ (la_cons (ea_var 1) (la_cons (ea_tup (la_cons (ea_ty "list" B.list_) (la_cons (ea_ty "tuple" B.tuple_) la_nil))) la_nil)))) (sb_cons (sa_if (tt_w (tw_or (tt_w (tw_and (tt_not (tt_val (ea_callB cx_isi B.isinstance_ (la_cons (ea_var 0) (la_cons (ea_ty "list" B.list_) la_nil))))) (tw_and1 (tt_val (ea_callB cx_isi B.isinstance_ (la_cons (ea_var 1) (la_cons (ea_ty "list" B.list_) la_nil))))))) (tw_or1 (tt_w (tw_and (tt_not (tt_val (ea_callB cx_isi B.isinstance_ (la_cons (ea_var 0) (la_cons (ea_ty "tuple" B.tuple_) la_nil))))) (tw_and1 (tt_val (ea_callB cx_isi B.isinstance_ (la_cons (ea_var 1) (la_cons (ea_ty "tuple" B.tuple_) la_nil)))))))))) (sb_one (sa_ret ea_bl)) sb_nil)
      (sb_one (sa_ret (ea_and (ea_cmp (oa_eq hr.units) (ea_callB cx_len B.len_ (la_cons (ea_var 0) la_nil)) (ea_callB cx_len B.len_ (la_cons (ea_var 1) la_nil))) (ea_one (ea_cmp (oa_eq hr.units) (ea_lc [("at", 2)] sc__law_same.nd (ia_rng1 B.range_ (la_cons (ea_callB cx_len B.len_ (la_cons (ea_var 1) la_nil)) la_nil)) (by kernel_rfl) (fun _ _ _ _ _ => (ga_name 2 sc__law_same.nd)) (fun _ _ _ _ _ => (tsa_one (tt_not (tt_val (ea_call G__law_same (hr.mono (by omega)) (la_cons (ea_ix (ea_var 0) (ea_var 2)) (la_cons (ea_ix (ea_var 1) (ea_var 2)) la_nil))))))) (fun _ _ _ _ _ => (ea_var 2))) (ea_lst la_nil))))))) sb_nil)
      (sb_cons (sa_if (tt_val (ea_callB cx_isi B.isinstance_ (la_cons (ea_var 1) (la_cons (ea_ty "int" B.int_) la_nil)))) (sb_one (sa_ret (ea_and (ea_callB cx_isi B.isinstance_ (la_cons (ea_var 0) (la_cons (ea_ty "int" B.int_) la_nil))) (ea_and (ea_not (ea_callB cx_isi B.isinstance_ (la_cons (ea_var 0) (la_cons (ea_ty "bool" B.bool_) la_nil)))) (ea_one (ea_cmp (oa_eq hr.units) (ea_var 0) (ea_var 1))))))) sb_nil)
      (sb_one (sa_ret (ea_and (ea_callB cx_isi B.isinstance_ (la_cons (ea_var 0) (la_cons (ea_ty "str" B.str_) la_nil))) (ea_one (ea_cmp (oa_eq hr.units) (ea_var 0) (ea_var 1))))))))), fun as S P h => ?_⟩)
  obtain ⟨t, d, rfl, nt, nd, dd, k⟩ := h
  have kd : kn S d := kn_nr nd
  have kt : kn S t := kn_nr nt
  -- two rows of items
  have items : ∀ (xs ys : List A), nrs xs = true → nrs ys = true → ys.all (dle n) = true → ∀ (i : Nat) (x y : A) (Q : A → Sto → Prop), xs[i]? = some x → ys[i]? = some y → (∀ b : Bool, (b = true ↔ x = y) → Q (.bl b) S) → sp__law_same n [x, y] S Q := by
    intro xs ys hx hy hd i x y Q ex ey q
    exact ⟨x, y, rfl, nrs_mem hx (List.mem_of_getElem? ex), nrs_mem hy (List.mem_of_getElem? ey), List.all_eq_true.mp hd y (List.mem_of_getElem? ey), q⟩
  (try simp only [startN, List.map_cons, List.map_nil, List.length_cons, List.length_nil, Nat.reduceAdd, Nat.reduceSub, Nat.zero_add, Nat.sub_self, List.replicate_succ, List.replicate_zero, List.reduceReplicate, List.cons_append, List.nil_append, List.append_nil, ↓sRet, ↓sRetN, ↓sSeq, ↓sNil, ↓sIf, ↓sSet, ↓sPar, ↓sPar3, ↓sAsg, ↓sDrop, ↓sSetL, ↓eAnd, ↓eOr, ↓eNot, ↓eIf, ↓eNeg, ↓eCall, ↓eCallK, ↓eCallV, ↓lCons, ↓lNil, ↓eVar, ↓eC, ↓eTup, ↓eLst, ↓eLstC, ↓eOp, ↓eSl, ↓oNo, ↓oPart, ↓eBits, ↓tBool, ↓tAndA, ↓tOrA, ↓tNotA, ↓List.getElem?_cons_zero, ↓List.getElem?_cons_succ, ↓List.set_cons_zero, ↓List.set_cons_succ, ↓rInt, ↓rInt0, ↓rAddA, ↓rEqA, ↓rIsA, ↓rMax2A, ↓rMin2A, ↓rIntA, ↓rAbsA, bsel_true, bsel_false, wipeN, gNm, tYesA, ↓isNon, ↓isBlOf, ↓isI, ↓isB, ↓isS, ↓isT, ↓isL, Bool.or_false, Bool.or_true, Bool.false_or, Bool.true_or, ↓wList, ↓eLc, ↓rLenA, ↓sFor, ↓sWhile, ↓wRng1, ↓wRng2, ↓wTup, ↓wEnum, ↓eChain, ↓eListR1, ↓eLenSet, ↓eRev, ↓eInR, ↓eApp, ↓ePop, ↓eValue, ↓xDrop, ↓xRet, ↓xSet, ↓xCall, ↓xCallV, ↓sRaise, ↓eCallVL, ↓eLam3, startNF, Bool.not_true, Bool.not_false, Bool.false_eq_true, ↓reduceIte, Bool.not_not])
  cases d with
  | non =>
    (try simp only [startN, List.map_cons, List.map_nil, List.length_cons, List.length_nil, Nat.reduceAdd, Nat.reduceSub, Nat.zero_add, Nat.sub_self, List.replicate_succ, List.replicate_zero, List.reduceReplicate, List.cons_append, List.nil_append, List.append_nil, ↓sRet, ↓sRetN, ↓sSeq, ↓sNil, ↓sIf, ↓sSet, ↓sPar, ↓sPar3, ↓sAsg, ↓sDrop, ↓sSetL, ↓eAnd, ↓eOr, ↓eNot, ↓eIf, ↓eNeg, ↓eCall, ↓eCallK, ↓eCallV, ↓lCons, ↓lNil, ↓eVar, ↓eC, ↓eTup, ↓eLst, ↓eLstC, ↓eOp, ↓eSl, ↓oNo, ↓oPart, ↓eBits, ↓tBool, ↓tAndA, ↓tOrA, ↓tNotA, ↓List.getElem?_cons_zero, ↓List.getElem?_cons_succ, ↓List.set_cons_zero, ↓List.set_cons_succ, ↓rInt, ↓rInt0, ↓rAddA, ↓rEqA, ↓rIsA, ↓rMax2A, ↓rMin2A, ↓rIntA, ↓rAbsA, bsel_true, bsel_false, wipeN, gNm, tYesA, ↓isNon, ↓isBlOf, ↓isI, ↓isB, ↓isS, ↓isT, ↓isL, Bool.or_false, Bool.or_true, Bool.false_or, Bool.true_or, ↓wList, ↓eLc, ↓rLenA, ↓sFor, ↓sWhile, ↓wRng1, ↓wRng2, ↓wTup, ↓wEnum, ↓eChain, ↓eListR1, ↓eLenSet, ↓eRev, ↓eInR, ↓eApp, ↓ePop, ↓eValue, ↓xDrop, ↓xRet, ↓xSet, ↓xCall, ↓xCallV, ↓sRaise, ↓eCallVL, ↓eLam3, startNF, Bool.not_true, Bool.not_false, Bool.false_eq_true, ↓reduceIte, Bool.not_not])
    exact k _ (by cases t <;> simp [isNon])
  | bl c =>
    cases c
    · (try simp only [startN, List.map_cons, List.map_nil, List.length_cons, List.length_nil, Nat.reduceAdd, Nat.reduceSub, Nat.zero_add, Nat.sub_self, List.replicate_succ, List.replicate_zero, List.reduceReplicate, List.cons_append, List.nil_append, List.append_nil, ↓sRet, ↓sRetN, ↓sSeq, ↓sNil, ↓sIf, ↓sSet, ↓sPar, ↓sPar3, ↓sAsg, ↓sDrop, ↓sSetL, ↓eAnd, ↓eOr, ↓eNot, ↓eIf, ↓eNeg, ↓eCall, ↓eCallK, ↓eCallV, ↓lCons, ↓lNil, ↓eVar, ↓eC, ↓eTup, ↓eLst, ↓eLstC, ↓eOp, ↓eSl, ↓oNo, ↓oPart, ↓eBits, ↓tBool, ↓tAndA, ↓tOrA, ↓tNotA, ↓List.getElem?_cons_zero, ↓List.getElem?_cons_succ, ↓List.set_cons_zero, ↓List.set_cons_succ, ↓rInt, ↓rInt0, ↓rAddA, ↓rEqA, ↓rIsA, ↓rMax2A, ↓rMin2A, ↓rIntA, ↓rAbsA, bsel_true, bsel_false, wipeN, gNm, tYesA, ↓isNon, ↓isBlOf, ↓isI, ↓isB, ↓isS, ↓isT, ↓isL, Bool.or_false, Bool.or_true, Bool.false_or, Bool.true_or, ↓wList, ↓eLc, ↓rLenA, ↓sFor, ↓sWhile, ↓wRng1, ↓wRng2, ↓wTup, ↓wEnum, ↓eChain, ↓eListR1, ↓eLenSet, ↓eRev, ↓eInR, ↓eApp, ↓ePop, ↓eValue, ↓xDrop, ↓xRet, ↓xSet, ↓xCall, ↓xCallV, ↓sRaise, ↓eCallVL, ↓eLam3, startNF, Bool.not_true, Bool.not_false, Bool.false_eq_true, ↓reduceIte, Bool.not_not])
      exact k _ (by cases t <;> simp [isBlOf])
    · (try simp only [startN, List.map_cons, List.map_nil, List.length_cons, List.length_nil, Nat.reduceAdd, Nat.reduceSub, Nat.zero_add, Nat.sub_self, List.replicate_succ, List.replicate_zero, List.reduceReplicate, List.cons_append, List.nil_append, List.append_nil, ↓sRet, ↓sRetN, ↓sSeq, ↓sNil, ↓sIf, ↓sSet, ↓sPar, ↓sPar3, ↓sAsg, ↓sDrop, ↓sSetL, ↓eAnd, ↓eOr, ↓eNot, ↓eIf, ↓eNeg, ↓eCall, ↓eCallK, ↓eCallV, ↓lCons, ↓lNil, ↓eVar, ↓eC, ↓eTup, ↓eLst, ↓eLstC, ↓eOp, ↓eSl, ↓oNo, ↓oPart, ↓eBits, ↓tBool, ↓tAndA, ↓tOrA, ↓tNotA, ↓List.getElem?_cons_zero, ↓List.getElem?_cons_succ, ↓List.set_cons_zero, ↓List.set_cons_succ, ↓rInt, ↓rInt0, ↓rAddA, ↓rEqA, ↓rIsA, ↓rMax2A, ↓rMin2A, ↓rIntA, ↓rAbsA, bsel_true, bsel_false, wipeN, gNm, tYesA, ↓isNon, ↓isBlOf, ↓isI, ↓isB, ↓isS, ↓isT, ↓isL, Bool.or_false, Bool.or_true, Bool.false_or, Bool.true_or, ↓wList, ↓eLc, ↓rLenA, ↓sFor, ↓sWhile, ↓wRng1, ↓wRng2, ↓wTup, ↓wEnum, ↓eChain, ↓eListR1, ↓eLenSet, ↓eRev, ↓eInR, ↓eApp, ↓ePop, ↓eValue, ↓xDrop, ↓xRet, ↓xSet, ↓xCall, ↓xCallV, ↓sRaise, ↓eCallVL, ↓eLam3, startNF, Bool.not_true, Bool.not_false, Bool.false_eq_true, ↓reduceIte, Bool.not_not])
      exact k _ (by cases t <;> simp [isBlOf])
  | ref _ => cases nd
  | ty _ => cases nd
  | int i =>
    (try simp only [startN, List.map_cons, List.map_nil, List.length_cons, List.length_nil, Nat.reduceAdd, Nat.reduceSub, Nat.zero_add, Nat.sub_self, List.replicate_succ, List.replicate_zero, List.reduceReplicate, List.cons_append, List.nil_append, List.append_nil, ↓sRet, ↓sRetN, ↓sSeq, ↓sNil, ↓sIf, ↓sSet, ↓sPar, ↓sPar3, ↓sAsg, ↓sDrop, ↓sSetL, ↓eAnd, ↓eOr, ↓eNot, ↓eIf, ↓eNeg, ↓eCall, ↓eCallK, ↓eCallV, ↓lCons, ↓lNil, ↓eVar, ↓eC, ↓eTup, ↓eLst, ↓eLstC, ↓eOp, ↓eSl, ↓oNo, ↓oPart, ↓eBits, ↓tBool, ↓tAndA, ↓tOrA, ↓tNotA, ↓List.getElem?_cons_zero, ↓List.getElem?_cons_succ, ↓List.set_cons_zero, ↓List.set_cons_succ, ↓rInt, ↓rInt0, ↓rAddA, ↓rEqA, ↓rIsA, ↓rMax2A, ↓rMin2A, ↓rIntA, ↓rAbsA, bsel_true, bsel_false, wipeN, gNm, tYesA, ↓isNon, ↓isBlOf, ↓isI, ↓isB, ↓isS, ↓isT, ↓isL, Bool.or_false, Bool.or_true, Bool.false_or, Bool.true_or, ↓wList, ↓eLc, ↓rLenA, ↓sFor, ↓sWhile, ↓wRng1, ↓wRng2, ↓wTup, ↓wEnum, ↓eChain, ↓eListR1, ↓eLenSet, ↓eRev, ↓eInR, ↓eApp, ↓ePop, ↓eValue, ↓xDrop, ↓xRet, ↓xSet, ↓xCall, ↓xCallV, ↓sRaise, ↓eCallVL, ↓eLam3, startNF, Bool.not_true, Bool.not_false, Bool.false_eq_true, ↓reduceIte, Bool.not_not])
    refine isi_lt kd ?_
    (try simp only [startN, List.map_cons, List.map_nil, List.length_cons, List.length_nil, Nat.reduceAdd, Nat.reduceSub, Nat.zero_add, Nat.sub_self, List.replicate_succ, List.replicate_zero, List.reduceReplicate, List.cons_append, List.nil_append, List.append_nil, ↓sRet, ↓sRetN, ↓sSeq, ↓sNil, ↓sIf, ↓sSet, ↓sPar, ↓sPar3, ↓sAsg, ↓sDrop, ↓sSetL, ↓eAnd, ↓eOr, ↓eNot, ↓eIf, ↓eNeg, ↓eCall, ↓eCallK, ↓eCallV, ↓lCons, ↓lNil, ↓eVar, ↓eC, ↓eTup, ↓eLst, ↓eLstC, ↓eOp, ↓eSl, ↓oNo, ↓oPart, ↓eBits, ↓tBool, ↓tAndA, ↓tOrA, ↓tNotA, ↓List.getElem?_cons_zero, ↓List.getElem?_cons_succ, ↓List.set_cons_zero, ↓List.set_cons_succ, ↓rInt, ↓rInt0, ↓rAddA, ↓rEqA, ↓rIsA, ↓rMax2A, ↓rMin2A, ↓rIntA, ↓rAbsA, bsel_true, bsel_false, wipeN, gNm, tYesA, ↓isNon, ↓isBlOf, ↓isI, ↓isB, ↓isS, ↓isT, ↓isL, Bool.or_false, Bool.or_true, Bool.false_or, Bool.true_or, ↓wList, ↓eLc, ↓rLenA, ↓sFor, ↓sWhile, ↓wRng1, ↓wRng2, ↓wTup, ↓wEnum, ↓eChain, ↓eListR1, ↓eLenSet, ↓eRev, ↓eInR, ↓eApp, ↓ePop, ↓eValue, ↓xDrop, ↓xRet, ↓xSet, ↓xCall, ↓xCallV, ↓sRaise, ↓eCallVL, ↓eLam3, startNF, Bool.not_true, Bool.not_false, Bool.false_eq_true, ↓reduceIte, Bool.not_not])
    refine isi_int kd ?_
    (try simp only [startN, List.map_cons, List.map_nil, List.length_cons, List.length_nil, Nat.reduceAdd, Nat.reduceSub, Nat.zero_add, Nat.sub_self, List.replicate_succ, List.replicate_zero, List.reduceReplicate, List.cons_append, List.nil_append, List.append_nil, ↓sRet, ↓sRetN, ↓sSeq, ↓sNil, ↓sIf, ↓sSet, ↓sPar, ↓sPar3, ↓sAsg, ↓sDrop, ↓sSetL, ↓eAnd, ↓eOr, ↓eNot, ↓eIf, ↓eNeg, ↓eCall, ↓eCallK, ↓eCallV, ↓lCons, ↓lNil, ↓eVar, ↓eC, ↓eTup, ↓eLst, ↓eLstC, ↓eOp, ↓eSl, ↓oNo, ↓oPart, ↓eBits, ↓tBool, ↓tAndA, ↓tOrA, ↓tNotA, ↓List.getElem?_cons_zero, ↓List.getElem?_cons_succ, ↓List.set_cons_zero, ↓List.set_cons_succ, ↓rInt, ↓rInt0, ↓rAddA, ↓rEqA, ↓rIsA, ↓rMax2A, ↓rMin2A, ↓rIntA, ↓rAbsA, bsel_true, bsel_false, wipeN, gNm, tYesA, ↓isNon, ↓isBlOf, ↓isI, ↓isB, ↓isS, ↓isT, ↓isL, Bool.or_false, Bool.or_true, Bool.false_or, Bool.true_or, ↓wList, ↓eLc, ↓rLenA, ↓sFor, ↓sWhile, ↓wRng1, ↓wRng2, ↓wTup, ↓wEnum, ↓eChain, ↓eListR1, ↓eLenSet, ↓eRev, ↓eInR, ↓eApp, ↓ePop, ↓eValue, ↓xDrop, ↓xRet, ↓xSet, ↓xCall, ↓xCallV, ↓sRaise, ↓eCallVL, ↓eLam3, startNF, Bool.not_true, Bool.not_false, Bool.false_eq_true, ↓reduceIte, Bool.not_not])
    refine isi_int kt ?_
    cases t with
    | int j =>
      (try simp only [startN, List.map_cons, List.map_nil, List.length_cons, List.length_nil, Nat.reduceAdd, Nat.reduceSub, Nat.zero_add, Nat.sub_self, List.replicate_succ, List.replicate_zero, List.reduceReplicate, List.cons_append, List.nil_append, List.append_nil, ↓sRet, ↓sRetN, ↓sSeq, ↓sNil, ↓sIf, ↓sSet, ↓sPar, ↓sPar3, ↓sAsg, ↓sDrop, ↓sSetL, ↓eAnd, ↓eOr, ↓eNot, ↓eIf, ↓eNeg, ↓eCall, ↓eCallK, ↓eCallV, ↓lCons, ↓lNil, ↓eVar, ↓eC, ↓eTup, ↓eLst, ↓eLstC, ↓eOp, ↓eSl, ↓oNo, ↓oPart, ↓eBits, ↓tBool, ↓tAndA, ↓tOrA, ↓tNotA, ↓List.getElem?_cons_zero, ↓List.getElem?_cons_succ, ↓List.set_cons_zero, ↓List.set_cons_succ, ↓rInt, ↓rInt0, ↓rAddA, ↓rEqA, ↓rIsA, ↓rMax2A, ↓rMin2A, ↓rIntA, ↓rAbsA, bsel_true, bsel_false, wipeN, gNm, tYesA, ↓isNon, ↓isBlOf, ↓isI, ↓isB, ↓isS, ↓isT, ↓isL, Bool.or_false, Bool.or_true, Bool.false_or, Bool.true_or, ↓wList, ↓eLc, ↓rLenA, ↓sFor, ↓sWhile, ↓wRng1, ↓wRng2, ↓wTup, ↓wEnum, ↓eChain, ↓eListR1, ↓eLenSet, ↓eRev, ↓eInR, ↓eApp, ↓ePop, ↓eValue, ↓xDrop, ↓xRet, ↓xSet, ↓xCall, ↓xCallV, ↓sRaise, ↓eCallVL, ↓eLam3, startNF, Bool.not_true, Bool.not_false, Bool.false_eq_true, ↓reduceIte, Bool.not_not])
      refine isi_bool kt ?_
      (try simp only [startN, List.map_cons, List.map_nil, List.length_cons, List.length_nil, Nat.reduceAdd, Nat.reduceSub, Nat.zero_add, Nat.sub_self, List.replicate_succ, List.replicate_zero, List.reduceReplicate, List.cons_append, List.nil_append, List.append_nil, ↓sRet, ↓sRetN, ↓sSeq, ↓sNil, ↓sIf, ↓sSet, ↓sPar, ↓sPar3, ↓sAsg, ↓sDrop, ↓sSetL, ↓eAnd, ↓eOr, ↓eNot, ↓eIf, ↓eNeg, ↓eCall, ↓eCallK, ↓eCallV, ↓lCons, ↓lNil, ↓eVar, ↓eC, ↓eTup, ↓eLst, ↓eLstC, ↓eOp, ↓eSl, ↓oNo, ↓oPart, ↓eBits, ↓tBool, ↓tAndA, ↓tOrA, ↓tNotA, ↓List.getElem?_cons_zero, ↓List.getElem?_cons_succ, ↓List.set_cons_zero, ↓List.set_cons_succ, ↓rInt, ↓rInt0, ↓rAddA, ↓rEqA, ↓rIsA, ↓rMax2A, ↓rMin2A, ↓rIntA, ↓rAbsA, bsel_true, bsel_false, wipeN, gNm, tYesA, ↓isNon, ↓isBlOf, ↓isI, ↓isB, ↓isS, ↓isT, ↓isL, Bool.or_false, Bool.or_true, Bool.false_or, Bool.true_or, ↓wList, ↓eLc, ↓rLenA, ↓sFor, ↓sWhile, ↓wRng1, ↓wRng2, ↓wTup, ↓wEnum, ↓eChain, ↓eListR1, ↓eLenSet, ↓eRev, ↓eInR, ↓eApp, ↓ePop, ↓eValue, ↓xDrop, ↓xRet, ↓xSet, ↓xCall, ↓xCallV, ↓sRaise, ↓eCallVL, ↓eLam3, startNF, Bool.not_true, Bool.not_false, Bool.false_eq_true, ↓reduceIte, Bool.not_not])
      exact k _ (by simp)
    | bl j =>
      (try simp only [startN, List.map_cons, List.map_nil, List.length_cons, List.length_nil, Nat.reduceAdd, Nat.reduceSub, Nat.zero_add, Nat.sub_self, List.replicate_succ, List.replicate_zero, List.reduceReplicate, List.cons_append, List.nil_append, List.append_nil, ↓sRet, ↓sRetN, ↓sSeq, ↓sNil, ↓sIf, ↓sSet, ↓sPar, ↓sPar3, ↓sAsg, ↓sDrop, ↓sSetL, ↓eAnd, ↓eOr, ↓eNot, ↓eIf, ↓eNeg, ↓eCall, ↓eCallK, ↓eCallV, ↓lCons, ↓lNil, ↓eVar, ↓eC, ↓eTup, ↓eLst, ↓eLstC, ↓eOp, ↓eSl, ↓oNo, ↓oPart, ↓eBits, ↓tBool, ↓tAndA, ↓tOrA, ↓tNotA, ↓List.getElem?_cons_zero, ↓List.getElem?_cons_succ, ↓List.set_cons_zero, ↓List.set_cons_succ, ↓rInt, ↓rInt0, ↓rAddA, ↓rEqA, ↓rIsA, ↓rMax2A, ↓rMin2A, ↓rIntA, ↓rAbsA, bsel_true, bsel_false, wipeN, gNm, tYesA, ↓isNon, ↓isBlOf, ↓isI, ↓isB, ↓isS, ↓isT, ↓isL, Bool.or_false, Bool.or_true, Bool.false_or, Bool.true_or, ↓wList, ↓eLc, ↓rLenA, ↓sFor, ↓sWhile, ↓wRng1, ↓wRng2, ↓wTup, ↓wEnum, ↓eChain, ↓eListR1, ↓eLenSet, ↓eRev, ↓eInR, ↓eApp, ↓ePop, ↓eValue, ↓xDrop, ↓xRet, ↓xSet, ↓xCall, ↓xCallV, ↓sRaise, ↓eCallVL, ↓eLam3, startNF, Bool.not_true, Bool.not_false, Bool.false_eq_true, ↓reduceIte, Bool.not_not])
      refine isi_bool kt ?_
      (try simp only [startN, List.map_cons, List.map_nil, List.length_cons, List.length_nil, Nat.reduceAdd, Nat.reduceSub, Nat.zero_add, Nat.sub_self, List.replicate_succ, List.replicate_zero, List.reduceReplicate, List.cons_append, List.nil_append, List.append_nil, ↓sRet, ↓sRetN, ↓sSeq, ↓sNil, ↓sIf, ↓sSet, ↓sPar, ↓sPar3, ↓sAsg, ↓sDrop, ↓sSetL, ↓eAnd, ↓eOr, ↓eNot, ↓eIf, ↓eNeg, ↓eCall, ↓eCallK, ↓eCallV, ↓lCons, ↓lNil, ↓eVar, ↓eC, ↓eTup, ↓eLst, ↓eLstC, ↓eOp, ↓eSl, ↓oNo, ↓oPart, ↓eBits, ↓tBool, ↓tAndA, ↓tOrA, ↓tNotA, ↓List.getElem?_cons_zero, ↓List.getElem?_cons_succ, ↓List.set_cons_zero, ↓List.set_cons_succ, ↓rInt, ↓rInt0, ↓rAddA, ↓rEqA, ↓rIsA, ↓rMax2A, ↓rMin2A, ↓rIntA, ↓rAbsA, bsel_true, bsel_false, wipeN, gNm, tYesA, ↓isNon, ↓isBlOf, ↓isI, ↓isB, ↓isS, ↓isT, ↓isL, Bool.or_false, Bool.or_true, Bool.false_or, Bool.true_or, ↓wList, ↓eLc, ↓rLenA, ↓sFor, ↓sWhile, ↓wRng1, ↓wRng2, ↓wTup, ↓wEnum, ↓eChain, ↓eListR1, ↓eLenSet, ↓eRev, ↓eInR, ↓eApp, ↓ePop, ↓eValue, ↓xDrop, ↓xRet, ↓xSet, ↓xCall, ↓xCallV, ↓sRaise, ↓eCallVL, ↓eLam3, startNF, Bool.not_true, Bool.not_false, Bool.false_eq_true, ↓reduceIte, Bool.not_not])
      exact k _ (by simp)
    | _ => (try simp only [startN, List.map_cons, List.map_nil, List.length_cons, List.length_nil, Nat.reduceAdd, Nat.reduceSub, Nat.zero_add, Nat.sub_self, List.replicate_succ, List.replicate_zero, List.reduceReplicate, List.cons_append, List.nil_append, List.append_nil, ↓sRet, ↓sRetN, ↓sSeq, ↓sNil, ↓sIf, ↓sSet, ↓sPar, ↓sPar3, ↓sAsg, ↓sDrop, ↓sSetL, ↓eAnd, ↓eOr, ↓eNot, ↓eIf, ↓eNeg, ↓eCall, ↓eCallK, ↓eCallV, ↓lCons, ↓lNil, ↓eVar, ↓eC, ↓eTup, ↓eLst, ↓eLstC, ↓eOp, ↓eSl, ↓oNo, ↓oPart, ↓eBits, ↓tBool, ↓tAndA, ↓tOrA, ↓tNotA, ↓List.getElem?_cons_zero, ↓List.getElem?_cons_succ, ↓List.set_cons_zero, ↓List.set_cons_succ, ↓rInt, ↓rInt0, ↓rAddA, ↓rEqA, ↓rIsA, ↓rMax2A, ↓rMin2A, ↓rIntA, ↓rAbsA, bsel_true, bsel_false, wipeN, gNm, tYesA, ↓isNon, ↓isBlOf, ↓isI, ↓isB, ↓isS, ↓isT, ↓isL, Bool.or_false, Bool.or_true, Bool.false_or, Bool.true_or, ↓wList, ↓eLc, ↓rLenA, ↓sFor, ↓sWhile, ↓wRng1, ↓wRng2, ↓wTup, ↓wEnum, ↓eChain, ↓eListR1, ↓eLenSet, ↓eRev, ↓eInR, ↓eApp, ↓ePop, ↓eValue, ↓xDrop, ↓xRet, ↓xSet, ↓xCall, ↓xCallV, ↓sRaise, ↓eCallVL, ↓eLam3, startNF, Bool.not_true, Bool.not_false, Bool.false_eq_true, ↓reduceIte, Bool.not_not]); exact k _ (by simp)
  | str i =>
    (try simp only [startN, List.map_cons, List.map_nil, List.length_cons, List.length_nil, Nat.reduceAdd, Nat.reduceSub, Nat.zero_add, Nat.sub_self, List.replicate_succ, List.replicate_zero, List.reduceReplicate, List.cons_append, List.nil_append, List.append_nil, ↓sRet, ↓sRetN, ↓sSeq, ↓sNil, ↓sIf, ↓sSet, ↓sPar, ↓sPar3, ↓sAsg, ↓sDrop, ↓sSetL, ↓eAnd, ↓eOr, ↓eNot, ↓eIf, ↓eNeg, ↓eCall, ↓eCallK, ↓eCallV, ↓lCons, ↓lNil, ↓eVar, ↓eC, ↓eTup, ↓eLst, ↓eLstC, ↓eOp, ↓eSl, ↓oNo, ↓oPart, ↓eBits, ↓tBool, ↓tAndA, ↓tOrA, ↓tNotA, ↓List.getElem?_cons_zero, ↓List.getElem?_cons_succ, ↓List.set_cons_zero, ↓List.set_cons_succ, ↓rInt, ↓rInt0, ↓rAddA, ↓rEqA, ↓rIsA, ↓rMax2A, ↓rMin2A, ↓rIntA, ↓rAbsA, bsel_true, bsel_false, wipeN, gNm, tYesA, ↓isNon, ↓isBlOf, ↓isI, ↓isB, ↓isS, ↓isT, ↓isL, Bool.or_false, Bool.or_true, Bool.false_or, Bool.true_or, ↓wList, ↓eLc, ↓rLenA, ↓sFor, ↓sWhile, ↓wRng1, ↓wRng2, ↓wTup, ↓wEnum, ↓eChain, ↓eListR1, ↓eLenSet, ↓eRev, ↓eInR, ↓eApp, ↓ePop, ↓eValue, ↓xDrop, ↓xRet, ↓xSet, ↓xCall, ↓xCallV, ↓sRaise, ↓eCallVL, ↓eLam3, startNF, Bool.not_true, Bool.not_false, Bool.false_eq_true, ↓reduceIte, Bool.not_not])
    refine isi_lt kd ?_
    (try simp only [startN, List.map_cons, List.map_nil, List.length_cons, List.length_nil, Nat.reduceAdd, Nat.reduceSub, Nat.zero_add, Nat.sub_self, List.replicate_succ, List.replicate_zero, List.reduceReplicate, List.cons_append, List.nil_append, List.append_nil, ↓sRet, ↓sRetN, ↓sSeq, ↓sNil, ↓sIf, ↓sSet, ↓sPar, ↓sPar3, ↓sAsg, ↓sDrop, ↓sSetL, ↓eAnd, ↓eOr, ↓eNot, ↓eIf, ↓eNeg, ↓eCall, ↓eCallK, ↓eCallV, ↓lCons, ↓lNil, ↓eVar, ↓eC, ↓eTup, ↓eLst, ↓eLstC, ↓eOp, ↓eSl, ↓oNo, ↓oPart, ↓eBits, ↓tBool, ↓tAndA, ↓tOrA, ↓tNotA, ↓List.getElem?_cons_zero, ↓List.getElem?_cons_succ, ↓List.set_cons_zero, ↓List.set_cons_succ, ↓rInt, ↓rInt0, ↓rAddA, ↓rEqA, ↓rIsA, ↓rMax2A, ↓rMin2A, ↓rIntA, ↓rAbsA, bsel_true, bsel_false, wipeN, gNm, tYesA, ↓isNon, ↓isBlOf, ↓isI, ↓isB, ↓isS, ↓isT, ↓isL, Bool.or_false, Bool.or_true, Bool.false_or, Bool.true_or, ↓wList, ↓eLc, ↓rLenA, ↓sFor, ↓sWhile, ↓wRng1, ↓wRng2, ↓wTup, ↓wEnum, ↓eChain, ↓eListR1, ↓eLenSet, ↓eRev, ↓eInR, ↓eApp, ↓ePop, ↓eValue, ↓xDrop, ↓xRet, ↓xSet, ↓xCall, ↓xCallV, ↓sRaise, ↓eCallVL, ↓eLam3, startNF, Bool.not_true, Bool.not_false, Bool.false_eq_true, ↓reduceIte, Bool.not_not])
    refine isi_int kd ?_
    (try simp only [startN, List.map_cons, List.map_nil, List.length_cons, List.length_nil, Nat.reduceAdd, Nat.reduceSub, Nat.zero_add, Nat.sub_self, List.replicate_succ, List.replicate_zero, List.reduceReplicate, List.cons_append, List.nil_append, List.append_nil, ↓sRet, ↓sRetN, ↓sSeq, ↓sNil, ↓sIf, ↓sSet, ↓sPar, ↓sPar3, ↓sAsg, ↓sDrop, ↓sSetL, ↓eAnd, ↓eOr, ↓eNot, ↓eIf, ↓eNeg, ↓eCall, ↓eCallK, ↓eCallV, ↓lCons, ↓lNil, ↓eVar, ↓eC, ↓eTup, ↓eLst, ↓eLstC, ↓eOp, ↓eSl, ↓oNo, ↓oPart, ↓eBits, ↓tBool, ↓tAndA, ↓tOrA, ↓tNotA, ↓List.getElem?_cons_zero, ↓List.getElem?_cons_succ, ↓List.set_cons_zero, ↓List.set_cons_succ, ↓rInt, ↓rInt0, ↓rAddA, ↓rEqA, ↓rIsA, ↓rMax2A, ↓rMin2A, ↓rIntA, ↓rAbsA, bsel_true, bsel_false, wipeN, gNm, tYesA, ↓isNon, ↓isBlOf, ↓isI, ↓isB, ↓isS, ↓isT, ↓isL, Bool.or_false, Bool.or_true, Bool.false_or, Bool.true_or, ↓wList, ↓eLc, ↓rLenA, ↓sFor, ↓sWhile, ↓wRng1, ↓wRng2, ↓wTup, ↓wEnum, ↓eChain, ↓eListR1, ↓eLenSet, ↓eRev, ↓eInR, ↓eApp, ↓ePop, ↓eValue, ↓xDrop, ↓xRet, ↓xSet, ↓xCall, ↓xCallV, ↓sRaise, ↓eCallVL, ↓eLam3, startNF, Bool.not_true, Bool.not_false, Bool.false_eq_true, ↓reduceIte, Bool.not_not])
    refine isi_str kt ?_
    cases t with
    | str j =>
      (try simp only [startN, List.map_cons, List.map_nil, List.length_cons, List.length_nil, Nat.reduceAdd, Nat.reduceSub, Nat.zero_add, Nat.sub_self, List.replicate_succ, List.replicate_zero, List.reduceReplicate, List.cons_append, List.nil_append, List.append_nil, ↓sRet, ↓sRetN, ↓sSeq, ↓sNil, ↓sIf, ↓sSet, ↓sPar, ↓sPar3, ↓sAsg, ↓sDrop, ↓sSetL, ↓eAnd, ↓eOr, ↓eNot, ↓eIf, ↓eNeg, ↓eCall, ↓eCallK, ↓eCallV, ↓lCons, ↓lNil, ↓eVar, ↓eC, ↓eTup, ↓eLst, ↓eLstC, ↓eOp, ↓eSl, ↓oNo, ↓oPart, ↓eBits, ↓tBool, ↓tAndA, ↓tOrA, ↓tNotA, ↓List.getElem?_cons_zero, ↓List.getElem?_cons_succ, ↓List.set_cons_zero, ↓List.set_cons_succ, ↓rInt, ↓rInt0, ↓rAddA, ↓rEqA, ↓rIsA, ↓rMax2A, ↓rMin2A, ↓rIntA, ↓rAbsA, bsel_true, bsel_false, wipeN, gNm, tYesA, ↓isNon, ↓isBlOf, ↓isI, ↓isB, ↓isS, ↓isT, ↓isL, Bool.or_false, Bool.or_true, Bool.false_or, Bool.true_or, ↓wList, ↓eLc, ↓rLenA, ↓sFor, ↓sWhile, ↓wRng1, ↓wRng2, ↓wTup, ↓wEnum, ↓eChain, ↓eListR1, ↓eLenSet, ↓eRev, ↓eInR, ↓eApp, ↓ePop, ↓eValue, ↓xDrop, ↓xRet, ↓xSet, ↓xCall, ↓xCallV, ↓sRaise, ↓eCallVL, ↓eLam3, startNF, Bool.not_true, Bool.not_false, Bool.false_eq_true, ↓reduceIte, Bool.not_not])
      exact k _ (by simp)
    | _ => (try simp only [startN, List.map_cons, List.map_nil, List.length_cons, List.length_nil, Nat.reduceAdd, Nat.reduceSub, Nat.zero_add, Nat.sub_self, List.replicate_succ, List.replicate_zero, List.reduceReplicate, List.cons_append, List.nil_append, List.append_nil, ↓sRet, ↓sRetN, ↓sSeq, ↓sNil, ↓sIf, ↓sSet, ↓sPar, ↓sPar3, ↓sAsg, ↓sDrop, ↓sSetL, ↓eAnd, ↓eOr, ↓eNot, ↓eIf, ↓eNeg, ↓eCall, ↓eCallK, ↓eCallV, ↓lCons, ↓lNil, ↓eVar, ↓eC, ↓eTup, ↓eLst, ↓eLstC, ↓eOp, ↓eSl, ↓oNo, ↓oPart, ↓eBits, ↓tBool, ↓tAndA, ↓tOrA, ↓tNotA, ↓List.getElem?_cons_zero, ↓List.getElem?_cons_succ, ↓List.set_cons_zero, ↓List.set_cons_succ, ↓rInt, ↓rInt0, ↓rAddA, ↓rEqA, ↓rIsA, ↓rMax2A, ↓rMin2A, ↓rIntA, ↓rAbsA, bsel_true, bsel_false, wipeN, gNm, tYesA, ↓isNon, ↓isBlOf, ↓isI, ↓isB, ↓isS, ↓isT, ↓isL, Bool.or_false, Bool.or_true, Bool.false_or, Bool.true_or, ↓wList, ↓eLc, ↓rLenA, ↓sFor, ↓sWhile, ↓wRng1, ↓wRng2, ↓wTup, ↓wEnum, ↓eChain, ↓eListR1, ↓eLenSet, ↓eRev, ↓eInR, ↓eApp, ↓ePop, ↓eValue, ↓xDrop, ↓xRet, ↓xSet, ↓xCall, ↓xCallV, ↓sRaise, ↓eCallVL, ↓eLam3, startNF, Bool.not_true, Bool.not_false, Bool.false_eq_true, ↓reduceIte, Bool.not_not]); exact k _ (by simp)
  | lst ys =>
    (try simp only [startN, List.map_cons, List.map_nil, List.length_cons, List.length_nil, Nat.reduceAdd, Nat.reduceSub, Nat.zero_add, Nat.sub_self, List.replicate_succ, List.replicate_zero, List.reduceReplicate, List.cons_append, List.nil_append, List.append_nil, ↓sRet, ↓sRetN, ↓sSeq, ↓sNil, ↓sIf, ↓sSet, ↓sPar, ↓sPar3, ↓sAsg, ↓sDrop, ↓sSetL, ↓eAnd, ↓eOr, ↓eNot, ↓eIf, ↓eNeg, ↓eCall, ↓eCallK, ↓eCallV, ↓lCons, ↓lNil, ↓eVar, ↓eC, ↓eTup, ↓eLst, ↓eLstC, ↓eOp, ↓eSl, ↓oNo, ↓oPart, ↓eBits, ↓tBool, ↓tAndA, ↓tOrA, ↓tNotA, ↓List.getElem?_cons_zero, ↓List.getElem?_cons_succ, ↓List.set_cons_zero, ↓List.set_cons_succ, ↓rInt, ↓rInt0, ↓rAddA, ↓rEqA, ↓rIsA, ↓rMax2A, ↓rMin2A, ↓rIntA, ↓rAbsA, bsel_true, bsel_false, wipeN, gNm, tYesA, ↓isNon, ↓isBlOf, ↓isI, ↓isB, ↓isS, ↓isT, ↓isL, Bool.or_false, Bool.or_true, Bool.false_or, Bool.true_or, ↓wList, ↓eLc, ↓rLenA, ↓sFor, ↓sWhile, ↓wRng1, ↓wRng2, ↓wTup, ↓wEnum, ↓eChain, ↓eListR1, ↓eLenSet, ↓eRev, ↓eInR, ↓eApp, ↓ePop, ↓eValue, ↓xDrop, ↓xRet, ↓xSet, ↓xCall, ↓xCallV, ↓sRaise, ↓eCallVL, ↓eLam3, startNF, Bool.not_true, Bool.not_false, Bool.false_eq_true, ↓reduceIte, Bool.not_not])
    refine isi_lt kd ?_
    (try simp only [startN, List.map_cons, List.map_nil, List.length_cons, List.length_nil, Nat.reduceAdd, Nat.reduceSub, Nat.zero_add, Nat.sub_self, List.replicate_succ, List.replicate_zero, List.reduceReplicate, List.cons_append, List.nil_append, List.append_nil, ↓sRet, ↓sRetN, ↓sSeq, ↓sNil, ↓sIf, ↓sSet, ↓sPar, ↓sPar3, ↓sAsg, ↓sDrop, ↓sSetL, ↓eAnd, ↓eOr, ↓eNot, ↓eIf, ↓eNeg, ↓eCall, ↓eCallK, ↓eCallV, ↓lCons, ↓lNil, ↓eVar, ↓eC, ↓eTup, ↓eLst, ↓eLstC, ↓eOp, ↓eSl, ↓oNo, ↓oPart, ↓eBits, ↓tBool, ↓tAndA, ↓tOrA, ↓tNotA, ↓List.getElem?_cons_zero, ↓List.getElem?_cons_succ, ↓List.set_cons_zero, ↓List.set_cons_succ, ↓rInt, ↓rInt0, ↓rAddA, ↓rEqA, ↓rIsA, ↓rMax2A, ↓rMin2A, ↓rIntA, ↓rAbsA, bsel_true, bsel_false, wipeN, gNm, tYesA, ↓isNon, ↓isBlOf, ↓isI, ↓isB, ↓isS, ↓isT, ↓isL, Bool.or_false, Bool.or_true, Bool.false_or, Bool.true_or, ↓wList, ↓eLc, ↓rLenA, ↓sFor, ↓sWhile, ↓wRng1, ↓wRng2, ↓wTup, ↓wEnum, ↓eChain, ↓eListR1, ↓eLenSet, ↓eRev, ↓eInR, ↓eApp, ↓ePop, ↓eValue, ↓xDrop, ↓xRet, ↓xSet, ↓xCall, ↓xCallV, ↓sRaise, ↓eCallVL, ↓eLam3, startNF, Bool.not_true, Bool.not_false, Bool.false_eq_true, ↓reduceIte, Bool.not_not])
    refine isi_list kt ?_
    cases t with
    | ref _ => cases nt
    | ty _ => cases nt
    | lst xs =>
      (try simp only [startN, List.map_cons, List.map_nil, List.length_cons, List.length_nil, Nat.reduceAdd, Nat.reduceSub, Nat.zero_add, Nat.sub_self, List.replicate_succ, List.replicate_zero, List.reduceReplicate, List.cons_append, List.nil_append, List.append_nil, ↓sRet, ↓sRetN, ↓sSeq, ↓sNil, ↓sIf, ↓sSet, ↓sPar, ↓sPar3, ↓sAsg, ↓sDrop, ↓sSetL, ↓eAnd, ↓eOr, ↓eNot, ↓eIf, ↓eNeg, ↓eCall, ↓eCallK, ↓eCallV, ↓lCons, ↓lNil, ↓eVar, ↓eC, ↓eTup, ↓eLst, ↓eLstC, ↓eOp, ↓eSl, ↓oNo, ↓oPart, ↓eBits, ↓tBool, ↓tAndA, ↓tOrA, ↓tNotA, ↓List.getElem?_cons_zero, ↓List.getElem?_cons_succ, ↓List.set_cons_zero, ↓List.set_cons_succ, ↓rInt, ↓rInt0, ↓rAddA, ↓rEqA, ↓rIsA, ↓rMax2A, ↓rMin2A, ↓rIntA, ↓rAbsA, bsel_true, bsel_false, wipeN, gNm, tYesA, ↓isNon, ↓isBlOf, ↓isI, ↓isB, ↓isS, ↓isT, ↓isL, Bool.or_false, Bool.or_true, Bool.false_or, Bool.true_or, ↓wList, ↓eLc, ↓rLenA, ↓sFor, ↓sWhile, ↓wRng1, ↓wRng2, ↓wTup, ↓wEnum, ↓eChain, ↓eListR1, ↓eLenSet, ↓eRev, ↓eInR, ↓eApp, ↓ePop, ↓eValue, ↓xDrop, ↓xRet, ↓xSet, ↓xCall, ↓xCallV, ↓sRaise, ↓eCallVL, ↓eLam3, startNF, Bool.not_true, Bool.not_false, Bool.false_eq_true, ↓reduceIte, Bool.not_not])
      refine isi_tuple kt ?_
      (try simp only [startN, List.map_cons, List.map_nil, List.length_cons, List.length_nil, Nat.reduceAdd, Nat.reduceSub, Nat.zero_add, Nat.sub_self, List.replicate_succ, List.replicate_zero, List.reduceReplicate, List.cons_append, List.nil_append, List.append_nil, ↓sRet, ↓sRetN, ↓sSeq, ↓sNil, ↓sIf, ↓sSet, ↓sPar, ↓sPar3, ↓sAsg, ↓sDrop, ↓sSetL, ↓eAnd, ↓eOr, ↓eNot, ↓eIf, ↓eNeg, ↓eCall, ↓eCallK, ↓eCallV, ↓lCons, ↓lNil, ↓eVar, ↓eC, ↓eTup, ↓eLst, ↓eLstC, ↓eOp, ↓eSl, ↓oNo, ↓oPart, ↓eBits, ↓tBool, ↓tAndA, ↓tOrA, ↓tNotA, ↓List.getElem?_cons_zero, ↓List.getElem?_cons_succ, ↓List.set_cons_zero, ↓List.set_cons_succ, ↓rInt, ↓rInt0, ↓rAddA, ↓rEqA, ↓rIsA, ↓rMax2A, ↓rMin2A, ↓rIntA, ↓rAbsA, bsel_true, bsel_false, wipeN, gNm, tYesA, ↓isNon, ↓isBlOf, ↓isI, ↓isB, ↓isS, ↓isT, ↓isL, Bool.or_false, Bool.or_true, Bool.false_or, Bool.true_or, ↓wList, ↓eLc, ↓rLenA, ↓sFor, ↓sWhile, ↓wRng1, ↓wRng2, ↓wTup, ↓wEnum, ↓eChain, ↓eListR1, ↓eLenSet, ↓eRev, ↓eInR, ↓eApp, ↓ePop, ↓eValue, ↓xDrop, ↓xRet, ↓xSet, ↓xCall, ↓xCallV, ↓sRaise, ↓eCallVL, ↓eLam3, startNF, Bool.not_true, Bool.not_false, Bool.false_eq_true, ↓reduceIte, Bool.not_not])
      refine isi_tuple kd ?_
      (try simp only [startN, List.map_cons, List.map_nil, List.length_cons, List.length_nil, Nat.reduceAdd, Nat.reduceSub, Nat.zero_add, Nat.sub_self, List.replicate_succ, List.replicate_zero, List.reduceReplicate, List.cons_append, List.nil_append, List.append_nil, ↓sRet, ↓sRetN, ↓sSeq, ↓sNil, ↓sIf, ↓sSet, ↓sPar, ↓sPar3, ↓sAsg, ↓sDrop, ↓sSetL, ↓eAnd, ↓eOr, ↓eNot, ↓eIf, ↓eNeg, ↓eCall, ↓eCallK, ↓eCallV, ↓lCons, ↓lNil, ↓eVar, ↓eC, ↓eTup, ↓eLst, ↓eLstC, ↓eOp, ↓eSl, ↓oNo, ↓oPart, ↓eBits, ↓tBool, ↓tAndA, ↓tOrA, ↓tNotA, ↓List.getElem?_cons_zero, ↓List.getElem?_cons_succ, ↓List.set_cons_zero, ↓List.set_cons_succ, ↓rInt, ↓rInt0, ↓rAddA, ↓rEqA, ↓rIsA, ↓rMax2A, ↓rMin2A, ↓rIntA, ↓rAbsA, bsel_true, bsel_false, wipeN, gNm, tYesA, ↓isNon, ↓isBlOf, ↓isI, ↓isB, ↓isS, ↓isT, ↓isL, Bool.or_false, Bool.or_true, Bool.false_or, Bool.true_or, ↓wList, ↓eLc, ↓rLenA, ↓sFor, ↓sWhile, ↓wRng1, ↓wRng2, ↓wTup, ↓wEnum, ↓eChain, ↓eListR1, ↓eLenSet, ↓eRev, ↓eInR, ↓eApp, ↓ePop, ↓eValue, ↓xDrop, ↓xRet, ↓xSet, ↓xCall, ↓xCallV, ↓sRaise, ↓eCallVL, ↓eLam3, startNF, Bool.not_true, Bool.not_false, Bool.false_eq_true, ↓reduceIte, Bool.not_not])
      refine ⟨xs, rfl, ys, rfl, ?_⟩
      (try simp only [startN, List.map_cons, List.map_nil, List.length_cons, List.length_nil, Nat.reduceAdd, Nat.reduceSub, Nat.zero_add, Nat.sub_self, List.replicate_succ, List.replicate_zero, List.reduceReplicate, List.cons_append, List.nil_append, List.append_nil, ↓sRet, ↓sRetN, ↓sSeq, ↓sNil, ↓sIf, ↓sSet, ↓sPar, ↓sPar3, ↓sAsg, ↓sDrop, ↓sSetL, ↓eAnd, ↓eOr, ↓eNot, ↓eIf, ↓eNeg, ↓eCall, ↓eCallK, ↓eCallV, ↓lCons, ↓lNil, ↓eVar, ↓eC, ↓eTup, ↓eLst, ↓eLstC, ↓eOp, ↓eSl, ↓oNo, ↓oPart, ↓eBits, ↓tBool, ↓tAndA, ↓tOrA, ↓tNotA, ↓List.getElem?_cons_zero, ↓List.getElem?_cons_succ, ↓List.set_cons_zero, ↓List.set_cons_succ, ↓rInt, ↓rInt0, ↓rAddA, ↓rEqA, ↓rIsA, ↓rMax2A, ↓rMin2A, ↓rIntA, ↓rAbsA, bsel_true, bsel_false, wipeN, gNm, tYesA, ↓isNon, ↓isBlOf, ↓isI, ↓isB, ↓isS, ↓isT, ↓isL, Bool.or_false, Bool.or_true, Bool.false_or, Bool.true_or, ↓wList, ↓eLc, ↓rLenA, ↓sFor, ↓sWhile, ↓wRng1, ↓wRng2, ↓wTup, ↓wEnum, ↓eChain, ↓eListR1, ↓eLenSet, ↓eRev, ↓eInR, ↓eApp, ↓ePop, ↓eValue, ↓xDrop, ↓xRet, ↓xSet, ↓xCall, ↓xCallV, ↓sRaise, ↓eCallVL, ↓eLam3, startNF, Bool.not_true, Bool.not_false, Bool.false_eq_true, ↓reduceIte, Bool.not_not])
      unfold dle at dd
      rw [Bool.and_eq_true] at dd
      have hy1 := of_decide_eq_true dd.2
      refine bsel_i (fun h => ?_) fun h => k _ ?_
      · have hl : xs.length = ys.length := by have := of_decide_eq_true h; omega
        refine ⟨ys, rfl, ⟨by omega, by omega⟩, by rw [rngA_len]; omega, fun i acc S' => S' = S ∧ ∃ ks : List Int, acc = ks.map .int ∧ (ks = [] ↔ ∀ j : Nat, j < i → xs[j]? = ys[j]?), ⟨rfl, [], rfl, by simp⟩, fun _ _ _ _ _ => trivial, ?_, ?_⟩
        · rintro i x acc S' hx ⟨rfl, ks, rfl, hk⟩
          obtain ⟨hi, rfl⟩ := rngA_at hx
          have hi2 : i < ys.length := by omega
          have ex : xs[i]? = some xs[i] := List.getElem?_eq_getElem (by omega)
          have ey : ys[i]? = some ys[i] := List.getElem?_eq_getElem hi2
          (try simp only [startN, List.map_cons, List.map_nil, List.length_cons, List.length_nil, Nat.reduceAdd, Nat.reduceSub, Nat.zero_add, Nat.sub_self, List.replicate_succ, List.replicate_zero, List.reduceReplicate, List.cons_append, List.nil_append, List.append_nil, ↓sRet, ↓sRetN, ↓sSeq, ↓sNil, ↓sIf, ↓sSet, ↓sPar, ↓sPar3, ↓sAsg, ↓sDrop, ↓sSetL, ↓eAnd, ↓eOr, ↓eNot, ↓eIf, ↓eNeg, ↓eCall, ↓eCallK, ↓eCallV, ↓lCons, ↓lNil, ↓eVar, ↓eC, ↓eTup, ↓eLst, ↓eLstC, ↓eOp, ↓eSl, ↓oNo, ↓oPart, ↓eBits, ↓tBool, ↓tAndA, ↓tOrA, ↓tNotA, ↓List.getElem?_cons_zero, ↓List.getElem?_cons_succ, ↓List.set_cons_zero, ↓List.set_cons_succ, ↓rInt, ↓rInt0, ↓rAddA, ↓rEqA, ↓rIsA, ↓rMax2A, ↓rMin2A, ↓rIntA, ↓rAbsA, bsel_true, bsel_false, wipeN, gNm, tYesA, ↓isNon, ↓isBlOf, ↓isI, ↓isB, ↓isS, ↓isT, ↓isL, Bool.or_false, Bool.or_true, Bool.false_or, Bool.true_or, ↓wList, ↓eLc, ↓rLenA, ↓sFor, ↓sWhile, ↓wRng1, ↓wRng2, ↓wTup, ↓wEnum, ↓eChain, ↓eListR1, ↓eLenSet, ↓eRev, ↓eInR, ↓eApp, ↓ePop, ↓eValue, ↓xDrop, ↓xRet, ↓xSet, ↓xCall, ↓xCallV, ↓sRaise, ↓eCallVL, ↓eLam3, startNF, Bool.not_true, Bool.not_false, Bool.false_eq_true, ↓reduceIte, Bool.not_not])
          rw [Int.zero_add]
          refine ⟨xs, _, rfl, atI_nat' ex, ys, _, rfl, atI_nat' ey, items xs ys nt nd dd.1 i _ _ _ ex ey fun b hb => ?_⟩
          (try simp only [startN, List.map_cons, List.map_nil, List.length_cons, List.length_nil, Nat.reduceAdd, Nat.reduceSub, Nat.zero_add, Nat.sub_self, List.replicate_succ, List.replicate_zero, List.reduceReplicate, List.cons_append, List.nil_append, List.append_nil, ↓sRet, ↓sRetN, ↓sSeq, ↓sNil, ↓sIf, ↓sSet, ↓sPar, ↓sPar3, ↓sAsg, ↓sDrop, ↓sSetL, ↓eAnd, ↓eOr, ↓eNot, ↓eIf, ↓eNeg, ↓eCall, ↓eCallK, ↓eCallV, ↓lCons, ↓lNil, ↓eVar, ↓eC, ↓eTup, ↓eLst, ↓eLstC, ↓eOp, ↓eSl, ↓oNo, ↓oPart, ↓eBits, ↓tBool, ↓tAndA, ↓tOrA, ↓tNotA, ↓List.getElem?_cons_zero, ↓List.getElem?_cons_succ, ↓List.set_cons_zero, ↓List.set_cons_succ, ↓rInt, ↓rInt0, ↓rAddA, ↓rEqA, ↓rIsA, ↓rMax2A, ↓rMin2A, ↓rIntA, ↓rAbsA, bsel_true, bsel_false, wipeN, gNm, tYesA, ↓isNon, ↓isBlOf, ↓isI, ↓isB, ↓isS, ↓isT, ↓isL, Bool.or_false, Bool.or_true, Bool.false_or, Bool.true_or, ↓wList, ↓eLc, ↓rLenA, ↓sFor, ↓sWhile, ↓wRng1, ↓wRng2, ↓wTup, ↓wEnum, ↓eChain, ↓eListR1, ↓eLenSet, ↓eRev, ↓eInR, ↓eApp, ↓ePop, ↓eValue, ↓xDrop, ↓xRet, ↓xSet, ↓xCall, ↓xCallV, ↓sRaise, ↓eCallVL, ↓eLam3, startNF, Bool.not_true, Bool.not_false, Bool.false_eq_true, ↓reduceIte, Bool.not_not])
          refine bsel_i (fun h => ?_) fun h => ?_
          · refine ⟨trivial, ks ++ [(i : Int)], by rw [List.map_append]; rfl, ?_⟩
            constructor
            · intro z
              exact absurd (List.append_eq_nil_iff.mp z).2 (by simp)
            · intro z
              have e := z i (by omega)
              rw [ex, ey] at e
              rw [hb.mpr (Option.some.inj e)] at h
              cases h
          · refine ⟨trivial, ks, rfl, hk.trans ⟨fun z j hj => ?_, fun z j hj => z j (by omega)⟩⟩
            by_cases hji : j < i
            · exact z j hji
            · have : j = i := by omega
              subst this
              rw [ex, ey, hb.mp (by simpa using h)]
        · rintro acc S' ⟨rfl, ks, rfl, hk⟩
          rw [rngA_len] at hk
          refine rEq_nil (fun _ => ⟨_, pyds_ints ks, shaped_ints ks⟩) (k _ ?_)
          show (ks.map A.int).isEmpty = true ↔ _
          rw [List.isEmpty_iff, List.map_eq_nil_iff, hk]
          constructor
          · intro z
            congr 1
            refine List.ext_getElem? fun j => ?_
            by_cases hj : j < ys.length
            · exact z j (by omega)
            · rw [List.getElem?_eq_none (by omega), List.getElem?_eq_none (by omega)]
          · intro z j hj
            cases z
            rfl
      · have hl := of_decide_eq_false h
        simp only [Bool.false_eq_true, false_iff]
        intro z
        cases z
        exact hl rfl
    | _ =>
      (try simp only [startN, List.map_cons, List.map_nil, List.length_cons, List.length_nil, Nat.reduceAdd, Nat.reduceSub, Nat.zero_add, Nat.sub_self, List.replicate_succ, List.replicate_zero, List.reduceReplicate, List.cons_append, List.nil_append, List.append_nil, ↓sRet, ↓sRetN, ↓sSeq, ↓sNil, ↓sIf, ↓sSet, ↓sPar, ↓sPar3, ↓sAsg, ↓sDrop, ↓sSetL, ↓eAnd, ↓eOr, ↓eNot, ↓eIf, ↓eNeg, ↓eCall, ↓eCallK, ↓eCallV, ↓lCons, ↓lNil, ↓eVar, ↓eC, ↓eTup, ↓eLst, ↓eLstC, ↓eOp, ↓eSl, ↓oNo, ↓oPart, ↓eBits, ↓tBool, ↓tAndA, ↓tOrA, ↓tNotA, ↓List.getElem?_cons_zero, ↓List.getElem?_cons_succ, ↓List.set_cons_zero, ↓List.set_cons_succ, ↓rInt, ↓rInt0, ↓rAddA, ↓rEqA, ↓rIsA, ↓rMax2A, ↓rMin2A, ↓rIntA, ↓rAbsA, bsel_true, bsel_false, wipeN, gNm, tYesA, ↓isNon, ↓isBlOf, ↓isI, ↓isB, ↓isS, ↓isT, ↓isL, Bool.or_false, Bool.or_true, Bool.false_or, Bool.true_or, ↓wList, ↓eLc, ↓rLenA, ↓sFor, ↓sWhile, ↓wRng1, ↓wRng2, ↓wTup, ↓wEnum, ↓eChain, ↓eListR1, ↓eLenSet, ↓eRev, ↓eInR, ↓eApp, ↓ePop, ↓eValue, ↓xDrop, ↓xRet, ↓xSet, ↓xCall, ↓xCallV, ↓sRaise, ↓eCallVL, ↓eLam3, startNF, Bool.not_true, Bool.not_false, Bool.false_eq_true, ↓reduceIte, Bool.not_not])
      refine isi_list kd ?_
      (try simp only [startN, List.map_cons, List.map_nil, List.length_cons, List.length_nil, Nat.reduceAdd, Nat.reduceSub, Nat.zero_add, Nat.sub_self, List.replicate_succ, List.replicate_zero, List.reduceReplicate, List.cons_append, List.nil_append, List.append_nil, ↓sRet, ↓sRetN, ↓sSeq, ↓sNil, ↓sIf, ↓sSet, ↓sPar, ↓sPar3, ↓sAsg, ↓sDrop, ↓sSetL, ↓eAnd, ↓eOr, ↓eNot, ↓eIf, ↓eNeg, ↓eCall, ↓eCallK, ↓eCallV, ↓lCons, ↓lNil, ↓eVar, ↓eC, ↓eTup, ↓eLst, ↓eLstC, ↓eOp, ↓eSl, ↓oNo, ↓oPart, ↓eBits, ↓tBool, ↓tAndA, ↓tOrA, ↓tNotA, ↓List.getElem?_cons_zero, ↓List.getElem?_cons_succ, ↓List.set_cons_zero, ↓List.set_cons_succ, ↓rInt, ↓rInt0, ↓rAddA, ↓rEqA, ↓rIsA, ↓rMax2A, ↓rMin2A, ↓rIntA, ↓rAbsA, bsel_true, bsel_false, wipeN, gNm, tYesA, ↓isNon, ↓isBlOf, ↓isI, ↓isB, ↓isS, ↓isT, ↓isL, Bool.or_false, Bool.or_true, Bool.false_or, Bool.true_or, ↓wList, ↓eLc, ↓rLenA, ↓sFor, ↓sWhile, ↓wRng1, ↓wRng2, ↓wTup, ↓wEnum, ↓eChain, ↓eListR1, ↓eLenSet, ↓eRev, ↓eInR, ↓eApp, ↓ePop, ↓eValue, ↓xDrop, ↓xRet, ↓xSet, ↓xCall, ↓xCallV, ↓sRaise, ↓eCallVL, ↓eLam3, startNF, Bool.not_true, Bool.not_false, Bool.false_eq_true, ↓reduceIte, Bool.not_not])
      exact k _ (by simp)
  | tup ys =>
    (try simp only [startN, List.map_cons, List.map_nil, List.length_cons, List.length_nil, Nat.reduceAdd, Nat.reduceSub, Nat.zero_add, Nat.sub_self, List.replicate_succ, List.replicate_zero, List.reduceReplicate, List.cons_append, List.nil_append, List.append_nil, ↓sRet, ↓sRetN, ↓sSeq, ↓sNil, ↓sIf, ↓sSet, ↓sPar, ↓sPar3, ↓sAsg, ↓sDrop, ↓sSetL, ↓eAnd, ↓eOr, ↓eNot, ↓eIf, ↓eNeg, ↓eCall, ↓eCallK, ↓eCallV, ↓lCons, ↓lNil, ↓eVar, ↓eC, ↓eTup, ↓eLst, ↓eLstC, ↓eOp, ↓eSl, ↓oNo, ↓oPart, ↓eBits, ↓tBool, ↓tAndA, ↓tOrA, ↓tNotA, ↓List.getElem?_cons_zero, ↓List.getElem?_cons_succ, ↓List.set_cons_zero, ↓List.set_cons_succ, ↓rInt, ↓rInt0, ↓rAddA, ↓rEqA, ↓rIsA, ↓rMax2A, ↓rMin2A, ↓rIntA, ↓rAbsA, bsel_true, bsel_false, wipeN, gNm, tYesA, ↓isNon, ↓isBlOf, ↓isI, ↓isB, ↓isS, ↓isT, ↓isL, Bool.or_false, Bool.or_true, Bool.false_or, Bool.true_or, ↓wList, ↓eLc, ↓rLenA, ↓sFor, ↓sWhile, ↓wRng1, ↓wRng2, ↓wTup, ↓wEnum, ↓eChain, ↓eListR1, ↓eLenSet, ↓eRev, ↓eInR, ↓eApp, ↓ePop, ↓eValue, ↓xDrop, ↓xRet, ↓xSet, ↓xCall, ↓xCallV, ↓sRaise, ↓eCallVL, ↓eLam3, startNF, Bool.not_true, Bool.not_false, Bool.false_eq_true, ↓reduceIte, Bool.not_not])
    refine isi_lt kd ?_
    (try simp only [startN, List.map_cons, List.map_nil, List.length_cons, List.length_nil, Nat.reduceAdd, Nat.reduceSub, Nat.zero_add, Nat.sub_self, List.replicate_succ, List.replicate_zero, List.reduceReplicate, List.cons_append, List.nil_append, List.append_nil, ↓sRet, ↓sRetN, ↓sSeq, ↓sNil, ↓sIf, ↓sSet, ↓sPar, ↓sPar3, ↓sAsg, ↓sDrop, ↓sSetL, ↓eAnd, ↓eOr, ↓eNot, ↓eIf, ↓eNeg, ↓eCall, ↓eCallK, ↓eCallV, ↓lCons, ↓lNil, ↓eVar, ↓eC, ↓eTup, ↓eLst, ↓eLstC, ↓eOp, ↓eSl, ↓oNo, ↓oPart, ↓eBits, ↓tBool, ↓tAndA, ↓tOrA, ↓tNotA, ↓List.getElem?_cons_zero, ↓List.getElem?_cons_succ, ↓List.set_cons_zero, ↓List.set_cons_succ, ↓rInt, ↓rInt0, ↓rAddA, ↓rEqA, ↓rIsA, ↓rMax2A, ↓rMin2A, ↓rIntA, ↓rAbsA, bsel_true, bsel_false, wipeN, gNm, tYesA, ↓isNon, ↓isBlOf, ↓isI, ↓isB, ↓isS, ↓isT, ↓isL, Bool.or_false, Bool.or_true, Bool.false_or, Bool.true_or, ↓wList, ↓eLc, ↓rLenA, ↓sFor, ↓sWhile, ↓wRng1, ↓wRng2, ↓wTup, ↓wEnum, ↓eChain, ↓eListR1, ↓eLenSet, ↓eRev, ↓eInR, ↓eApp, ↓ePop, ↓eValue, ↓xDrop, ↓xRet, ↓xSet, ↓xCall, ↓xCallV, ↓sRaise, ↓eCallVL, ↓eLam3, startNF, Bool.not_true, Bool.not_false, Bool.false_eq_true, ↓reduceIte, Bool.not_not])
    refine isi_list kt ?_
    cases t with
    | ref _ => cases nt
    | ty _ => cases nt
    | tup xs =>
      (try simp only [startN, List.map_cons, List.map_nil, List.length_cons, List.length_nil, Nat.reduceAdd, Nat.reduceSub, Nat.zero_add, Nat.sub_self, List.replicate_succ, List.replicate_zero, List.reduceReplicate, List.cons_append, List.nil_append, List.append_nil, ↓sRet, ↓sRetN, ↓sSeq, ↓sNil, ↓sIf, ↓sSet, ↓sPar, ↓sPar3, ↓sAsg, ↓sDrop, ↓sSetL, ↓eAnd, ↓eOr, ↓eNot, ↓eIf, ↓eNeg, ↓eCall, ↓eCallK, ↓eCallV, ↓lCons, ↓lNil, ↓eVar, ↓eC, ↓eTup, ↓eLst, ↓eLstC, ↓eOp, ↓eSl, ↓oNo, ↓oPart, ↓eBits, ↓tBool, ↓tAndA, ↓tOrA, ↓tNotA, ↓List.getElem?_cons_zero, ↓List.getElem?_cons_succ, ↓List.set_cons_zero, ↓List.set_cons_succ, ↓rInt, ↓rInt0, ↓rAddA, ↓rEqA, ↓rIsA, ↓rMax2A, ↓rMin2A, ↓rIntA, ↓rAbsA, bsel_true, bsel_false, wipeN, gNm, tYesA, ↓isNon, ↓isBlOf, ↓isI, ↓isB, ↓isS, ↓isT, ↓isL, Bool.or_false, Bool.or_true, Bool.false_or, Bool.true_or, ↓wList, ↓eLc, ↓rLenA, ↓sFor, ↓sWhile, ↓wRng1, ↓wRng2, ↓wTup, ↓wEnum, ↓eChain, ↓eListR1, ↓eLenSet, ↓eRev, ↓eInR, ↓eApp, ↓ePop, ↓eValue, ↓xDrop, ↓xRet, ↓xSet, ↓xCall, ↓xCallV, ↓sRaise, ↓eCallVL, ↓eLam3, startNF, Bool.not_true, Bool.not_false, Bool.false_eq_true, ↓reduceIte, Bool.not_not])
      refine isi_list kd ?_
      (try simp only [startN, List.map_cons, List.map_nil, List.length_cons, List.length_nil, Nat.reduceAdd, Nat.reduceSub, Nat.zero_add, Nat.sub_self, List.replicate_succ, List.replicate_zero, List.reduceReplicate, List.cons_append, List.nil_append, List.append_nil, ↓sRet, ↓sRetN, ↓sSeq, ↓sNil, ↓sIf, ↓sSet, ↓sPar, ↓sPar3, ↓sAsg, ↓sDrop, ↓sSetL, ↓eAnd, ↓eOr, ↓eNot, ↓eIf, ↓eNeg, ↓eCall, ↓eCallK, ↓eCallV, ↓lCons, ↓lNil, ↓eVar, ↓eC, ↓eTup, ↓eLst, ↓eLstC, ↓eOp, ↓eSl, ↓oNo, ↓oPart, ↓eBits, ↓tBool, ↓tAndA, ↓tOrA, ↓tNotA, ↓List.getElem?_cons_zero, ↓List.getElem?_cons_succ, ↓List.set_cons_zero, ↓List.set_cons_succ, ↓rInt, ↓rInt0, ↓rAddA, ↓rEqA, ↓rIsA, ↓rMax2A, ↓rMin2A, ↓rIntA, ↓rAbsA, bsel_true, bsel_false, wipeN, gNm, tYesA, ↓isNon, ↓isBlOf, ↓isI, ↓isB, ↓isS, ↓isT, ↓isL, Bool.or_false, Bool.or_true, Bool.false_or, Bool.true_or, ↓wList, ↓eLc, ↓rLenA, ↓sFor, ↓sWhile, ↓wRng1, ↓wRng2, ↓wTup, ↓wEnum, ↓eChain, ↓eListR1, ↓eLenSet, ↓eRev, ↓eInR, ↓eApp, ↓ePop, ↓eValue, ↓xDrop, ↓xRet, ↓xSet, ↓xCall, ↓xCallV, ↓sRaise, ↓eCallVL, ↓eLam3, startNF, Bool.not_true, Bool.not_false, Bool.false_eq_true, ↓reduceIte, Bool.not_not])
      refine isi_tuple kt ?_
      (try simp only [startN, List.map_cons, List.map_nil, List.length_cons, List.length_nil, Nat.reduceAdd, Nat.reduceSub, Nat.zero_add, Nat.sub_self, List.replicate_succ, List.replicate_zero, List.reduceReplicate, List.cons_append, List.nil_append, List.append_nil, ↓sRet, ↓sRetN, ↓sSeq, ↓sNil, ↓sIf, ↓sSet, ↓sPar, ↓sPar3, ↓sAsg, ↓sDrop, ↓sSetL, ↓eAnd, ↓eOr, ↓eNot, ↓eIf, ↓eNeg, ↓eCall, ↓eCallK, ↓eCallV, ↓lCons, ↓lNil, ↓eVar, ↓eC, ↓eTup, ↓eLst, ↓eLstC, ↓eOp, ↓eSl, ↓oNo, ↓oPart, ↓eBits, ↓tBool, ↓tAndA, ↓tOrA, ↓tNotA, ↓List.getElem?_cons_zero, ↓List.getElem?_cons_succ, ↓List.set_cons_zero, ↓List.set_cons_succ, ↓rInt, ↓rInt0, ↓rAddA, ↓rEqA, ↓rIsA, ↓rMax2A, ↓rMin2A, ↓rIntA, ↓rAbsA, bsel_true, bsel_false, wipeN, gNm, tYesA, ↓isNon, ↓isBlOf, ↓isI, ↓isB, ↓isS, ↓isT, ↓isL, Bool.or_false, Bool.or_true, Bool.false_or, Bool.true_or, ↓wList, ↓eLc, ↓rLenA, ↓sFor, ↓sWhile, ↓wRng1, ↓wRng2, ↓wTup, ↓wEnum, ↓eChain, ↓eListR1, ↓eLenSet, ↓eRev, ↓eInR, ↓eApp, ↓ePop, ↓eValue, ↓xDrop, ↓xRet, ↓xSet, ↓xCall, ↓xCallV, ↓sRaise, ↓eCallVL, ↓eLam3, startNF, Bool.not_true, Bool.not_false, Bool.false_eq_true, ↓reduceIte, Bool.not_not])
      unfold dle at dd
      rw [Bool.and_eq_true] at dd
      have hy1 := of_decide_eq_true dd.2
      refine bsel_i (fun h => ?_) fun h => k _ ?_
      · have hl : xs.length = ys.length := by have := of_decide_eq_true h; omega
        refine ⟨⟨by omega, by omega⟩, by rw [rngA_len]; omega, fun i acc S' => S' = S ∧ ∃ ks : List Int, acc = ks.map .int ∧ (ks = [] ↔ ∀ j : Nat, j < i → xs[j]? = ys[j]?), ⟨rfl, [], rfl, by simp⟩, fun _ _ _ _ _ => trivial, ?_, ?_⟩
        · rintro i x acc S' hx ⟨rfl, ks, rfl, hk⟩
          obtain ⟨hi, rfl⟩ := rngA_at hx
          have hi2 : i < ys.length := by omega
          have ex : xs[i]? = some xs[i] := List.getElem?_eq_getElem (by omega)
          have ey : ys[i]? = some ys[i] := List.getElem?_eq_getElem hi2
          (try simp only [startN, List.map_cons, List.map_nil, List.length_cons, List.length_nil, Nat.reduceAdd, Nat.reduceSub, Nat.zero_add, Nat.sub_self, List.replicate_succ, List.replicate_zero, List.reduceReplicate, List.cons_append, List.nil_append, List.append_nil, ↓sRet, ↓sRetN, ↓sSeq, ↓sNil, ↓sIf, ↓sSet, ↓sPar, ↓sPar3, ↓sAsg, ↓sDrop, ↓sSetL, ↓eAnd, ↓eOr, ↓eNot, ↓eIf, ↓eNeg, ↓eCall, ↓eCallK, ↓eCallV, ↓lCons, ↓lNil, ↓eVar, ↓eC, ↓eTup, ↓eLst, ↓eLstC, ↓eOp, ↓eSl, ↓oNo, ↓oPart, ↓eBits, ↓tBool, ↓tAndA, ↓tOrA, ↓tNotA, ↓List.getElem?_cons_zero, ↓List.getElem?_cons_succ, ↓List.set_cons_zero, ↓List.set_cons_succ, ↓rInt, ↓rInt0, ↓rAddA, ↓rEqA, ↓rIsA, ↓rMax2A, ↓rMin2A, ↓rIntA, ↓rAbsA, bsel_true, bsel_false, wipeN, gNm, tYesA, ↓isNon, ↓isBlOf, ↓isI, ↓isB, ↓isS, ↓isT, ↓isL, Bool.or_false, Bool.or_true, Bool.false_or, Bool.true_or, ↓wList, ↓eLc, ↓rLenA, ↓sFor, ↓sWhile, ↓wRng1, ↓wRng2, ↓wTup, ↓wEnum, ↓eChain, ↓eListR1, ↓eLenSet, ↓eRev, ↓eInR, ↓eApp, ↓ePop, ↓eValue, ↓xDrop, ↓xRet, ↓xSet, ↓xCall, ↓xCallV, ↓sRaise, ↓eCallVL, ↓eLam3, startNF, Bool.not_true, Bool.not_false, Bool.false_eq_true, ↓reduceIte, Bool.not_not])
          rw [Int.zero_add]
          refine ⟨_, atI_nat' ex, _, atI_nat' ey, items xs ys nt nd dd.1 i _ _ _ ex ey fun b hb => ?_⟩
          (try simp only [startN, List.map_cons, List.map_nil, List.length_cons, List.length_nil, Nat.reduceAdd, Nat.reduceSub, Nat.zero_add, Nat.sub_self, List.replicate_succ, List.replicate_zero, List.reduceReplicate, List.cons_append, List.nil_append, List.append_nil, ↓sRet, ↓sRetN, ↓sSeq, ↓sNil, ↓sIf, ↓sSet, ↓sPar, ↓sPar3, ↓sAsg, ↓sDrop, ↓sSetL, ↓eAnd, ↓eOr, ↓eNot, ↓eIf, ↓eNeg, ↓eCall, ↓eCallK, ↓eCallV, ↓lCons, ↓lNil, ↓eVar, ↓eC, ↓eTup, ↓eLst, ↓eLstC, ↓eOp, ↓eSl, ↓oNo, ↓oPart, ↓eBits, ↓tBool, ↓tAndA, ↓tOrA, ↓tNotA, ↓List.getElem?_cons_zero, ↓List.getElem?_cons_succ, ↓List.set_cons_zero, ↓List.set_cons_succ, ↓rInt, ↓rInt0, ↓rAddA, ↓rEqA, ↓rIsA, ↓rMax2A, ↓rMin2A, ↓rIntA, ↓rAbsA, bsel_true, bsel_false, wipeN, gNm, tYesA, ↓isNon, ↓isBlOf, ↓isI, ↓isB, ↓isS, ↓isT, ↓isL, Bool.or_false, Bool.or_true, Bool.false_or, Bool.true_or, ↓wList, ↓eLc, ↓rLenA, ↓sFor, ↓sWhile, ↓wRng1, ↓wRng2, ↓wTup, ↓wEnum, ↓eChain, ↓eListR1, ↓eLenSet, ↓eRev, ↓eInR, ↓eApp, ↓ePop, ↓eValue, ↓xDrop, ↓xRet, ↓xSet, ↓xCall, ↓xCallV, ↓sRaise, ↓eCallVL, ↓eLam3, startNF, Bool.not_true, Bool.not_false, Bool.false_eq_true, ↓reduceIte, Bool.not_not])
          refine bsel_i (fun h => ?_) fun h => ?_
          · refine ⟨trivial, ks ++ [(i : Int)], by rw [List.map_append]; rfl, ?_⟩
            constructor
            · intro z
              exact absurd (List.append_eq_nil_iff.mp z).2 (by simp)
            · intro z
              have e := z i (by omega)
              rw [ex, ey] at e
              rw [hb.mpr (Option.some.inj e)] at h
              cases h
          · refine ⟨trivial, ks, rfl, hk.trans ⟨fun z j hj => ?_, fun z j hj => z j (by omega)⟩⟩
            by_cases hji : j < i
            · exact z j hji
            · have : j = i := by omega
              subst this
              rw [ex, ey, hb.mp (by simpa using h)]
        · rintro acc S' ⟨rfl, ks, rfl, hk⟩
          rw [rngA_len] at hk
          refine rEq_nil (fun _ => ⟨_, pyds_ints ks, shaped_ints ks⟩) (k _ ?_)
          show (ks.map A.int).isEmpty = true ↔ _
          rw [List.isEmpty_iff, List.map_eq_nil_iff, hk]
          constructor
          · intro z
            congr 1
            refine List.ext_getElem? fun j => ?_
            by_cases hj : j < ys.length
            · exact z j (by omega)
            · rw [List.getElem?_eq_none (by omega), List.getElem?_eq_none (by omega)]
          · intro z j hj
            cases z
            rfl
      · have hl := of_decide_eq_false h
        simp only [Bool.false_eq_true, false_iff]
        intro z
        cases z
        exact hl rfl
    | lst xs =>
      (try simp only [startN, List.map_cons, List.map_nil, List.length_cons, List.length_nil, Nat.reduceAdd, Nat.reduceSub, Nat.zero_add, Nat.sub_self, List.replicate_succ, List.replicate_zero, List.reduceReplicate, List.cons_append, List.nil_append, List.append_nil, ↓sRet, ↓sRetN, ↓sSeq, ↓sNil, ↓sIf, ↓sSet, ↓sPar, ↓sPar3, ↓sAsg, ↓sDrop, ↓sSetL, ↓eAnd, ↓eOr, ↓eNot, ↓eIf, ↓eNeg, ↓eCall, ↓eCallK, ↓eCallV, ↓lCons, ↓lNil, ↓eVar, ↓eC, ↓eTup, ↓eLst, ↓eLstC, ↓eOp, ↓eSl, ↓oNo, ↓oPart, ↓eBits, ↓tBool, ↓tAndA, ↓tOrA, ↓tNotA, ↓List.getElem?_cons_zero, ↓List.getElem?_cons_succ, ↓List.set_cons_zero, ↓List.set_cons_succ, ↓rInt, ↓rInt0, ↓rAddA, ↓rEqA, ↓rIsA, ↓rMax2A, ↓rMin2A, ↓rIntA, ↓rAbsA, bsel_true, bsel_false, wipeN, gNm, tYesA, ↓isNon, ↓isBlOf, ↓isI, ↓isB, ↓isS, ↓isT, ↓isL, Bool.or_false, Bool.or_true, Bool.false_or, Bool.true_or, ↓wList, ↓eLc, ↓rLenA, ↓sFor, ↓sWhile, ↓wRng1, ↓wRng2, ↓wTup, ↓wEnum, ↓eChain, ↓eListR1, ↓eLenSet, ↓eRev, ↓eInR, ↓eApp, ↓ePop, ↓eValue, ↓xDrop, ↓xRet, ↓xSet, ↓xCall, ↓xCallV, ↓sRaise, ↓eCallVL, ↓eLam3, startNF, Bool.not_true, Bool.not_false, Bool.false_eq_true, ↓reduceIte, Bool.not_not])
      refine isi_tuple kt ?_
      (try simp only [startN, List.map_cons, List.map_nil, List.length_cons, List.length_nil, Nat.reduceAdd, Nat.reduceSub, Nat.zero_add, Nat.sub_self, List.replicate_succ, List.replicate_zero, List.reduceReplicate, List.cons_append, List.nil_append, List.append_nil, ↓sRet, ↓sRetN, ↓sSeq, ↓sNil, ↓sIf, ↓sSet, ↓sPar, ↓sPar3, ↓sAsg, ↓sDrop, ↓sSetL, ↓eAnd, ↓eOr, ↓eNot, ↓eIf, ↓eNeg, ↓eCall, ↓eCallK, ↓eCallV, ↓lCons, ↓lNil, ↓eVar, ↓eC, ↓eTup, ↓eLst, ↓eLstC, ↓eOp, ↓eSl, ↓oNo, ↓oPart, ↓eBits, ↓tBool, ↓tAndA, ↓tOrA, ↓tNotA, ↓List.getElem?_cons_zero, ↓List.getElem?_cons_succ, ↓List.set_cons_zero, ↓List.set_cons_succ, ↓rInt, ↓rInt0, ↓rAddA, ↓rEqA, ↓rIsA, ↓rMax2A, ↓rMin2A, ↓rIntA, ↓rAbsA, bsel_true, bsel_false, wipeN, gNm, tYesA, ↓isNon, ↓isBlOf, ↓isI, ↓isB, ↓isS, ↓isT, ↓isL, Bool.or_false, Bool.or_true, Bool.false_or, Bool.true_or, ↓wList, ↓eLc, ↓rLenA, ↓sFor, ↓sWhile, ↓wRng1, ↓wRng2, ↓wTup, ↓wEnum, ↓eChain, ↓eListR1, ↓eLenSet, ↓eRev, ↓eInR, ↓eApp, ↓ePop, ↓eValue, ↓xDrop, ↓xRet, ↓xSet, ↓xCall, ↓xCallV, ↓sRaise, ↓eCallVL, ↓eLam3, startNF, Bool.not_true, Bool.not_false, Bool.false_eq_true, ↓reduceIte, Bool.not_not])
      refine isi_tuple kd ?_
      (try simp only [startN, List.map_cons, List.map_nil, List.length_cons, List.length_nil, Nat.reduceAdd, Nat.reduceSub, Nat.zero_add, Nat.sub_self, List.replicate_succ, List.replicate_zero, List.reduceReplicate, List.cons_append, List.nil_append, List.append_nil, ↓sRet, ↓sRetN, ↓sSeq, ↓sNil, ↓sIf, ↓sSet, ↓sPar, ↓sPar3, ↓sAsg, ↓sDrop, ↓sSetL, ↓eAnd, ↓eOr, ↓eNot, ↓eIf, ↓eNeg, ↓eCall, ↓eCallK, ↓eCallV, ↓lCons, ↓lNil, ↓eVar, ↓eC, ↓eTup, ↓eLst, ↓eLstC, ↓eOp, ↓eSl, ↓oNo, ↓oPart, ↓eBits, ↓tBool, ↓tAndA, ↓tOrA, ↓tNotA, ↓List.getElem?_cons_zero, ↓List.getElem?_cons_succ, ↓List.set_cons_zero, ↓List.set_cons_succ, ↓rInt, ↓rInt0, ↓rAddA, ↓rEqA, ↓rIsA, ↓rMax2A, ↓rMin2A, ↓rIntA, ↓rAbsA, bsel_true, bsel_false, wipeN, gNm, tYesA, ↓isNon, ↓isBlOf, ↓isI, ↓isB, ↓isS, ↓isT, ↓isL, Bool.or_false, Bool.or_true, Bool.false_or, Bool.true_or, ↓wList, ↓eLc, ↓rLenA, ↓sFor, ↓sWhile, ↓wRng1, ↓wRng2, ↓wTup, ↓wEnum, ↓eChain, ↓eListR1, ↓eLenSet, ↓eRev, ↓eInR, ↓eApp, ↓ePop, ↓eValue, ↓xDrop, ↓xRet, ↓xSet, ↓xCall, ↓xCallV, ↓sRaise, ↓eCallVL, ↓eLam3, startNF, Bool.not_true, Bool.not_false, Bool.false_eq_true, ↓reduceIte, Bool.not_not])
      exact k _ (by simp)
    | _ =>
      (try simp only [startN, List.map_cons, List.map_nil, List.length_cons, List.length_nil, Nat.reduceAdd, Nat.reduceSub, Nat.zero_add, Nat.sub_self, List.replicate_succ, List.replicate_zero, List.reduceReplicate, List.cons_append, List.nil_append, List.append_nil, ↓sRet, ↓sRetN, ↓sSeq, ↓sNil, ↓sIf, ↓sSet, ↓sPar, ↓sPar3, ↓sAsg, ↓sDrop, ↓sSetL, ↓eAnd, ↓eOr, ↓eNot, ↓eIf, ↓eNeg, ↓eCall, ↓eCallK, ↓eCallV, ↓lCons, ↓lNil, ↓eVar, ↓eC, ↓eTup, ↓eLst, ↓eLstC, ↓eOp, ↓eSl, ↓oNo, ↓oPart, ↓eBits, ↓tBool, ↓tAndA, ↓tOrA, ↓tNotA, ↓List.getElem?_cons_zero, ↓List.getElem?_cons_succ, ↓List.set_cons_zero, ↓List.set_cons_succ, ↓rInt, ↓rInt0, ↓rAddA, ↓rEqA, ↓rIsA, ↓rMax2A, ↓rMin2A, ↓rIntA, ↓rAbsA, bsel_true, bsel_false, wipeN, gNm, tYesA, ↓isNon, ↓isBlOf, ↓isI, ↓isB, ↓isS, ↓isT, ↓isL, Bool.or_false, Bool.or_true, Bool.false_or, Bool.true_or, ↓wList, ↓eLc, ↓rLenA, ↓sFor, ↓sWhile, ↓wRng1, ↓wRng2, ↓wTup, ↓wEnum, ↓eChain, ↓eListR1, ↓eLenSet, ↓eRev, ↓eInR, ↓eApp, ↓ePop, ↓eValue, ↓xDrop, ↓xRet, ↓xSet, ↓xCall, ↓xCallV, ↓sRaise, ↓eCallVL, ↓eLam3, startNF, Bool.not_true, Bool.not_false, Bool.false_eq_true, ↓reduceIte, Bool.not_not])
      refine isi_list kd ?_
      (try simp only [startN, List.map_cons, List.map_nil, List.length_cons, List.length_nil, Nat.reduceAdd, Nat.reduceSub, Nat.zero_add, Nat.sub_self, List.replicate_succ, List.replicate_zero, List.reduceReplicate, List.cons_append, List.nil_append, List.append_nil, ↓sRet, ↓sRetN, ↓sSeq, ↓sNil, ↓sIf, ↓sSet, ↓sPar, ↓sPar3, ↓sAsg, ↓sDrop, ↓sSetL, ↓eAnd, ↓eOr, ↓eNot, ↓eIf, ↓eNeg, ↓eCall, ↓eCallK, ↓eCallV, ↓lCons, ↓lNil, ↓eVar, ↓eC, ↓eTup, ↓eLst, ↓eLstC, ↓eOp, ↓eSl, ↓oNo, ↓oPart, ↓eBits, ↓tBool, ↓tAndA, ↓tOrA, ↓tNotA, ↓List.getElem?_cons_zero, ↓List.getElem?_cons_succ, ↓List.set_cons_zero, ↓List.set_cons_succ, ↓rInt, ↓rInt0, ↓rAddA, ↓rEqA, ↓rIsA, ↓rMax2A, ↓rMin2A, ↓rIntA, ↓rAbsA, bsel_true, bsel_false, wipeN, gNm, tYesA, ↓isNon, ↓isBlOf, ↓isI, ↓isB, ↓isS, ↓isT, ↓isL, Bool.or_false, Bool.or_true, Bool.false_or, Bool.true_or, ↓wList, ↓eLc, ↓rLenA, ↓sFor, ↓sWhile, ↓wRng1, ↓wRng2, ↓wTup, ↓wEnum, ↓eChain, ↓eListR1, ↓eLenSet, ↓eRev, ↓eInR, ↓eApp, ↓ePop, ↓eValue, ↓xDrop, ↓xRet, ↓xSet, ↓xCall, ↓xCallV, ↓sRaise, ↓eCallVL, ↓eLam3, startNF, Bool.not_true, Bool.not_false, Bool.false_eq_true, ↓reduceIte, Bool.not_not])
      refine isi_tuple kt ?_
      (try simp only [startN, List.map_cons, List.map_nil, List.length_cons, List.length_nil, Nat.reduceAdd, Nat.reduceSub, Nat.zero_add, Nat.sub_self, List.replicate_succ, List.replicate_zero, List.reduceReplicate, List.cons_append, List.nil_append, List.append_nil, ↓sRet, ↓sRetN, ↓sSeq, ↓sNil, ↓sIf, ↓sSet, ↓sPar, ↓sPar3, ↓sAsg, ↓sDrop, ↓sSetL, ↓eAnd, ↓eOr, ↓eNot, ↓eIf, ↓eNeg, ↓eCall, ↓eCallK, ↓eCallV, ↓lCons, ↓lNil, ↓eVar, ↓eC, ↓eTup, ↓eLst, ↓eLstC, ↓eOp, ↓eSl, ↓oNo, ↓oPart, ↓eBits, ↓tBool, ↓tAndA, ↓tOrA, ↓tNotA, ↓List.getElem?_cons_zero, ↓List.getElem?_cons_succ, ↓List.set_cons_zero, ↓List.set_cons_succ, ↓rInt, ↓rInt0, ↓rAddA, ↓rEqA, ↓rIsA, ↓rMax2A, ↓rMin2A, ↓rIntA, ↓rAbsA, bsel_true, bsel_false, wipeN, gNm, tYesA, ↓isNon, ↓isBlOf, ↓isI, ↓isB, ↓isS, ↓isT, ↓isL, Bool.or_false, Bool.or_true, Bool.false_or, Bool.true_or, ↓wList, ↓eLc, ↓rLenA, ↓sFor, ↓sWhile, ↓wRng1, ↓wRng2, ↓wTup, ↓wEnum, ↓eChain, ↓eListR1, ↓eLenSet, ↓eRev, ↓eInR, ↓eApp, ↓ePop, ↓eValue, ↓xDrop, ↓xRet, ↓xSet, ↓xCall, ↓xCallV, ↓sRaise, ↓eCallVL, ↓eLam3, startNF, Bool.not_true, Bool.not_false, Bool.false_eq_true, ↓reduceIte, Bool.not_not])
      refine isi_tuple kd ?_
      (try simp only [startN, List.map_cons, List.map_nil, List.length_cons, List.length_nil, Nat.reduceAdd, Nat.reduceSub, Nat.zero_add, Nat.sub_self, List.replicate_succ, List.replicate_zero, List.reduceReplicate, List.cons_append, List.nil_append, List.append_nil, ↓sRet, ↓sRetN, ↓sSeq, ↓sNil, ↓sIf, ↓sSet, ↓sPar, ↓sPar3, ↓sAsg, ↓sDrop, ↓sSetL, ↓eAnd, ↓eOr, ↓eNot, ↓eIf, ↓eNeg, ↓eCall, ↓eCallK, ↓eCallV, ↓lCons, ↓lNil, ↓eVar, ↓eC, ↓eTup, ↓eLst, ↓eLstC, ↓eOp, ↓eSl, ↓oNo, ↓oPart, ↓eBits, ↓tBool, ↓tAndA, ↓tOrA, ↓tNotA, ↓List.getElem?_cons_zero, ↓List.getElem?_cons_succ, ↓List.set_cons_zero, ↓List.set_cons_succ, ↓rInt, ↓rInt0, ↓rAddA, ↓rEqA, ↓rIsA, ↓rMax2A, ↓rMin2A, ↓rIntA, ↓rAbsA, bsel_true, bsel_false, wipeN, gNm, tYesA, ↓isNon, ↓isBlOf, ↓isI, ↓isB, ↓isS, ↓isT, ↓isL, Bool.or_false, Bool.or_true, Bool.false_or, Bool.true_or, ↓wList, ↓eLc, ↓rLenA, ↓sFor, ↓sWhile, ↓wRng1, ↓wRng2, ↓wTup, ↓wEnum, ↓eChain, ↓eListR1, ↓eLenSet, ↓eRev, ↓eInR, ↓eApp, ↓ePop, ↓eValue, ↓xDrop, ↓xRet, ↓xSet, ↓xCall, ↓xCallV, ↓sRaise, ↓eCallVL, ↓eLam3, startNF, Bool.not_true, Bool.not_false, Bool.false_eq_true, ↓reduceIte, Bool.not_not])
      exact k _ (by simp)
/-! ### _law_is_whole -/
abbrev s__law_is_whole : Stmt := topS 35
theorem sc__law_is_whole : FnScope ["value"] ["value"] (defScope s__law_is_whole) := ⟨rfl, rfl, rfl, by decide +kernel, rfl, by decide +kernel, by decide +kernel⟩
theorem bd__law_is_whole (kV doc pm : Value) (an : Option Addr) (cdv ct : Value) (us : List Value) (hl : us.length = (["value"] : List Str).length) : bindArgs (PySem.W.fnOf "_law_is_whole" "_law_is_whole" (defArgs s__law_is_whole) (defBody s__law_is_whole) (defScope s__law_is_whole) .none kV doc pm an cdv ct) ⟨us, []⟩ = pure ((["value"] : List Str).zip us) :=
  match us, hl with | [_], _ => rfl
def sp__law_is_whole : SpA := fun as S P => ∃ x, as = [x] ∧ kn S x ∧ P (.bl (isWholeA x)) S
theorem got__law_is_whole {P : Program} {w : World} {K : PySem.W.Frag} {mg : Str → Option Value} {base : Heap} {f__law_is_whole : Addr} (B : Bi mg) (D : Def K mg "_law_is_whole" s__law_is_whole f__law_is_whole) :
    Got P w K mg base (0 + 1) ["value"] "_law_is_whole" s__law_is_whole f__law_is_whole sp__law_is_whole := by
  refine got_of D sc__law_is_whole (by rintro as S P ⟨x, rfl, _⟩; rfl) (bd__law_is_whole) (fun cdv A0 outer s0_ H E hr => ⟨_, (sb_one (sa_ret (ea_and (ea_callB cx_isi B.isinstance_ (la_cons (ea_var 0) (la_cons (ea_ty "int" B.int_) la_nil))) (ea_one (ea_not (ea_callB cx_isi B.isinstance_ (la_cons (ea_var 0) (la_cons (ea_ty "bool" B.bool_) la_nil)))))))), fun as S P h => ?_⟩)
  obtain ⟨x, rfl, hk, k⟩ := h
  (try simp only [startN, List.map_cons, List.map_nil, List.length_cons, List.length_nil, Nat.reduceAdd, Nat.reduceSub, Nat.zero_add, Nat.sub_self, List.replicate_succ, List.replicate_zero, List.reduceReplicate, List.cons_append, List.nil_append, List.append_nil, ↓sRet, ↓sRetN, ↓sSeq, ↓sNil, ↓sIf, ↓sSet, ↓sPar, ↓sPar3, ↓sAsg, ↓sDrop, ↓sSetL, ↓eAnd, ↓eOr, ↓eNot, ↓eIf, ↓eNeg, ↓eCall, ↓eCallK, ↓eCallV, ↓lCons, ↓lNil, ↓eVar, ↓eC, ↓eTup, ↓eLst, ↓eLstC, ↓eOp, ↓eSl, ↓oNo, ↓oPart, ↓eBits, ↓tBool, ↓tAndA, ↓tOrA, ↓tNotA, ↓List.getElem?_cons_zero, ↓List.getElem?_cons_succ, ↓List.set_cons_zero, ↓List.set_cons_succ, ↓rInt, ↓rInt0, ↓rAddA, ↓rEqA, ↓rIsA, ↓rMax2A, ↓rMin2A, ↓rIntA, ↓rAbsA, bsel_true, bsel_false, wipeN, gNm, tYesA, ↓isNon, ↓isBlOf, ↓isI, ↓isB, ↓isS, ↓isT, ↓isL, Bool.or_false, Bool.or_true, Bool.false_or, Bool.true_or, ↓wList, ↓eLc, ↓rLenA, ↓sFor, ↓sWhile, ↓wRng1, ↓wRng2, ↓wTup, ↓wEnum, ↓eChain, ↓eListR1, ↓eLenSet, ↓eRev, ↓eInR, ↓eApp, ↓ePop, ↓eValue, ↓xDrop, ↓xRet, ↓xSet, ↓xCall, ↓xCallV, ↓sRaise, ↓eCallVL, ↓eLam3, startNF, Bool.not_true, Bool.not_false, Bool.false_eq_true, ↓reduceIte, Bool.not_not])
  refine isi_int hk ?_
  cases x <;> simp only [isI, bsel_true, bsel_false] <;> first | exact k | (refine isi_bool hk ?_; exact k)
def sp__law_common : SpA := fun as S P => ∃ a b : Int, as = [.int a, .int b] ∧ Bd 4000 a ∧ Bd 4000 b ∧ P (.int (Int.gcd a b : Nat)) S
def sp__law_lowest : SpA := fun as S P => ∃ n d : Int, as = [.int n, .int d] ∧ d ≠ 0 ∧ Bd 4000 n ∧ Bd 4000 d ∧ P (lowA n d) S
/-- its numbers have at most so many bits -/
def frB (k : Nat) : A → Prop
  | .tup [.int n, .int d] => Bd k n ∧ Bd k d
  | _ => True
def sp__law_is_fraction : SpA := fun as S P => ∃ x, as = [x] ∧ nr x = true ∧ frB 4000 x ∧ P (.bl (isFrA x)) S
theorem low_pos {n d : Int} (h : 0 < d) : ∃ a b : Int, lowA n d = .tup [.int a, .int b] ∧ 0 < b ∧ Int.gcd a b = 1 ∧ a.natAbs ≤ n.natAbs ∧ b.natAbs ≤ d.natAbs := by
  have hc : lowC n d = (Int.gcd n d : Int) := if_neg (by omega)
  have hg : 0 < Int.gcd n d := Int.gcd_pos_of_ne_zero_right n (by omega)
  have hg2 : (0 : Int) < (Int.gcd n d : Int) := by omega
  have hb : 0 < d / (Int.gcd n d : Int) := by
    obtain ⟨q, hq⟩ := Int.gcd_dvd_right n d
    have : d / (Int.gcd n d : Int) = q := by
      conv => lhs; lhs; rw [hq]
      exact Int.mul_ediv_cancel_left q (by omega)
    rw [this]
    rcases Int.lt_or_le 0 q with z | z
    · exact z
    · have := Int.mul_nonpos_of_nonneg_of_nonpos (show 0 ≤ (Int.gcd n d : Int) by omega) z
      omega
  refine ⟨n / (Int.gcd n d : Int), d / (Int.gcd n d : Int), ?_, hb, Int.gcd_ediv_gcd_ediv_gcd hg, Int.natAbs_ediv_le_natAbs _ _, Int.natAbs_ediv_le_natAbs _ _⟩
  unfold lowA
  rw [hc, Int.fdiv_eq_ediv_of_nonneg _ (by omega), Int.fdiv_eq_ediv_of_nonneg _ (by omega)]
def sp__law_drawn_fraction : SpA := fun as S P => ∃ (g : Addr) (m : Int) (n : Nat) (l : List A), as = [.ref g, .int m] ∧ S g = some (.lst l) ∧ GenL n l ∧ 0 ≤ m ∧ Bd 200 m ∧ n ≤ 100000000000 ∧
  ∀ (a b : Int) (l' : List A), 0 < b → Int.gcd a b = 1 → Bd 202 a → Bd 202 b → GenL (n + 300) l' → P (.tup [.int a, .int b]) (sup S g (.lst l'))
/-! ### _law_is_below -/
abbrev s__law_is_below : Stmt := topS 36
theorem sc__law_is_below : FnScope ["value", "bound"] ["value", "bound"] (defScope s__law_is_below) := ⟨rfl, rfl, rfl, by decide +kernel, rfl, by decide +kernel, by decide +kernel⟩
theorem bd__law_is_below (kV doc pm : Value) (an : Option Addr) (cdv ct : Value) (us : List Value) (hl : us.length = (["value", "bound"] : List Str).length) : bindArgs (PySem.W.fnOf "_law_is_below" "_law_is_below" (defArgs s__law_is_below) (defBody s__law_is_below) (defScope s__law_is_below) .none kV doc pm an cdv ct) ⟨us, []⟩ = pure ((["value", "bound"] : List Str).zip us) :=
  match us, hl with | [_, _], _ => rfl
def sp__law_is_below : SpA := fun as S P => ∃ x b, as = [x, .int b] ∧ kn S x ∧ P (.bl (belA b x)) S
--len by rintro as S P ⟨x, b, rfl, _⟩; rfl
theorem got__law_is_below {P : Program} {w : World} {K : PySem.W.Frag} {mg : Str → Option Value} {base : Heap} {f__law_is_below f__law_is_whole : Addr} (B : Bi mg) (D : Def K mg "_law_is_below" s__law_is_below f__law_is_below) (G__law_is_whole : Got P w K mg base 1 ["value"] "_law_is_whole" s__law_is_whole f__law_is_whole sp__law_is_whole) :
    Got P w K mg base (1 + 1) ["value", "bound"] "_law_is_below" s__law_is_below f__law_is_below sp__law_is_below := by
  refine got_of D sc__law_is_below (by rintro as S P ⟨x, b, rfl, _⟩; rfl) (bd__law_is_below) (fun cdv A0 outer s0_ H E hr => ⟨_, (sb_one (sa_ret (ea_and (ea_call G__law_is_whole (hr.mono (by omega)) (la_cons (ea_var 0) la_nil)) (ea_one (ea_chain oa_le oa_lt ea_int (ea_var 0) (ea_var 1)))))), fun as S P h => ?_⟩)
  obtain ⟨x, b, rfl, hk, k⟩ := h
  (try simp only [startN, List.map_cons, List.map_nil, List.length_cons, List.length_nil, Nat.reduceAdd, Nat.reduceSub, Nat.zero_add, Nat.sub_self, List.replicate_succ, List.replicate_zero, List.reduceReplicate, List.cons_append, List.nil_append, List.append_nil, ↓sRet, ↓sRetN, ↓sSeq, ↓sNil, ↓sIf, ↓sSet, ↓sPar, ↓sPar3, ↓sAsg, ↓sDrop, ↓sSetL, ↓eAnd, ↓eOr, ↓eNot, ↓eIf, ↓eNeg, ↓eCall, ↓eCallK, ↓eCallV, ↓lCons, ↓lNil, ↓eVar, ↓eC, ↓eTup, ↓eLst, ↓eLstC, ↓eOp, ↓eSl, ↓oNo, ↓oPart, ↓eBits, ↓tBool, ↓tAndA, ↓tOrA, ↓tNotA, ↓List.getElem?_cons_zero, ↓List.getElem?_cons_succ, ↓List.set_cons_zero, ↓List.set_cons_succ, ↓rInt, ↓rInt0, ↓rAddA, ↓rEqA, ↓rIsA, ↓rMax2A, ↓rMin2A, ↓rIntA, ↓rAbsA, bsel_true, bsel_false, wipeN, gNm, tYesA, ↓isNon, ↓isBlOf, ↓isI, ↓isB, ↓isS, ↓isT, ↓isL, Bool.or_false, Bool.or_true, Bool.false_or, Bool.true_or, ↓wList, ↓eLc, ↓rLenA, ↓sFor, ↓sWhile, ↓wRng1, ↓wRng2, ↓wTup, ↓wEnum, ↓eChain, ↓eListR1, ↓eLenSet, ↓eRev, ↓eInR, ↓eApp, ↓ePop, ↓eValue, ↓xDrop, ↓xRet, ↓xSet, ↓xCall, ↓xCallV, ↓sRaise, ↓eCallVL, ↓eLam3, startNF, Bool.not_true, Bool.not_false, Bool.false_eq_true, ↓reduceIte, Bool.not_not])
  refine ⟨x, rfl, hk, ?_⟩
  cases x with
  | int i =>
    simp only [belA] at k
    unfold isWholeA
    (try simp only [startN, List.map_cons, List.map_nil, List.length_cons, List.length_nil, Nat.reduceAdd, Nat.reduceSub, Nat.zero_add, Nat.sub_self, List.replicate_succ, List.replicate_zero, List.reduceReplicate, List.cons_append, List.nil_append, List.append_nil, ↓sRet, ↓sRetN, ↓sSeq, ↓sNil, ↓sIf, ↓sSet, ↓sPar, ↓sPar3, ↓sAsg, ↓sDrop, ↓sSetL, ↓eAnd, ↓eOr, ↓eNot, ↓eIf, ↓eNeg, ↓eCall, ↓eCallK, ↓eCallV, ↓lCons, ↓lNil, ↓eVar, ↓eC, ↓eTup, ↓eLst, ↓eLstC, ↓eOp, ↓eSl, ↓oNo, ↓oPart, ↓eBits, ↓tBool, ↓tAndA, ↓tOrA, ↓tNotA, ↓List.getElem?_cons_zero, ↓List.getElem?_cons_succ, ↓List.set_cons_zero, ↓List.set_cons_succ, ↓rInt, ↓rInt0, ↓rAddA, ↓rEqA, ↓rIsA, ↓rMax2A, ↓rMin2A, ↓rIntA, ↓rAbsA, bsel_true, bsel_false, wipeN, gNm, tYesA, ↓isNon, ↓isBlOf, ↓isI, ↓isB, ↓isS, ↓isT, ↓isL, Bool.or_false, Bool.or_true, Bool.false_or, Bool.true_or, ↓wList, ↓eLc, ↓rLenA, ↓sFor, ↓sWhile, ↓wRng1, ↓wRng2, ↓wTup, ↓wEnum, ↓eChain, ↓eListR1, ↓eLenSet, ↓eRev, ↓eInR, ↓eApp, ↓ePop, ↓eValue, ↓xDrop, ↓xRet, ↓xSet, ↓xCall, ↓xCallV, ↓sRaise, ↓eCallVL, ↓eLam3, startNF, Bool.not_true, Bool.not_false, Bool.false_eq_true, ↓reduceIte, Bool.not_not])
    cases e : decide (0 ≤ i) with
    | true => rw [e, Bool.true_and] at k; (try simp only [startN, List.map_cons, List.map_nil, List.length_cons, List.length_nil, Nat.reduceAdd, Nat.reduceSub, Nat.zero_add, Nat.sub_self, List.replicate_succ, List.replicate_zero, List.reduceReplicate, List.cons_append, List.nil_append, List.append_nil, ↓sRet, ↓sRetN, ↓sSeq, ↓sNil, ↓sIf, ↓sSet, ↓sPar, ↓sPar3, ↓sAsg, ↓sDrop, ↓sSetL, ↓eAnd, ↓eOr, ↓eNot, ↓eIf, ↓eNeg, ↓eCall, ↓eCallK, ↓eCallV, ↓lCons, ↓lNil, ↓eVar, ↓eC, ↓eTup, ↓eLst, ↓eLstC, ↓eOp, ↓eSl, ↓oNo, ↓oPart, ↓eBits, ↓tBool, ↓tAndA, ↓tOrA, ↓tNotA, ↓List.getElem?_cons_zero, ↓List.getElem?_cons_succ, ↓List.set_cons_zero, ↓List.set_cons_succ, ↓rInt, ↓rInt0, ↓rAddA, ↓rEqA, ↓rIsA, ↓rMax2A, ↓rMin2A, ↓rIntA, ↓rAbsA, bsel_true, bsel_false, wipeN, gNm, tYesA, ↓isNon, ↓isBlOf, ↓isI, ↓isB, ↓isS, ↓isT, ↓isL, Bool.or_false, Bool.or_true, Bool.false_or, Bool.true_or, ↓wList, ↓eLc, ↓rLenA, ↓sFor, ↓sWhile, ↓wRng1, ↓wRng2, ↓wTup, ↓wEnum, ↓eChain, ↓eListR1, ↓eLenSet, ↓eRev, ↓eInR, ↓eApp, ↓ePop, ↓eValue, ↓xDrop, ↓xRet, ↓xSet, ↓xCall, ↓xCallV, ↓sRaise, ↓eCallVL, ↓eLam3, startNF, Bool.not_true, Bool.not_false, Bool.false_eq_true, ↓reduceIte, Bool.not_not]); exact k
    | false => rw [e, Bool.false_and] at k; (try simp only [startN, List.map_cons, List.map_nil, List.length_cons, List.length_nil, Nat.reduceAdd, Nat.reduceSub, Nat.zero_add, Nat.sub_self, List.replicate_succ, List.replicate_zero, List.reduceReplicate, List.cons_append, List.nil_append, List.append_nil, ↓sRet, ↓sRetN, ↓sSeq, ↓sNil, ↓sIf, ↓sSet, ↓sPar, ↓sPar3, ↓sAsg, ↓sDrop, ↓sSetL, ↓eAnd, ↓eOr, ↓eNot, ↓eIf, ↓eNeg, ↓eCall, ↓eCallK, ↓eCallV, ↓lCons, ↓lNil, ↓eVar, ↓eC, ↓eTup, ↓eLst, ↓eLstC, ↓eOp, ↓eSl, ↓oNo, ↓oPart, ↓eBits, ↓tBool, ↓tAndA, ↓tOrA, ↓tNotA, ↓List.getElem?_cons_zero, ↓List.getElem?_cons_succ, ↓List.set_cons_zero, ↓List.set_cons_succ, ↓rInt, ↓rInt0, ↓rAddA, ↓rEqA, ↓rIsA, ↓rMax2A, ↓rMin2A, ↓rIntA, ↓rAbsA, bsel_true, bsel_false, wipeN, gNm, tYesA, ↓isNon, ↓isBlOf, ↓isI, ↓isB, ↓isS, ↓isT, ↓isL, Bool.or_false, Bool.or_true, Bool.false_or, Bool.true_or, ↓wList, ↓eLc, ↓rLenA, ↓sFor, ↓sWhile, ↓wRng1, ↓wRng2, ↓wTup, ↓wEnum, ↓eChain, ↓eListR1, ↓eLenSet, ↓eRev, ↓eInR, ↓eApp, ↓ePop, ↓eValue, ↓xDrop, ↓xRet, ↓xSet, ↓xCall, ↓xCallV, ↓sRaise, ↓eCallVL, ↓eLam3, startNF, Bool.not_true, Bool.not_false, Bool.false_eq_true, ↓reduceIte, Bool.not_not]); exact k
  | _ => unfold isWholeA; (try simp only [startN, List.map_cons, List.map_nil, List.length_cons, List.length_nil, Nat.reduceAdd, Nat.reduceSub, Nat.zero_add, Nat.sub_self, List.replicate_succ, List.replicate_zero, List.reduceReplicate, List.cons_append, List.nil_append, List.append_nil, ↓sRet, ↓sRetN, ↓sSeq, ↓sNil, ↓sIf, ↓sSet, ↓sPar, ↓sPar3, ↓sAsg, ↓sDrop, ↓sSetL, ↓eAnd, ↓eOr, ↓eNot, ↓eIf, ↓eNeg, ↓eCall, ↓eCallK, ↓eCallV, ↓lCons, ↓lNil, ↓eVar, ↓eC, ↓eTup, ↓eLst, ↓eLstC, ↓eOp, ↓eSl, ↓oNo, ↓oPart, ↓eBits, ↓tBool, ↓tAndA, ↓tOrA, ↓tNotA, ↓List.getElem?_cons_zero, ↓List.getElem?_cons_succ, ↓List.set_cons_zero, ↓List.set_cons_succ, ↓rInt, ↓rInt0, ↓rAddA, ↓rEqA, ↓rIsA, ↓rMax2A, ↓rMin2A, ↓rIntA, ↓rAbsA, bsel_true, bsel_false, wipeN, gNm, tYesA, ↓isNon, ↓isBlOf, ↓isI, ↓isB, ↓isS, ↓isT, ↓isL, Bool.or_false, Bool.or_true, Bool.false_or, Bool.true_or, ↓wList, ↓eLc, ↓rLenA, ↓sFor, ↓sWhile, ↓wRng1, ↓wRng2, ↓wTup, ↓wEnum, ↓eChain, ↓eListR1, ↓eLenSet, ↓eRev, ↓eInR, ↓eApp, ↓ePop, ↓eValue, ↓xDrop, ↓xRet, ↓xSet, ↓xCall, ↓xCallV, ↓sRaise, ↓eCallVL, ↓eLam3, startNF, Bool.not_true, Bool.not_false, Bool.false_eq_true, ↓reduceIte, Bool.not_not]); exact k
def sp__law_are_prices : SpA := fun as S P => ∃ x, ∃ m : Nat, as = [.int (m : Int), x] ∧ gd 6 x = true ∧ (∀ xs, x = .lst xs → ∀ y ∈ xs, frB 4000 y) ∧ P (.bl (prcA m x)) S
/-- an order of the things: of as many, all of them -/
def sp__law_drawn_order : SpA := fun as S P => ∃ (g : Addr) (xs : List A) (n : Nat) (l : List A), as = [.ref g, .lst xs] ∧ S g = some (.lst l) ∧ GenL n l ∧ xs.length ≤ 1000 ∧ gds 6 xs = true ∧ n ≤ 100000000000 ∧ ∀ (ys : List A) (l' : List A), ys.Perm xs → GenL (n + 100 * xs.length) l' → P (.lst ys) (sup S g (.lst l'))
def sp_order0 : SpA := fun as S P => ∃ (g : Addr) (xs : List A) (n : Nat) (l : List A), as = [.ref g, .lst xs] ∧ S g = some (.lst l) ∧ GenL n l ∧ xs.length ≤ 1000 ∧ gds 6 xs = true ∧ n ≤ 100000000000 ∧
  ∀ (ys : List A) (l' : List A) (p q : Addr), p ≠ q → p ≠ g → q ≠ g → S p = none → S q = none → ys.Perm xs → GenL (n + 100 * xs.length) l' → P (.ref p) (sup (sup (sup S q (.lst [])) g (.lst l')) p (.lst ys))
/-! ### _law_drawn_order -/
abbrev s__law_drawn_order : Stmt := topS 33
theorem sc__law_drawn_order : FnScope ["generator", "things", "left", "found"] ["generator", "things"] (defScope s__law_drawn_order) := ⟨rfl, rfl, rfl, by decide +kernel, rfl, by decide +kernel, by decide +kernel⟩
theorem bd__law_drawn_order (kV doc pm : Value) (an : Option Addr) (cdv ct : Value) (us : List Value) (hl : us.length = (["generator", "things"] : List Str).length) : bindArgs (PySem.W.fnOf "_law_drawn_order" "_law_drawn_order" (defArgs s__law_drawn_order) (defBody s__law_drawn_order) (defScope s__law_drawn_order) .none kV doc pm an cdv ct) ⟨us, []⟩ = pure ((["generator", "things"] : List Str).zip us) :=
  match us, hl with | [_, _], _ => rfl
--len by rintro as S P ⟨_, _, _, _, rfl, _⟩; rfl
theorem got__law_drawn_order {P : Program} {w : World} {K : PySem.W.Frag} {mg : Str → Option Value} {base : Heap} {f__law_drawn_order f__law_random : Addr} (B : Bi mg) (D : Def K mg "_law_drawn_order" s__law_drawn_order f__law_drawn_order) (G__law_random : Got P w K mg base 2 ["generator", "bound"] "_law_random" s__law_random f__law_random sp__law_random) :
    Got P w K mg base (2 + 1) ["generator", "things"] "_law_drawn_order" s__law_drawn_order f__law_drawn_order sp_order0 := by
  refine got_of D sc__law_drawn_order (by rintro as S P ⟨_, _, _, _, rfl, _⟩; rfl) (bd__law_drawn_order) (fun cdv A0 outer s0_ H E hr => ⟨_, (sb_cons (sa_par 2 3 sc__law_drawn_order.nd (la_cons (ea_callTy cx_listC B.list_ (la_cons (ea_var 1) la_nil)) (la_cons (ea_lstC la_nil) la_nil)))
      (sb_cons (sa_while PassesOwn.never (tt_cmp (oa_ne hr.units) (ea_var 2) (ea_lst la_nil)) (sb_one (sa_expr (ea_append (ea_var 3) (ea_popAt (ea_var 2) (ea_call G__law_random (hr.mono (by omega)) (la_cons (ea_var 0) (la_cons (ea_callB cx_len B.len_ (la_cons (ea_var 2) la_nil)) la_nil))))))))
      (sb_one (sa_ret (ea_var 3))))), fun as S P h => ?_⟩)
  obtain ⟨g, xs, n, l, rfl, hg, gl, hx, hgd, hn, k⟩ := h
  (try simp only [startN, List.map_cons, List.map_nil, List.length_cons, List.length_nil, Nat.reduceAdd, Nat.reduceSub, Nat.zero_add, Nat.sub_self, List.replicate_succ, List.replicate_zero, List.reduceReplicate, List.cons_append, List.nil_append, List.append_nil, ↓sRet, ↓sRetN, ↓sSeq, ↓sNil, ↓sIf, ↓sSet, ↓sPar, ↓sPar3, ↓sAsg, ↓sDrop, ↓sSetL, ↓eAnd, ↓eOr, ↓eNot, ↓eIf, ↓eNeg, ↓eCall, ↓eCallK, ↓eCallV, ↓lCons, ↓lNil, ↓eVar, ↓eC, ↓eTup, ↓eLst, ↓eLstC, ↓eOp, ↓eSl, ↓oNo, ↓oPart, ↓eBits, ↓tBool, ↓tAndA, ↓tOrA, ↓tNotA, ↓List.getElem?_cons_zero, ↓List.getElem?_cons_succ, ↓List.set_cons_zero, ↓List.set_cons_succ, ↓rInt, ↓rInt0, ↓rAddA, ↓rEqA, ↓rIsA, ↓rMax2A, ↓rMin2A, ↓rIntA, ↓rAbsA, bsel_true, bsel_false, wipeN, gNm, tYesA, ↓isNon, ↓isBlOf, ↓isI, ↓isB, ↓isS, ↓isT, ↓isL, Bool.or_false, Bool.or_true, Bool.false_or, Bool.true_or, ↓wList, ↓eLc, ↓rLenA, ↓sFor, ↓sWhile, ↓wRng1, ↓wRng2, ↓wTup, ↓wEnum, ↓eChain, ↓eListR1, ↓eLenSet, ↓eRev, ↓eInR, ↓eApp, ↓ePop, ↓eValue, ↓xDrop, ↓xRet, ↓xSet, ↓xCall, ↓xCallV, ↓sRaise, ↓eCallVL, ↓eLam3, startNF, Bool.not_true, Bool.not_false, Bool.false_eq_true, ↓reduceIte, Bool.not_not])
  refine ⟨xs, rfl, fun q hq => ?_⟩
  (try simp only [startN, List.map_cons, List.map_nil, List.length_cons, List.length_nil, Nat.reduceAdd, Nat.reduceSub, Nat.zero_add, Nat.sub_self, List.replicate_succ, List.replicate_zero, List.reduceReplicate, List.cons_append, List.nil_append, List.append_nil, ↓sRet, ↓sRetN, ↓sSeq, ↓sNil, ↓sIf, ↓sSet, ↓sPar, ↓sPar3, ↓sAsg, ↓sDrop, ↓sSetL, ↓eAnd, ↓eOr, ↓eNot, ↓eIf, ↓eNeg, ↓eCall, ↓eCallK, ↓eCallV, ↓lCons, ↓lNil, ↓eVar, ↓eC, ↓eTup, ↓eLst, ↓eLstC, ↓eOp, ↓eSl, ↓oNo, ↓oPart, ↓eBits, ↓tBool, ↓tAndA, ↓tOrA, ↓tNotA, ↓List.getElem?_cons_zero, ↓List.getElem?_cons_succ, ↓List.set_cons_zero, ↓List.set_cons_succ, ↓rInt, ↓rInt0, ↓rAddA, ↓rEqA, ↓rIsA, ↓rMax2A, ↓rMin2A, ↓rIntA, ↓rAbsA, bsel_true, bsel_false, wipeN, gNm, tYesA, ↓isNon, ↓isBlOf, ↓isI, ↓isB, ↓isS, ↓isT, ↓isL, Bool.or_false, Bool.or_true, Bool.false_or, Bool.true_or, ↓wList, ↓eLc, ↓rLenA, ↓sFor, ↓sWhile, ↓wRng1, ↓wRng2, ↓wTup, ↓wEnum, ↓eChain, ↓eListR1, ↓eLenSet, ↓eRev, ↓eInR, ↓eApp, ↓ePop, ↓eValue, ↓xDrop, ↓xRet, ↓xSet, ↓xCall, ↓xCallV, ↓sRaise, ↓eCallVL, ↓eLam3, startNF, Bool.not_true, Bool.not_false, Bool.false_eq_true, ↓reduceIte, Bool.not_not])
  intro p hp
  have hqg : q ≠ g := fun z => by rw [z, hg] at hq; cases hq
  have hpq : p ≠ q := fun z => by rw [z, sup_same] at hp; cases hp
  have hp0 : S p = none := by rw [sup_ne hpq] at hp; exact hp
  have hpg : p ≠ g := fun z => by rw [z, hg] at hp0; cases hp0
  refine ⟨fun m nv S' => ∃ (ys zs l' : List A), nv = [some (.ref g), some (.lst xs), some (.ref q), some (.ref p)] ∧ S' = sup (sup (sup S q (.lst zs)) g (.lst l')) p (.lst ys) ∧ m = zs.length ∧ (ys ++ zs).Perm xs ∧ GenL (n + 100 * ys.length) l', ⟨_, [], xs, l, rfl, ?_, rfl, List.Perm.refl _, gl⟩, ?_⟩
  · rw [sup_comm (Ne.symm hpg), sup_id (S := sup (sup S q _) p _) (a := g) (c := .lst l) (by rw [sup_ne (Ne.symm hpg), sup_ne (Ne.symm hqg)]; exact hg)]
  rintro m nv S' ⟨ys, zs, l', rfl, rfl, rfl, hpm, gl'⟩
  have hlen := hpm.length_eq
  rw [List.length_append] at hlen
  have hz : gds 6 zs = true := gds_of fun x hx => gds_mem hgd (hpm.subset (List.mem_append_right _ hx))
  have sq : (sup (sup (sup S q (.lst zs)) g (.lst l')) p (.lst ys)) q = some (.lst zs) := by rw [sup_ne (Ne.symm hpq), sup_ne hqg, sup_same]
  have sg : (sup (sup (sup S q (.lst zs)) g (.lst l')) p (.lst ys)) g = some (.lst l') := by rw [sup_ne (Ne.symm hpg), sup_same]
  (try simp only [startN, List.map_cons, List.map_nil, List.length_cons, List.length_nil, Nat.reduceAdd, Nat.reduceSub, Nat.zero_add, Nat.sub_self, List.replicate_succ, List.replicate_zero, List.reduceReplicate, List.cons_append, List.nil_append, List.append_nil, ↓sRet, ↓sRetN, ↓sSeq, ↓sNil, ↓sIf, ↓sSet, ↓sPar, ↓sPar3, ↓sAsg, ↓sDrop, ↓sSetL, ↓eAnd, ↓eOr, ↓eNot, ↓eIf, ↓eNeg, ↓eCall, ↓eCallK, ↓eCallV, ↓lCons, ↓lNil, ↓eVar, ↓eC, ↓eTup, ↓eLst, ↓eLstC, ↓eOp, ↓eSl, ↓oNo, ↓oPart, ↓eBits, ↓tBool, ↓tAndA, ↓tOrA, ↓tNotA, ↓List.getElem?_cons_zero, ↓List.getElem?_cons_succ, ↓List.set_cons_zero, ↓List.set_cons_succ, ↓rInt, ↓rInt0, ↓rAddA, ↓rEqA, ↓rIsA, ↓rMax2A, ↓rMin2A, ↓rIntA, ↓rAbsA, bsel_true, bsel_false, wipeN, gNm, tYesA, ↓isNon, ↓isBlOf, ↓isI, ↓isB, ↓isS, ↓isT, ↓isL, Bool.or_false, Bool.or_true, Bool.false_or, Bool.true_or, ↓wList, ↓eLc, ↓rLenA, ↓sFor, ↓sWhile, ↓wRng1, ↓wRng2, ↓wTup, ↓wEnum, ↓eChain, ↓eListR1, ↓eLenSet, ↓eRev, ↓eInR, ↓eApp, ↓ePop, ↓eValue, ↓xDrop, ↓xRet, ↓xSet, ↓xCall, ↓xCallV, ↓sRaise, ↓eCallVL, ↓eLam3, startNF, Bool.not_true, Bool.not_false, Bool.false_eq_true, ↓reduceIte, Bool.not_not])
  have rs : rsv (sup (sup (sup S q (.lst zs)) g (.lst l')) p (.lst ys)) (.ref q) = rsv (sup (sup (sup S q (.lst zs)) g (.lst l')) p (.lst ys)) (.lst zs) := by show _ = A.lst zs; unfold rsv; rw [lstr_ref sq]
  refine rEqD_of rs rfl (rEqD_gd hz (by decide) ?_)
  (try simp only [startN, List.map_cons, List.map_nil, List.length_cons, List.length_nil, Nat.reduceAdd, Nat.reduceSub, Nat.zero_add, Nat.sub_self, List.replicate_succ, List.replicate_zero, List.reduceReplicate, List.cons_append, List.nil_append, List.append_nil, ↓sRet, ↓sRetN, ↓sSeq, ↓sNil, ↓sIf, ↓sSet, ↓sPar, ↓sPar3, ↓sAsg, ↓sDrop, ↓sSetL, ↓eAnd, ↓eOr, ↓eNot, ↓eIf, ↓eNeg, ↓eCall, ↓eCallK, ↓eCallV, ↓lCons, ↓lNil, ↓eVar, ↓eC, ↓eTup, ↓eLst, ↓eLstC, ↓eOp, ↓eSl, ↓oNo, ↓oPart, ↓eBits, ↓tBool, ↓tAndA, ↓tOrA, ↓tNotA, ↓List.getElem?_cons_zero, ↓List.getElem?_cons_succ, ↓List.set_cons_zero, ↓List.set_cons_succ, ↓rInt, ↓rInt0, ↓rAddA, ↓rEqA, ↓rIsA, ↓rMax2A, ↓rMin2A, ↓rIntA, ↓rAbsA, bsel_true, bsel_false, wipeN, gNm, tYesA, ↓isNon, ↓isBlOf, ↓isI, ↓isB, ↓isS, ↓isT, ↓isL, Bool.or_false, Bool.or_true, Bool.false_or, Bool.true_or, ↓wList, ↓eLc, ↓rLenA, ↓sFor, ↓sWhile, ↓wRng1, ↓wRng2, ↓wTup, ↓wEnum, ↓eChain, ↓eListR1, ↓eLenSet, ↓eRev, ↓eInR, ↓eApp, ↓ePop, ↓eValue, ↓xDrop, ↓xRet, ↓xSet, ↓xCall, ↓xCallV, ↓sRaise, ↓eCallVL, ↓eLam3, startNF, Bool.not_true, Bool.not_false, Bool.false_eq_true, ↓reduceIte, Bool.not_not])
  cases zs with
  | nil =>
    rw [show ([] : List A).isEmpty = true from rfl]
    (try simp only [startN, List.map_cons, List.map_nil, List.length_cons, List.length_nil, Nat.reduceAdd, Nat.reduceSub, Nat.zero_add, Nat.sub_self, List.replicate_succ, List.replicate_zero, List.reduceReplicate, List.cons_append, List.nil_append, List.append_nil, ↓sRet, ↓sRetN, ↓sSeq, ↓sNil, ↓sIf, ↓sSet, ↓sPar, ↓sPar3, ↓sAsg, ↓sDrop, ↓sSetL, ↓eAnd, ↓eOr, ↓eNot, ↓eIf, ↓eNeg, ↓eCall, ↓eCallK, ↓eCallV, ↓lCons, ↓lNil, ↓eVar, ↓eC, ↓eTup, ↓eLst, ↓eLstC, ↓eOp, ↓eSl, ↓oNo, ↓oPart, ↓eBits, ↓tBool, ↓tAndA, ↓tOrA, ↓tNotA, ↓List.getElem?_cons_zero, ↓List.getElem?_cons_succ, ↓List.set_cons_zero, ↓List.set_cons_succ, ↓rInt, ↓rInt0, ↓rAddA, ↓rEqA, ↓rIsA, ↓rMax2A, ↓rMin2A, ↓rIntA, ↓rAbsA, bsel_true, bsel_false, wipeN, gNm, tYesA, ↓isNon, ↓isBlOf, ↓isI, ↓isB, ↓isS, ↓isT, ↓isL, Bool.or_false, Bool.or_true, Bool.false_or, Bool.true_or, ↓wList, ↓eLc, ↓rLenA, ↓sFor, ↓sWhile, ↓wRng1, ↓wRng2, ↓wTup, ↓wEnum, ↓eChain, ↓eListR1, ↓eLenSet, ↓eRev, ↓eInR, ↓eApp, ↓ePop, ↓eValue, ↓xDrop, ↓xRet, ↓xSet, ↓xCall, ↓xCallV, ↓sRaise, ↓eCallVL, ↓eLam3, startNF, Bool.not_true, Bool.not_false, Bool.false_eq_true, ↓reduceIte, Bool.not_not])
    rw [List.append_nil] at hpm
    exact k ys l' p q hpq hpg hqg hp0 hq hpm (gl'.mono (by simp at hlen; omega))
  | cons z zs =>
    rw [show (z :: zs).isEmpty = false from rfl]
    (try simp only [startN, List.map_cons, List.map_nil, List.length_cons, List.length_nil, Nat.reduceAdd, Nat.reduceSub, Nat.zero_add, Nat.sub_self, List.replicate_succ, List.replicate_zero, List.reduceReplicate, List.cons_append, List.nil_append, List.append_nil, ↓sRet, ↓sRetN, ↓sSeq, ↓sNil, ↓sIf, ↓sSet, ↓sPar, ↓sPar3, ↓sAsg, ↓sDrop, ↓sSetL, ↓eAnd, ↓eOr, ↓eNot, ↓eIf, ↓eNeg, ↓eCall, ↓eCallK, ↓eCallV, ↓lCons, ↓lNil, ↓eVar, ↓eC, ↓eTup, ↓eLst, ↓eLstC, ↓eOp, ↓eSl, ↓oNo, ↓oPart, ↓eBits, ↓tBool, ↓tAndA, ↓tOrA, ↓tNotA, ↓List.getElem?_cons_zero, ↓List.getElem?_cons_succ, ↓List.set_cons_zero, ↓List.set_cons_succ, ↓rInt, ↓rInt0, ↓rAddA, ↓rEqA, ↓rIsA, ↓rMax2A, ↓rMin2A, ↓rIntA, ↓rAbsA, bsel_true, bsel_false, wipeN, gNm, tYesA, ↓isNon, ↓isBlOf, ↓isI, ↓isB, ↓isS, ↓isT, ↓isL, Bool.or_false, Bool.or_true, Bool.false_or, Bool.true_or, ↓wList, ↓eLc, ↓rLenA, ↓sFor, ↓sWhile, ↓wRng1, ↓wRng2, ↓wTup, ↓wEnum, ↓eChain, ↓eListR1, ↓eLenSet, ↓eRev, ↓eInR, ↓eApp, ↓ePop, ↓eValue, ↓xDrop, ↓xRet, ↓xSet, ↓xCall, ↓xCallV, ↓sRaise, ↓eCallVL, ↓eLam3, startNF, Bool.not_true, Bool.not_false, Bool.false_eq_true, ↓reduceIte, Bool.not_not])
    rw [List.length_cons] at hlen
    refine ⟨⟨p, ys, rfl, sup_same⟩, ⟨q, _, rfl, sq⟩, _, lstr_ref sq, g, _, _, _, rfl, sg, gl', by simp only [List.length_cons]; omega, .small 1000 (m := 1000) (by simp only [List.length_cons]; omega) (by decide +kernel), by omega, fun r l2 r0 r1 gl2 => ?_⟩
    have hr : r.toNat < (z :: zs).length := by omega
    refine ⟨q, _, r.toNat, (z :: zs)[r.toNat], rfl, by congr 1; omega, by rw [sup_ne hqg]; exact sq, List.getElem?_eq_getElem hr, by simp only [List.length_cons] at hr; omega, p, ys, rfl, by rw [sup_ne hpq, sup_ne hpg, sup_same], by omega, zs.length, by simp, ys ++ [(z :: zs)[r.toNat]], (z :: zs).eraseIdx r.toNat, l2, trivial, ?_, ?_, ?_, ?_⟩
    · funext b
      unfold sup
      by_cases h1 : b = p
      · simp [h1]
      · by_cases h2 : b = q
        · simp [h2, Ne.symm hpq, hqg]
        · by_cases h3 : b = g
          · simp [h3, Ne.symm hpg, Ne.symm hqg]
          · simp [h1, h2, h3]
    · rw [List.length_eraseIdx_of_lt hr]; rfl
    · refine List.Perm.trans ?_ hpm
      rw [List.append_assoc]
      refine List.Perm.append_left ys ?_
      exact (perm_erase hr).symm
    · exact gl2.mono (by rw [List.length_append]; simp; omega)
theorem order_got {P : Program} {w : World} {K : PySem.W.Frag} {mg : Str → Option Value} {base : Heap} {x : Str} {k : Nat} {ps : List Str} {st : Stmt} {f : Addr} (G : Got P w K mg base k ps x st f sp_order0) : Got P w K mg base k ps x st f sp__law_drawn_order :=
  G.thawJ.imp fun as S Q ⟨g, xs, n, l, e, hg, gl, hx, hgd, hn, k⟩ => ⟨Q, ⟨g, xs, n, l, e, hg, gl, hx, hgd, hn, fun ys l' p q hpq hpg hqg hp hq pm gl' => ⟨sup S g (.lst l'), p, ys, rfl, by rw [sup_ne hpg]; exact hp, sup_same, fun b c h => by
    by_cases h1 : b = p
    · subst h1
      rw [sup_ne hpg, hp] at h
      cases h
    · rw [sup_ne h1]
      by_cases h2 : b = g
      · subst h2
        rw [sup_same] at h ⊢
        exact h
      · rw [sup_ne h2] at h ⊢
        by_cases h3 : b = q
        · subst h3
          rw [hq] at h
          cases h
        · rw [sup_ne h3]
          exact h, k ys l' pm gl'⟩⟩, fun _ _ h => h⟩
def sp__law_is_deal : SpA := fun as S P => ∃ x, ∃ m : Nat, as = [.int (m : Int), x] ∧ m ≤ 1000 ∧ gd 6 x = true ∧ P (.bl (dealA m x)) S
def sp__law_are_worths : SpA := sp_pure 7 fun x => .bl (areW x)
def sp__law_is_square : SpA := sp_pure 7 fun x => .bl (sqW x)
theorem nd_len {m : Nat} {xs : List A} (h : xs.length ≠ m) : dealA m (.lst xs) = false := by
  simp only [dealA]
  rw [decide_eq_false h, Bool.false_and, Bool.false_and]
theorem nd_mem {m : Nat} {xs : List A} {x : A} (h : x ∈ xs) (b : belA m x = false) : dealA m (.lst xs) = false := by
  simp only [dealA]
  have e : xs.all (belA m) = false := by
    rw [List.all_eq_false]
    exact ⟨x, h, by rw [b]; decide⟩
  rw [e, Bool.and_false, Bool.false_and]
theorem intsA_map : ∀ ns : List Int, intsA (ns.map .int) = some ns
  | [] => rfl
  | n :: ns => by rw [List.map_cons]; unfold intsA; rw [intsA_map ns]; rfl
theorem nd_dup {m : Nat} {ns : List Int} (h : ¬ ns.Nodup) : dealA m (.lst (ns.map .int)) = false := by
  by_cases e : ns.length = m
  · simp only [dealA]
    rw [intsA_map]
    have : ¬ dist ns = m := fun z => h (dist_nodup.mp (by omega))
    show (_ && decide (dist ns = m)) = false
    rw [decide_eq_false this, Bool.and_false]
  · exact nd_len (by rw [List.length_map]; exact e)
/-! ### _law_wrong_deals -/
abbrev s__law_wrong_deals : Stmt := topS 49
theorem sc__law_wrong_deals : FnScope ["deal", "size", "found"] ["deal"] (defScope s__law_wrong_deals) := ⟨rfl, rfl, rfl, by decide +kernel, rfl, by decide +kernel, by decide +kernel⟩
theorem bd__law_wrong_deals (kV doc pm : Value) (an : Option Addr) (cdv ct : Value) (us : List Value) (hl : us.length = (["deal"] : List Str).length) : bindArgs (PySem.W.fnOf "_law_wrong_deals" "_law_wrong_deals" (defArgs s__law_wrong_deals) (defBody s__law_wrong_deals) (defScope s__law_wrong_deals) .none kV doc pm an cdv ct) ⟨us, []⟩ = pure ((["deal"] : List Str).zip us) :=
  match us, hl with | [_], _ => rfl
/-- what is no deal: data that is good, and not much -/
def sp__law_wrong_deals : SpA := fun as S P => ∃ ns : List Int, as = [.lst (ns.map .int)] ∧ 1 ≤ ns.length ∧ ns.length ≤ 12 ∧ ∀ ws : List A, ws.length ≤ 30 → (∀ w ∈ ws, gd 6 w = true ∧ dealA ns.length w = false) → P (.lst ws) S
--len by rintro as S P ⟨x, rfl, _⟩; rfl
theorem got__law_wrong_deals {P : Program} {w : World} {K : PySem.W.Frag} {mg : Str → Option Value} {base : Heap} {f__law_wrong_deals : Addr} (B : Bi mg) (D : Def K mg "_law_wrong_deals" s__law_wrong_deals f__law_wrong_deals) :
    Got P w K mg base (0 + 1) ["deal"] "_law_wrong_deals" s__law_wrong_deals f__law_wrong_deals sp__law_wrong_deals := by
  refine got_of D sc__law_wrong_deals (by rintro as S P ⟨x, rfl, _⟩; rfl) (bd__law_wrong_deals) (fun cdv A0 outer s0_ H E hr => ⟨_, (sb_cons (sa_set 1 sc__law_wrong_deals.nd (ea_callB cx_len B.len_ (la_cons (ea_var 0) la_nil)))
      (sb_cons (sa_set 2 sc__law_wrong_deals.nd (ea_lst (la_cons ea_non (la_cons ea_int (la_cons ea_bl (la_cons ea_str (la_cons (ea_lst la_nil) (la_cons (ea_callTy cx_tuple B.tuple_ (la_cons (ea_var 0) la_nil)) (la_cons (ea_sl (ea_var 0) oa_no (oa_part (ea_neg ea_int))) (la_cons (ea_op oa_add (ea_var 0) (ea_lst (la_cons ea_int la_nil))) (la_cons (ea_op oa_add (ea_lst (la_cons ea_non la_nil)) (ea_sl (ea_var 0) (oa_part ea_int) oa_no)) (la_cons (ea_op oa_add (ea_lst (la_cons (ea_var 1) la_nil)) (ea_sl (ea_var 0) (oa_part ea_int) oa_no)) (la_cons (ea_op oa_add (ea_lst (la_cons (ea_op oa_sub ea_int ea_int) la_nil)) (ea_sl (ea_var 0) (oa_part ea_int) oa_no)) la_nil)))))))))))))
      (sb_one (sa_ret (ea_op oa_add (ea_var 2) (ea_lst (la_cons (ea_op oa_add (ea_lst (la_cons ea_bl la_nil)) (ea_sl (ea_var 0) (oa_part ea_int) oa_no)) (la_cons (ea_op oa_add (ea_lst (la_cons ea_str la_nil)) (ea_sl (ea_var 0) (oa_part ea_int) oa_no)) (la_cons (ea_if (tt_cmp oa_gt (ea_var 1) ea_int) (ea_op oa_add (ea_lst (la_cons (ea_ix (ea_var 0) (ea_neg ea_int)) la_nil)) (ea_sl (ea_var 0) (oa_part ea_int) oa_no)) (ea_lst (la_cons ea_int la_nil))) la_nil))))))))), fun as S P h => ?_⟩)
  obtain ⟨ns, rfl, h1, h2, k⟩ := h
  (try simp only [startN, List.map_cons, List.map_nil, List.length_cons, List.length_nil, Nat.reduceAdd, Nat.reduceSub, Nat.zero_add, Nat.sub_self, List.replicate_succ, List.replicate_zero, List.reduceReplicate, List.cons_append, List.nil_append, List.append_nil, ↓sRet, ↓sRetN, ↓sSeq, ↓sNil, ↓sIf, ↓sSet, ↓sPar, ↓sPar3, ↓sAsg, ↓sDrop, ↓sSetL, ↓eAnd, ↓eOr, ↓eNot, ↓eIf, ↓eNeg, ↓eCall, ↓eCallK, ↓eCallV, ↓lCons, ↓lNil, ↓eVar, ↓eC, ↓eTup, ↓eLst, ↓eLstC, ↓eOp, ↓eSl, ↓oNo, ↓oPart, ↓eBits, ↓tBool, ↓tAndA, ↓tOrA, ↓tNotA, ↓List.getElem?_cons_zero, ↓List.getElem?_cons_succ, ↓List.set_cons_zero, ↓List.set_cons_succ, ↓rInt, ↓rInt0, ↓rAddA, ↓rEqA, ↓rIsA, ↓rMax2A, ↓rMin2A, ↓rIntA, ↓rAbsA, bsel_true, bsel_false, wipeN, gNm, tYesA, ↓isNon, ↓isBlOf, ↓isI, ↓isB, ↓isS, ↓isT, ↓isL, Bool.or_false, Bool.or_true, Bool.false_or, Bool.true_or, ↓wList, ↓eLc, ↓rLenA, ↓sFor, ↓sWhile, ↓wRng1, ↓wRng2, ↓wTup, ↓wEnum, ↓eChain, ↓eListR1, ↓eLenSet, ↓eRev, ↓eInR, ↓eApp, ↓ePop, ↓eValue, ↓xDrop, ↓xRet, ↓xSet, ↓xCall, ↓xCallV, ↓sRaise, ↓eCallVL, ↓eLam3, startNF, Bool.not_true, Bool.not_false, Bool.false_eq_true, ↓reduceIte, Bool.not_not])
  simp only [cut_tail, cut_init]
  have g5 : ∀ x ∈ ns.map A.int, gd 5 x = true := gd_ints
  have gone : ∀ x, gd 5 x = true → gd 6 (.lst ([x] ++ (ns.map A.int).drop 1)) = true := fun x hx => gd_cat (all_one hx) (all_drop g5) (by simp only [List.length_cons, List.length_nil, List.length_drop, List.length_map]; omega)
  have bone : ∀ x, belA ns.length x = false → dealA ns.length (.lst ([x] ++ (ns.map A.int).drop 1)) = false := fun x hx => nd_mem (x := x) (by simp) hx
  refine ⟨_, rfl, _, rfl, _, rfl, _, _, rfl, rfl, (by rw [PySem.sizeLine_eq]; simp only [List.length_cons, List.length_nil, List.length_drop, List.length_dropLast, List.length_map, List.length_append]; omega), _, rfl, _, _, rfl, rfl, (by rw [PySem.sizeLine_eq]; simp only [List.length_cons, List.length_nil, List.length_drop, List.length_dropLast, List.length_map, List.length_append]; omega), _, rfl, _, _, rfl, rfl, (by rw [PySem.sizeLine_eq]; simp only [List.length_cons, List.length_nil, List.length_drop, List.length_dropLast, List.length_map, List.length_append]; omega), _, rfl, _, _, rfl, rfl, (by rw [PySem.sizeLine_eq]; simp only [List.length_cons, List.length_nil, List.length_drop, List.length_dropLast, List.length_map, List.length_append]; omega), _, rfl, _, _, rfl, rfl, (by rw [PySem.sizeLine_eq]; simp only [List.length_cons, List.length_nil, List.length_drop, List.length_dropLast, List.length_map, List.length_append]; omega), _, rfl, _, _, rfl, rfl, (by rw [PySem.sizeLine_eq]; simp only [List.length_cons, List.length_nil, List.length_drop, List.length_dropLast, List.length_map, List.length_append]; omega), ?_⟩
  have nine : ∀ w ∈ [A.non, A.int 0, A.bl true, A.str (Str.ofString "deal"), A.lst [], A.tup (ns.map A.int), A.lst (ns.map A.int).dropLast, A.lst (ns.map A.int ++ [A.int 0]), A.lst ([A.non] ++ (ns.map A.int).drop 1), A.lst ([A.int ((ns.map A.int).length : Nat)] ++ (ns.map A.int).drop 1), A.lst ([A.int (0 - 1)] ++ (ns.map A.int).drop 1)], gd 6 w = true ∧ dealA ns.length w = false := by
    intro w hw
    simp only [List.mem_cons, List.not_mem_nil, or_false] at hw
    rcases hw with rfl | rfl | rfl | rfl | rfl | rfl | rfl | rfl | rfl | rfl | rfl
    · exact ⟨rfl, rfl⟩
    · exact ⟨rfl, rfl⟩
    · exact ⟨rfl, rfl⟩
    · exact ⟨by decide +kernel, rfl⟩
    · exact ⟨rfl, nd_len (by simp; omega)⟩
    · exact ⟨gd_tup_of g5 (by rw [List.length_map]; omega), rfl⟩
    · exact ⟨gd_lst_of (all_init g5) (by rw [List.length_dropLast, List.length_map]; omega), nd_len (by rw [List.length_dropLast, List.length_map]; omega)⟩
    · exact ⟨gd_cat g5 (all_one rfl) (by simp only [List.length_cons, List.length_nil, List.length_map]; omega), nd_len (by simp)⟩
    · exact ⟨gone _ rfl, bone _ rfl⟩
    · exact ⟨gone _ rfl, bone _ (by unfold belA; rw [List.length_map]; simp)⟩
    · exact ⟨gone _ rfl, bone _ rfl⟩
  have two : ∀ w ∈ [A.lst ([A.bl true] ++ (ns.map A.int).drop 1), A.lst ([A.str (Str.ofString "0")] ++ (ns.map A.int).drop 1)], gd 6 w = true ∧ dealA ns.length w = false := by
    intro w hw
    simp only [List.mem_cons, List.not_mem_nil, or_false] at hw
    rcases hw with rfl | rfl
    · exact ⟨gone _ rfl, bone _ rfl⟩
    · exact ⟨gone _ (by decide +kernel), bone _ rfl⟩
  refine bsel_i (fun h => ?_) fun h => ?_
  · have h := of_decide_eq_true h
    rw [List.length_map] at h
    obtain ⟨ms, x, rfl⟩ : ∃ ms x, ns = ms ++ [x] := ⟨ns.dropLast, ns.getLast (by intro z; rw [z] at h; simp at h), (List.dropLast_concat_getLast _).symm⟩
    have em : (ms ++ [x]).map A.int = ms.map A.int ++ [A.int x] := by rw [List.map_append]; rfl
    rw [List.length_append, List.length_singleton] at h h1 h2
    refine ⟨_, A.int x, rfl, by rw [em]; exact atI_last, _, rfl, _, _, rfl, rfl, (by rw [PySem.sizeLine_eq]; simp only [List.length_cons, List.length_nil, List.length_drop, List.length_dropLast, List.length_map, List.length_append]; omega), _, _, rfl, rfl, (by rw [PySem.sizeLine_eq]; simp only [List.length_cons, List.length_nil, List.length_drop, List.length_dropLast, List.length_map, List.length_append]; omega), ?_⟩
    refine k _ (by simp) fun w hw => ?_
    rcases List.mem_append.mp hw with hw | hw
    · exact nine w hw
    · simp only [List.mem_cons, List.not_mem_nil, or_false] at hw
      rcases hw with rfl | rfl | rfl
      · exact two _ (by simp)
      · exact two _ (by simp)
      · refine ⟨gone _ rfl, ?_⟩
        obtain ⟨y, ms2, rfl⟩ : ∃ y ms2, ms = y :: ms2 := by
          cases ms with
          | nil => simp at h
          | cons y ms2 => exact ⟨y, ms2, rfl⟩
        have e : [A.int x] ++ (((y :: ms2) ++ [x]).map A.int).drop 1 = (x :: (ms2 ++ [x])).map A.int := by simp
        rw [e]
        refine nd_dup fun z => ?_
        rw [List.nodup_cons] at z
        exact z.1 (by simp)
  · have h := of_decide_eq_false h
    rw [List.length_map] at h
    refine ⟨_, _, rfl, rfl, (by rw [PySem.sizeLine_eq]; simp only [List.length_cons, List.length_nil, List.length_drop, List.length_dropLast, List.length_map, List.length_append]; omega), ?_⟩
    refine k _ (by simp) fun w hw => ?_
    rcases List.mem_append.mp hw with hw | hw
    · exact nine w hw
    · simp only [List.mem_cons, List.not_mem_nil, or_false] at hw
      rcases hw with rfl | rfl | rfl
      · exact two _ (by simp)
      · exact two _ (by simp)
      · refine ⟨rfl, nd_mem (x := .int 1) (by simp) ?_⟩
        unfold belA
        rw [show ns.length = 1 by omega]
        rfl
/-- a row of so many ints between lo and hi -/
def rowB (m : Nat) (lo hi : Int) (r : A) : Prop := ∃ vs : List Int, r = .lst (vs.map .int) ∧ vs.length = m ∧ ∀ v ∈ vs, lo ≤ v ∧ v ≤ hi
theorem rowB.row {m : Nat} {r : A} (h : rowB m (-1000000000) 1000000000 r) : rowA m r = true := by
  obtain ⟨vs, rfl, hv, hb⟩ := h
  simp only [rowA]
  rw [Bool.and_eq_true, decide_eq_true_eq, List.all_eq_true, List.length_map]
  refine ⟨hv, fun x hx => ?_⟩
  obtain ⟨v, hv2, rfl⟩ := List.mem_map.mp hx
  have b := hb v hv2
  simp only [wthA]
  rw [Bool.and_eq_true, decide_eq_true_eq, decide_eq_true_eq]
  exact b
theorem sq_of {ws : List A} {m : Nat} (m1 : 1 ≤ m) (m2 : m ≤ 12) (hl : ws.length = m) (hr : ∀ r ∈ ws, rowB m (-1000000000) 1000000000 r) : sqW (.lst ws) = true := by
  cases ws with
  | nil => simp at hl; omega
  | cons r rs =>
    obtain ⟨vs, e, hv, _⟩ := hr r List.mem_cons_self
    have hw : wideA (.lst (r :: rs)) = some m := by
      rw [e]
      show (if _ then some (vs.map A.int).length else none) = _
      rw [List.length_cons] at hl
      rw [if_pos ⟨by omega, by rw [List.length_map]; omega, by rw [List.length_map]; omega⟩, List.length_map, hv]
    unfold sqW
    rw [hw]
    show (List.all _ _ && decide _) = true
    rw [Bool.and_eq_true, decide_eq_true_eq, List.all_eq_true]
    exact ⟨fun x hx => (hr x hx).row, hl⟩
/-! ### _law_drawn_worths -/
abbrev s__law_drawn_worths : Stmt := topS 47
theorem sc__law_drawn_worths : FnScope ["generator", "size", "most", "worths", "room", "person", "worth", "row"] ["generator", "size"] (defScope s__law_drawn_worths) := ⟨rfl, rfl, rfl, by decide +kernel, rfl, by decide +kernel, by decide +kernel⟩
theorem bd__law_drawn_worths (kV doc pm : Value) (an : Option Addr) (cdv ct : Value) (us : List Value) (hl : us.length = (["generator", "size"] : List Str).length) : bindArgs (PySem.W.fnOf "_law_drawn_worths" "_law_drawn_worths" (defArgs s__law_drawn_worths) (defBody s__law_drawn_worths) (defScope s__law_drawn_worths) .none kV doc pm an cdv ct) ⟨us, []⟩ = pure ((["generator", "size"] : List Str).zip us) :=
  match us, hl with | [_, _], _ => rfl
/-- worths that are square -/
def sp__law_drawn_worths : SpA := fun as S P => ∃ (g : Addr) (m : Nat) (n : Nat) (l : List A), as = [.ref g, .int (m : Int)] ∧ S g = some (.lst l) ∧ GenL n l ∧ 1 ≤ m ∧ m ≤ 12 ∧ n ≤ 100000000000 ∧
  ∀ (ws : List A) (l' : List A), sqW (.lst ws) = true → ws.length = m → GenL (n + 100000) l' → P (.lst ws) (sup S g (.lst l'))
--len by rintro as S P ⟨_, _, _, _, rfl, _⟩; rfl
theorem got__law_drawn_worths {P : Program} {w : World} {K : PySem.W.Frag} {mg : Str → Option Value} {base : Heap} {f__law_drawn_worths f__law_pick f__law_random : Addr} (B : Bi mg) (D : Def K mg "_law_drawn_worths" s__law_drawn_worths f__law_drawn_worths) (G__law_pick : Got P w K mg base 3 ["generator", "things"] "_law_pick" s__law_pick f__law_pick sp__law_pick) (G__law_random : Got P w K mg base 2 ["generator", "bound"] "_law_random" s__law_random f__law_random sp__law_random) :
    Got P w K mg base (3 + 1) ["generator", "size"] "_law_drawn_worths" s__law_drawn_worths f__law_drawn_worths sp__law_drawn_worths := by
  refine got_of D sc__law_drawn_worths (by rintro as S P ⟨_, _, _, _, rfl, _⟩; rfl) (bd__law_drawn_worths) (fun cdv A0 outer s0_ H E hr => ⟨_, (sb_cons (sa_set 2 sc__law_drawn_worths.nd (ea_call G__law_pick (hr.mono (by omega)) (la_cons (ea_var 0) (la_cons (ea_lst (la_cons ea_int (la_cons ea_int (la_cons ea_int (la_cons ea_int (la_cons (ea_op oa_pow ea_int ea_int) la_nil)))))) la_nil))))
      (sb_cons (sa_set 3 sc__law_drawn_worths.nd (ea_lc [("person", 5)] sc__law_drawn_worths.nd (ia_rng1 B.range_ (la_cons (ea_var 1) la_nil)) (by kernel_rfl) (fun _ _ _ _ _ => (ga_name 5 sc__law_drawn_worths.nd)) (fun _ _ _ _ _ => tsa_nil) (fun _ _ _ _ _ => (ea_lc [("room", 4)] sc__law_drawn_worths.nd (ia_rng1 B.range_ (la_cons (ea_var 1) la_nil)) (by kernel_rfl) (fun _ _ _ _ _ => (ga_name 4 sc__law_drawn_worths.nd)) (fun _ _ _ _ _ => tsa_nil) (fun _ _ _ _ _ => (ea_call G__law_random (hr.mono (by omega)) (la_cons (ea_var 0) (la_cons (ea_op oa_add (ea_var 2) ea_int) la_nil))))))))
      (sb_cons (sa_if (tt_cmp (oa_eq hr.units) (ea_call G__law_random (hr.mono (by omega)) (la_cons (ea_var 0) (la_cons ea_int la_nil))) ea_int) (sb_one (sa_set 3 sc__law_drawn_worths.nd (ea_lc [("row", 7)] sc__law_drawn_worths.nd (ia_list (ea_var 3)) (by kernel_rfl) (fun _ _ _ _ _ => (ga_name 7 sc__law_drawn_worths.nd)) (fun _ _ _ _ _ => tsa_nil) (fun _ _ _ _ _ => (ea_lc [("worth", 6)] sc__law_drawn_worths.nd (ia_list (ea_var 7)) (by kernel_rfl) (fun _ _ _ _ _ => (ga_name 6 sc__law_drawn_worths.nd)) (fun _ _ _ _ _ => tsa_nil) (fun _ _ _ _ _ => (ea_op oa_sub (ea_var 6) (ea_op oa_fdiv (ea_var 2) ea_int)))))))) sb_nil)
      (sb_cons (sa_if (tt_cmp (oa_eq hr.units) (ea_call G__law_random (hr.mono (by omega)) (la_cons (ea_var 0) (la_cons ea_int la_nil))) ea_int) (sb_one (sa_set 3 sc__law_drawn_worths.nd (ea_lc [("row", 7)] sc__law_drawn_worths.nd (ia_list (ea_var 3)) (by kernel_rfl) (fun _ _ _ _ _ => (ga_name 7 sc__law_drawn_worths.nd)) (fun _ _ _ _ _ => tsa_nil) (fun _ _ _ _ _ => (ea_if (tt_cmp (oa_eq hr.units) (ea_call G__law_random (hr.mono (by omega)) (la_cons (ea_var 0) (la_cons ea_int la_nil))) ea_int) (ea_callTy cx_list B.list_ (la_cons (ea_ix (ea_var 3) ea_int) la_nil)) (ea_var 7)))))) sb_nil)
      (sb_one (sa_ret (ea_var 3))))))), fun as S P h => ?_⟩)
  obtain ⟨g, m, n, l, rfl, hg, gl, m1, m2, hn, k⟩ := h
  (try simp only [startN, List.map_cons, List.map_nil, List.length_cons, List.length_nil, Nat.reduceAdd, Nat.reduceSub, Nat.zero_add, Nat.sub_self, List.replicate_succ, List.replicate_zero, List.reduceReplicate, List.cons_append, List.nil_append, List.append_nil, ↓sRet, ↓sRetN, ↓sSeq, ↓sNil, ↓sIf, ↓sSet, ↓sPar, ↓sPar3, ↓sAsg, ↓sDrop, ↓sSetL, ↓eAnd, ↓eOr, ↓eNot, ↓eIf, ↓eNeg, ↓eCall, ↓eCallK, ↓eCallV, ↓lCons, ↓lNil, ↓eVar, ↓eC, ↓eTup, ↓eLst, ↓eLstC, ↓eOp, ↓eSl, ↓oNo, ↓oPart, ↓eBits, ↓tBool, ↓tAndA, ↓tOrA, ↓tNotA, ↓List.getElem?_cons_zero, ↓List.getElem?_cons_succ, ↓List.set_cons_zero, ↓List.set_cons_succ, ↓rInt, ↓rInt0, ↓rAddA, ↓rEqA, ↓rIsA, ↓rMax2A, ↓rMin2A, ↓rIntA, ↓rAbsA, bsel_true, bsel_false, wipeN, gNm, tYesA, ↓isNon, ↓isBlOf, ↓isI, ↓isB, ↓isS, ↓isT, ↓isL, Bool.or_false, Bool.or_true, Bool.false_or, Bool.true_or, ↓wList, ↓eLc, ↓rLenA, ↓sFor, ↓sWhile, ↓wRng1, ↓wRng2, ↓wTup, ↓wEnum, ↓eChain, ↓eListR1, ↓eLenSet, ↓eRev, ↓eInR, ↓eApp, ↓ePop, ↓eValue, ↓xDrop, ↓xRet, ↓xSet, ↓xCall, ↓xCallV, ↓sRaise, ↓eCallVL, ↓eLam3, startNF, Bool.not_true, Bool.not_false, Bool.false_eq_true, ↓reduceIte, Bool.not_not])
  have hc : CPowX 10 9 := ⟨by decide, by decide +kernel⟩
  have p1 : (10 : Int) ^ (9 : Int).toNat = 1000000000 := by decide +kernel
  rw [p1]
  refine ⟨hc, g, _, n, l, rfl, hg, gl, by decide, by decide, by omega, fun z l1 hz gl1 => ?_⟩
  obtain ⟨M, rfl, M0, M1⟩ : ∃ M : Int, z = .int M ∧ 0 < M ∧ M ≤ 1000000000 := by
    simp only [List.mem_cons, List.not_mem_nil, or_false] at hz
    rcases hz with rfl | rfl | rfl | rfl | rfl <;> exact ⟨_, rfl, by decide, by decide⟩
  (try simp only [startN, List.map_cons, List.map_nil, List.length_cons, List.length_nil, Nat.reduceAdd, Nat.reduceSub, Nat.zero_add, Nat.sub_self, List.replicate_succ, List.replicate_zero, List.reduceReplicate, List.cons_append, List.nil_append, List.append_nil, ↓sRet, ↓sRetN, ↓sSeq, ↓sNil, ↓sIf, ↓sSet, ↓sPar, ↓sPar3, ↓sAsg, ↓sDrop, ↓sSetL, ↓eAnd, ↓eOr, ↓eNot, ↓eIf, ↓eNeg, ↓eCall, ↓eCallK, ↓eCallV, ↓lCons, ↓lNil, ↓eVar, ↓eC, ↓eTup, ↓eLst, ↓eLstC, ↓eOp, ↓eSl, ↓oNo, ↓oPart, ↓eBits, ↓tBool, ↓tAndA, ↓tOrA, ↓tNotA, ↓List.getElem?_cons_zero, ↓List.getElem?_cons_succ, ↓List.set_cons_zero, ↓List.set_cons_succ, ↓rInt, ↓rInt0, ↓rAddA, ↓rEqA, ↓rIsA, ↓rMax2A, ↓rMin2A, ↓rIntA, ↓rAbsA, bsel_true, bsel_false, wipeN, gNm, tYesA, ↓isNon, ↓isBlOf, ↓isI, ↓isB, ↓isS, ↓isT, ↓isL, Bool.or_false, Bool.or_true, Bool.false_or, Bool.true_or, ↓wList, ↓eLc, ↓rLenA, ↓sFor, ↓sWhile, ↓wRng1, ↓wRng2, ↓wTup, ↓wEnum, ↓eChain, ↓eListR1, ↓eLenSet, ↓eRev, ↓eInR, ↓eApp, ↓ePop, ↓eValue, ↓xDrop, ↓xRet, ↓xSet, ↓xCall, ↓xCallV, ↓sRaise, ↓eCallVL, ↓eLam3, startNF, Bool.not_true, Bool.not_false, Bool.false_eq_true, ↓reduceIte, Bool.not_not])
  refine ⟨⟨by omega, by omega⟩, by rw [rngA_len]; omega, fun i acc S' => ∃ l', S' = sup S g (.lst l') ∧ GenL (n + 100 + 1200 * i) l' ∧ acc.length = i ∧ ∀ r ∈ acc, rowB m 0 M r, ⟨l1, rfl, gl1, rfl, fun _ h => by cases h⟩, fun _ _ _ _ _ => trivial, ?_, ?_⟩
  · rintro i x acc S' hx ⟨l2, rfl, gl2, ha, hr⟩
    obtain ⟨hi, _⟩ := rngA_at hx
    refine ⟨⟨by omega, by omega⟩, by rw [rngA_len]; omega, fun j acc2 S'' => ∃ l', S'' = sup S g (.lst l') ∧ GenL (n + 100 + 1200 * i + 100 * j) l' ∧ ∃ vs : List Int, acc2 = vs.map .int ∧ vs.length = j ∧ ∀ v ∈ vs, 0 ≤ v ∧ v ≤ M, ⟨l2, rfl, gl2, [], rfl, rfl, fun _ h => by cases h⟩, fun _ _ _ _ _ => trivial, ?_, ?_⟩
    · rintro j y acc2 S'' hy ⟨l3, rfl, gl3, vs, rfl, hv, hb⟩
      obtain ⟨hj, _⟩ := rngA_at hy
      (try simp only [startN, List.map_cons, List.map_nil, List.length_cons, List.length_nil, Nat.reduceAdd, Nat.reduceSub, Nat.zero_add, Nat.sub_self, List.replicate_succ, List.replicate_zero, List.reduceReplicate, List.cons_append, List.nil_append, List.append_nil, ↓sRet, ↓sRetN, ↓sSeq, ↓sNil, ↓sIf, ↓sSet, ↓sPar, ↓sPar3, ↓sAsg, ↓sDrop, ↓sSetL, ↓eAnd, ↓eOr, ↓eNot, ↓eIf, ↓eNeg, ↓eCall, ↓eCallK, ↓eCallV, ↓lCons, ↓lNil, ↓eVar, ↓eC, ↓eTup, ↓eLst, ↓eLstC, ↓eOp, ↓eSl, ↓oNo, ↓oPart, ↓eBits, ↓tBool, ↓tAndA, ↓tOrA, ↓tNotA, ↓List.getElem?_cons_zero, ↓List.getElem?_cons_succ, ↓List.set_cons_zero, ↓List.set_cons_succ, ↓rInt, ↓rInt0, ↓rAddA, ↓rEqA, ↓rIsA, ↓rMax2A, ↓rMin2A, ↓rIntA, ↓rAbsA, bsel_true, bsel_false, wipeN, gNm, tYesA, ↓isNon, ↓isBlOf, ↓isI, ↓isB, ↓isS, ↓isT, ↓isL, Bool.or_false, Bool.or_true, Bool.false_or, Bool.true_or, ↓wList, ↓eLc, ↓rLenA, ↓sFor, ↓sWhile, ↓wRng1, ↓wRng2, ↓wTup, ↓wEnum, ↓eChain, ↓eListR1, ↓eLenSet, ↓eRev, ↓eInR, ↓eApp, ↓ePop, ↓eValue, ↓xDrop, ↓xRet, ↓xSet, ↓xCall, ↓xCallV, ↓sRaise, ↓eCallVL, ↓eLam3, startNF, Bool.not_true, Bool.not_false, Bool.false_eq_true, ↓reduceIte, Bool.not_not])
      refine ⟨g, _, _, l3, rfl, sup_same, gl3, by omega, .small 1000 (m := 2000000000) (by omega) (by decide +kernel), by omega, fun r l4 r0 r1 gl4 => ?_⟩
      rw [sup_sup]
      refine ⟨l4, rfl, gl4.mono (by omega), vs ++ [r], by rw [List.map_append]; rfl, by rw [List.length_append, hv]; rfl, fun v hv2 => ?_⟩
      rcases List.mem_append.mp hv2 with h | h
      · exact hb v h
      · rw [List.mem_singleton] at h
        subst h
        omega
    · rintro acc2 S'' ⟨l3, rfl, gl3, vs, rfl, hv, hb⟩
      rw [rngA_len] at hv gl3
      refine ⟨l3, rfl, gl3.mono (by omega), by rw [List.length_append, ha]; rfl, fun r hr2 => ?_⟩
      rcases List.mem_append.mp hr2 with h | h
      · exact hr r h
      · rw [List.mem_singleton] at h
        subst h
        exact ⟨vs, rfl, by omega, hb⟩
  · rintro acc S' ⟨l2, rfl, gl2, ha, hr⟩
    rw [rngA_len] at ha gl2
    refine ⟨g, 3, _, l2, rfl, sup_same, gl2, by decide, .small 1000 (m := 3) (by decide) (by decide +kernel), by omega, fun c l3 c0 c1 gl3 => ?_⟩
    (try simp only [startN, List.map_cons, List.map_nil, List.length_cons, List.length_nil, Nat.reduceAdd, Nat.reduceSub, Nat.zero_add, Nat.sub_self, List.replicate_succ, List.replicate_zero, List.reduceReplicate, List.cons_append, List.nil_append, List.append_nil, ↓sRet, ↓sRetN, ↓sSeq, ↓sNil, ↓sIf, ↓sSet, ↓sPar, ↓sPar3, ↓sAsg, ↓sDrop, ↓sSetL, ↓eAnd, ↓eOr, ↓eNot, ↓eIf, ↓eNeg, ↓eCall, ↓eCallK, ↓eCallV, ↓lCons, ↓lNil, ↓eVar, ↓eC, ↓eTup, ↓eLst, ↓eLstC, ↓eOp, ↓eSl, ↓oNo, ↓oPart, ↓eBits, ↓tBool, ↓tAndA, ↓tOrA, ↓tNotA, ↓List.getElem?_cons_zero, ↓List.getElem?_cons_succ, ↓List.set_cons_zero, ↓List.set_cons_succ, ↓rInt, ↓rInt0, ↓rAddA, ↓rEqA, ↓rIsA, ↓rMax2A, ↓rMin2A, ↓rIntA, ↓rAbsA, bsel_true, bsel_false, wipeN, gNm, tYesA, ↓isNon, ↓isBlOf, ↓isI, ↓isB, ↓isS, ↓isT, ↓isL, Bool.or_false, Bool.or_true, Bool.false_or, Bool.true_or, ↓wList, ↓eLc, ↓rLenA, ↓sFor, ↓sWhile, ↓wRng1, ↓wRng2, ↓wTup, ↓wEnum, ↓eChain, ↓eListR1, ↓eLenSet, ↓eRev, ↓eInR, ↓eApp, ↓ePop, ↓eValue, ↓xDrop, ↓xRet, ↓xSet, ↓xCall, ↓xCallV, ↓sRaise, ↓eCallVL, ↓eLam3, startNF, Bool.not_true, Bool.not_false, Bool.false_eq_true, ↓reduceIte, Bool.not_not])
    rw [sup_sup]
    refine bsel_i (fun _ => ?_) fun _ => ?_
    · refine ⟨acc, rfl, by omega, fun i acc2 S'' => S'' = sup S g (.lst l3) ∧ acc2.length = i ∧ ∀ r ∈ acc2, rowB m (-1000000000) 1000000000 r, ⟨rfl, rfl, fun _ h => by cases h⟩, fun _ _ _ _ _ => rfl, ?_, ?_⟩
      · rintro i x acc2 S'' hx ⟨rfl, ha2, hr2⟩
        obtain ⟨vs, rfl, hv, hb⟩ := hr x (List.mem_of_getElem? hx)
        refine ⟨vs.map .int, rfl, by rw [List.length_map]; omega, fun j acc3 S3 => S3 = sup S g (.lst l3) ∧ ∃ us : List Int, acc3 = us.map .int ∧ us.length = j ∧ ∀ v ∈ us, -1000000000 ≤ v ∧ v ≤ 1000000000, ⟨rfl, [], rfl, rfl, fun _ h => by cases h⟩, fun _ _ _ _ _ => rfl, ?_, ?_⟩
        · rintro j y acc3 S3 hy ⟨rfl, us, rfl, hu, hub⟩
          obtain ⟨v, hv2, rfl⟩ : ∃ v ∈ vs, y = .int v := by
            obtain ⟨v, hv2, e⟩ := List.mem_map.mp (List.mem_of_getElem? hy)
            exact ⟨v, hv2, e.symm⟩
          have b := hb v hv2
          (try simp only [startN, List.map_cons, List.map_nil, List.length_cons, List.length_nil, Nat.reduceAdd, Nat.reduceSub, Nat.zero_add, Nat.sub_self, List.replicate_succ, List.replicate_zero, List.reduceReplicate, List.cons_append, List.nil_append, List.append_nil, ↓sRet, ↓sRetN, ↓sSeq, ↓sNil, ↓sIf, ↓sSet, ↓sPar, ↓sPar3, ↓sAsg, ↓sDrop, ↓sSetL, ↓eAnd, ↓eOr, ↓eNot, ↓eIf, ↓eNeg, ↓eCall, ↓eCallK, ↓eCallV, ↓lCons, ↓lNil, ↓eVar, ↓eC, ↓eTup, ↓eLst, ↓eLstC, ↓eOp, ↓eSl, ↓oNo, ↓oPart, ↓eBits, ↓tBool, ↓tAndA, ↓tOrA, ↓tNotA, ↓List.getElem?_cons_zero, ↓List.getElem?_cons_succ, ↓List.set_cons_zero, ↓List.set_cons_succ, ↓rInt, ↓rInt0, ↓rAddA, ↓rEqA, ↓rIsA, ↓rMax2A, ↓rMin2A, ↓rIntA, ↓rAbsA, bsel_true, bsel_false, wipeN, gNm, tYesA, ↓isNon, ↓isBlOf, ↓isI, ↓isB, ↓isS, ↓isT, ↓isL, Bool.or_false, Bool.or_true, Bool.false_or, Bool.true_or, ↓wList, ↓eLc, ↓rLenA, ↓sFor, ↓sWhile, ↓wRng1, ↓wRng2, ↓wTup, ↓wEnum, ↓eChain, ↓eListR1, ↓eLenSet, ↓eRev, ↓eInR, ↓eApp, ↓ePop, ↓eValue, ↓xDrop, ↓xRet, ↓xSet, ↓xCall, ↓xCallV, ↓sRaise, ↓eCallVL, ↓eLam3, startNF, Bool.not_true, Bool.not_false, Bool.false_eq_true, ↓reduceIte, Bool.not_not])
          refine ⟨(Bd.small 10 (m := 2) (by decide) (by decide)).divW (by decide), ?_⟩
          refine ⟨trivial, us ++ [v - M / 2], by rw [List.map_append]; rfl, by rw [List.length_append, hu]; rfl, fun w hw => ?_⟩
          rcases List.mem_append.mp hw with h | h
          · exact hub w h
          · rw [List.mem_singleton] at h
            subst h
            omega
        · rintro acc3 S3 ⟨rfl, us, rfl, hu, hub⟩
          rw [List.length_map] at hu
          refine ⟨rfl, by rw [List.length_append, ha2]; rfl, fun r hr3 => ?_⟩
          rcases List.mem_append.mp hr3 with h | h
          · exact hr2 r h
          · rw [List.mem_singleton] at h
            subst h
            exact ⟨us, rfl, by omega, hub⟩
      · rintro acc2 S'' ⟨rfl, ha2, hr2⟩
        have hws : acc2.length = m := by omega
        have hrw : ∀ r ∈ acc2, rowB m (-1000000000) 1000000000 r := hr2
        refine ⟨g, 4, _, l3, rfl, sup_same, gl3, by decide, .small 1000 (m := 4) (by decide) (by decide +kernel), by omega, fun d l4 d0 d1 gl4 => ?_⟩
        (try simp only [startN, List.map_cons, List.map_nil, List.length_cons, List.length_nil, Nat.reduceAdd, Nat.reduceSub, Nat.zero_add, Nat.sub_self, List.replicate_succ, List.replicate_zero, List.reduceReplicate, List.cons_append, List.nil_append, List.append_nil, ↓sRet, ↓sRetN, ↓sSeq, ↓sNil, ↓sIf, ↓sSet, ↓sPar, ↓sPar3, ↓sAsg, ↓sDrop, ↓sSetL, ↓eAnd, ↓eOr, ↓eNot, ↓eIf, ↓eNeg, ↓eCall, ↓eCallK, ↓eCallV, ↓lCons, ↓lNil, ↓eVar, ↓eC, ↓eTup, ↓eLst, ↓eLstC, ↓eOp, ↓eSl, ↓oNo, ↓oPart, ↓eBits, ↓tBool, ↓tAndA, ↓tOrA, ↓tNotA, ↓List.getElem?_cons_zero, ↓List.getElem?_cons_succ, ↓List.set_cons_zero, ↓List.set_cons_succ, ↓rInt, ↓rInt0, ↓rAddA, ↓rEqA, ↓rIsA, ↓rMax2A, ↓rMin2A, ↓rIntA, ↓rAbsA, bsel_true, bsel_false, wipeN, gNm, tYesA, ↓isNon, ↓isBlOf, ↓isI, ↓isB, ↓isS, ↓isT, ↓isL, Bool.or_false, Bool.or_true, Bool.false_or, Bool.true_or, ↓wList, ↓eLc, ↓rLenA, ↓sFor, ↓sWhile, ↓wRng1, ↓wRng2, ↓wTup, ↓wEnum, ↓eChain, ↓eListR1, ↓eLenSet, ↓eRev, ↓eInR, ↓eApp, ↓ePop, ↓eValue, ↓xDrop, ↓xRet, ↓xSet, ↓xCall, ↓xCallV, ↓sRaise, ↓eCallVL, ↓eLam3, startNF, Bool.not_true, Bool.not_false, Bool.false_eq_true, ↓reduceIte, Bool.not_not])
        rw [sup_sup]
        refine bsel_i (fun _ => ?_) fun _ => ?_
        · refine ⟨acc2, rfl, by omega, fun i acc4 S4 => ∃ l', S4 = sup S g (.lst l') ∧ GenL (n + 100 + 1200 * m + 200 + 100 * i) l' ∧ acc4.length = i ∧ ∀ r ∈ acc4, rowB m (-1000000000) 1000000000 r, ⟨l4, rfl, gl4.mono (by omega), rfl, fun _ h => by cases h⟩, fun _ _ _ _ _ => rfl, ?_, ?_⟩
          · rintro i x acc4 S4 hx ⟨l5, rfl, gl5, ha4, hr4⟩
            have i1 := (List.getElem?_eq_some_iff.mp hx).1
            refine ⟨g, 2, _, l5, rfl, sup_same, gl5, by decide, .small 1000 (m := 2) (by decide) (by decide +kernel), by omega, fun e l6 e0 e1 gl6 => ?_⟩
            (try simp only [startN, List.map_cons, List.map_nil, List.length_cons, List.length_nil, Nat.reduceAdd, Nat.reduceSub, Nat.zero_add, Nat.sub_self, List.replicate_succ, List.replicate_zero, List.reduceReplicate, List.cons_append, List.nil_append, List.append_nil, ↓sRet, ↓sRetN, ↓sSeq, ↓sNil, ↓sIf, ↓sSet, ↓sPar, ↓sPar3, ↓sAsg, ↓sDrop, ↓sSetL, ↓eAnd, ↓eOr, ↓eNot, ↓eIf, ↓eNeg, ↓eCall, ↓eCallK, ↓eCallV, ↓lCons, ↓lNil, ↓eVar, ↓eC, ↓eTup, ↓eLst, ↓eLstC, ↓eOp, ↓eSl, ↓oNo, ↓oPart, ↓eBits, ↓tBool, ↓tAndA, ↓tOrA, ↓tNotA, ↓List.getElem?_cons_zero, ↓List.getElem?_cons_succ, ↓List.set_cons_zero, ↓List.set_cons_succ, ↓rInt, ↓rInt0, ↓rAddA, ↓rEqA, ↓rIsA, ↓rMax2A, ↓rMin2A, ↓rIntA, ↓rAbsA, bsel_true, bsel_false, wipeN, gNm, tYesA, ↓isNon, ↓isBlOf, ↓isI, ↓isB, ↓isS, ↓isT, ↓isL, Bool.or_false, Bool.or_true, Bool.false_or, Bool.true_or, ↓wList, ↓eLc, ↓rLenA, ↓sFor, ↓sWhile, ↓wRng1, ↓wRng2, ↓wTup, ↓wEnum, ↓eChain, ↓eListR1, ↓eLenSet, ↓eRev, ↓eInR, ↓eApp, ↓ePop, ↓eValue, ↓xDrop, ↓xRet, ↓xSet, ↓xCall, ↓xCallV, ↓sRaise, ↓eCallVL, ↓eLam3, startNF, Bool.not_true, Bool.not_false, Bool.false_eq_true, ↓reduceIte, Bool.not_not])
            rw [sup_sup]
            refine bsel_i (fun _ => ?_) fun _ => ?_
            · obtain ⟨w0, ew⟩ : ∃ w0, acc2[0]? = some w0 := ⟨_, List.getElem?_eq_getElem (by omega)⟩
              obtain ⟨vs, rfl, hv, hb⟩ := hrw w0 (List.mem_of_getElem? ew)
              refine ⟨acc2, _, rfl, atI_nat' ew, vs.map .int, rfl, l6, rfl, gl6.mono (by omega), by rw [List.length_append, ha4]; rfl, fun r hr5 => ?_⟩
              rcases List.mem_append.mp hr5 with h | h
              · exact hr4 r h
              · rw [List.mem_singleton] at h
                subst h
                exact ⟨vs, rfl, hv, hb⟩
            · refine ⟨l6, rfl, gl6.mono (by omega), by rw [List.length_append, ha4]; rfl, fun r hr5 => ?_⟩
              rcases List.mem_append.mp hr5 with h | h
              · exact hr4 r h
              · rw [List.mem_singleton] at h
                subst h
                exact hrw _ (List.mem_of_getElem? hx)
          · rintro acc4 S4 ⟨l5, rfl, gl5, ha4, hr4⟩
            exact k _ _ (sq_of m1 m2 (by omega) hr4) (by omega) (gl5.mono (by omega))
        · exact k _ _ (sq_of m1 m2 hws hrw) hws (gl4.mono (by omega))
    · skip
      have hws : acc.length = m := by omega
      have hrw : ∀ r ∈ acc, rowB m (-1000000000) 1000000000 r := (fun r h => by obtain ⟨vs, e, hv, hb⟩ := hr r h; exact ⟨vs, e, hv, fun v hv2 => by have := hb v hv2; omega⟩)
      refine ⟨g, 4, _, l3, rfl, sup_same, gl3, by decide, .small 1000 (m := 4) (by decide) (by decide +kernel), by omega, fun d l4 d0 d1 gl4 => ?_⟩
      (try simp only [startN, List.map_cons, List.map_nil, List.length_cons, List.length_nil, Nat.reduceAdd, Nat.reduceSub, Nat.zero_add, Nat.sub_self, List.replicate_succ, List.replicate_zero, List.reduceReplicate, List.cons_append, List.nil_append, List.append_nil, ↓sRet, ↓sRetN, ↓sSeq, ↓sNil, ↓sIf, ↓sSet, ↓sPar, ↓sPar3, ↓sAsg, ↓sDrop, ↓sSetL, ↓eAnd, ↓eOr, ↓eNot, ↓eIf, ↓eNeg, ↓eCall, ↓eCallK, ↓eCallV, ↓lCons, ↓lNil, ↓eVar, ↓eC, ↓eTup, ↓eLst, ↓eLstC, ↓eOp, ↓eSl, ↓oNo, ↓oPart, ↓eBits, ↓tBool, ↓tAndA, ↓tOrA, ↓tNotA, ↓List.getElem?_cons_zero, ↓List.getElem?_cons_succ, ↓List.set_cons_zero, ↓List.set_cons_succ, ↓rInt, ↓rInt0, ↓rAddA, ↓rEqA, ↓rIsA, ↓rMax2A, ↓rMin2A, ↓rIntA, ↓rAbsA, bsel_true, bsel_false, wipeN, gNm, tYesA, ↓isNon, ↓isBlOf, ↓isI, ↓isB, ↓isS, ↓isT, ↓isL, Bool.or_false, Bool.or_true, Bool.false_or, Bool.true_or, ↓wList, ↓eLc, ↓rLenA, ↓sFor, ↓sWhile, ↓wRng1, ↓wRng2, ↓wTup, ↓wEnum, ↓eChain, ↓eListR1, ↓eLenSet, ↓eRev, ↓eInR, ↓eApp, ↓ePop, ↓eValue, ↓xDrop, ↓xRet, ↓xSet, ↓xCall, ↓xCallV, ↓sRaise, ↓eCallVL, ↓eLam3, startNF, Bool.not_true, Bool.not_false, Bool.false_eq_true, ↓reduceIte, Bool.not_not])
      rw [sup_sup]
      refine bsel_i (fun _ => ?_) fun _ => ?_
      · refine ⟨acc, rfl, by omega, fun i acc4 S4 => ∃ l', S4 = sup S g (.lst l') ∧ GenL (n + 100 + 1200 * m + 200 + 100 * i) l' ∧ acc4.length = i ∧ ∀ r ∈ acc4, rowB m (-1000000000) 1000000000 r, ⟨l4, rfl, gl4.mono (by omega), rfl, fun _ h => by cases h⟩, fun _ _ _ _ _ => rfl, ?_, ?_⟩
        · rintro i x acc4 S4 hx ⟨l5, rfl, gl5, ha4, hr4⟩
          have i1 := (List.getElem?_eq_some_iff.mp hx).1
          refine ⟨g, 2, _, l5, rfl, sup_same, gl5, by decide, .small 1000 (m := 2) (by decide) (by decide +kernel), by omega, fun e l6 e0 e1 gl6 => ?_⟩
          (try simp only [startN, List.map_cons, List.map_nil, List.length_cons, List.length_nil, Nat.reduceAdd, Nat.reduceSub, Nat.zero_add, Nat.sub_self, List.replicate_succ, List.replicate_zero, List.reduceReplicate, List.cons_append, List.nil_append, List.append_nil, ↓sRet, ↓sRetN, ↓sSeq, ↓sNil, ↓sIf, ↓sSet, ↓sPar, ↓sPar3, ↓sAsg, ↓sDrop, ↓sSetL, ↓eAnd, ↓eOr, ↓eNot, ↓eIf, ↓eNeg, ↓eCall, ↓eCallK, ↓eCallV, ↓lCons, ↓lNil, ↓eVar, ↓eC, ↓eTup, ↓eLst, ↓eLstC, ↓eOp, ↓eSl, ↓oNo, ↓oPart, ↓eBits, ↓tBool, ↓tAndA, ↓tOrA, ↓tNotA, ↓List.getElem?_cons_zero, ↓List.getElem?_cons_succ, ↓List.set_cons_zero, ↓List.set_cons_succ, ↓rInt, ↓rInt0, ↓rAddA, ↓rEqA, ↓rIsA, ↓rMax2A, ↓rMin2A, ↓rIntA, ↓rAbsA, bsel_true, bsel_false, wipeN, gNm, tYesA, ↓isNon, ↓isBlOf, ↓isI, ↓isB, ↓isS, ↓isT, ↓isL, Bool.or_false, Bool.or_true, Bool.false_or, Bool.true_or, ↓wList, ↓eLc, ↓rLenA, ↓sFor, ↓sWhile, ↓wRng1, ↓wRng2, ↓wTup, ↓wEnum, ↓eChain, ↓eListR1, ↓eLenSet, ↓eRev, ↓eInR, ↓eApp, ↓ePop, ↓eValue, ↓xDrop, ↓xRet, ↓xSet, ↓xCall, ↓xCallV, ↓sRaise, ↓eCallVL, ↓eLam3, startNF, Bool.not_true, Bool.not_false, Bool.false_eq_true, ↓reduceIte, Bool.not_not])
          rw [sup_sup]
          refine bsel_i (fun _ => ?_) fun _ => ?_
          · obtain ⟨w0, ew⟩ : ∃ w0, acc[0]? = some w0 := ⟨_, List.getElem?_eq_getElem (by omega)⟩
            obtain ⟨vs, rfl, hv, hb⟩ := hrw w0 (List.mem_of_getElem? ew)
            refine ⟨acc, _, rfl, atI_nat' ew, vs.map .int, rfl, l6, rfl, gl6.mono (by omega), by rw [List.length_append, ha4]; rfl, fun r hr5 => ?_⟩
            rcases List.mem_append.mp hr5 with h | h
            · exact hr4 r h
            · rw [List.mem_singleton] at h
              subst h
              exact ⟨vs, rfl, hv, hb⟩
          · refine ⟨l6, rfl, gl6.mono (by omega), by rw [List.length_append, ha4]; rfl, fun r hr5 => ?_⟩
            rcases List.mem_append.mp hr5 with h | h
            · exact hr4 r h
            · rw [List.mem_singleton] at h
              subst h
              exact hrw _ (List.mem_of_getElem? hx)
        · rintro acc4 S4 ⟨l5, rfl, gl5, ha4, hr4⟩
          exact k _ _ (sq_of m1 m2 (by omega) hr4) (by omega) (gl5.mono (by omega))
      · exact k _ _ (sq_of m1 m2 hws hrw) hws (gl4.mono (by omega))
/-- a price, or what stands in its place: good data of told size -/
def GpA (y : A) : Prop := gd 5 y = true ∧ frB 4000 y
def wpA (w : A) : Prop := gd 6 w = true ∧ ∀ xs, w = .lst xs → ∀ y ∈ xs, frB 4000 y
theorem wp_lst {xs : List A} (h : ∀ y ∈ xs, GpA y) (hl : xs.length ≤ 1000000) : wpA (.lst xs) := ⟨gd_lst_of (fun y hy => (h y hy).1) hl, fun ys e y hy => by cases e; exact (h y hy).2⟩
theorem wp_cat {xs ys : List A} (h : ∀ y ∈ xs, GpA y) (h2 : ∀ y ∈ ys, GpA y) (hl : xs.length + ys.length ≤ 1000000) : wpA (.lst (xs ++ ys)) := wp_lst (fun y hy => (List.mem_append.mp hy).elim (h y) (h2 y)) (by rw [List.length_append]; exact hl)
/-- what is no list of prices: good data, and not much -/
def sp__law_wrong_prices : SpA := fun as S P => ∃ ps : List A, as = [.lst ps] ∧ ps.length ≤ 12 ∧ (∀ p ∈ ps, GpA p) ∧ ∀ ws : List A, ws.length ≤ 30 → (∀ w ∈ ws, wpA w) → P (.lst ws) S
theorem sq_ne_len {r rs : List A} (h : rs.length + 1 ≠ r.length) : sqW (.lst (.lst r :: rs)) = false := by
  cases e : wideA (.lst (.lst r :: rs)) with
  | none => unfold sqW; rw [e]
  | some m =>
    obtain ⟨r', rs', e1, _, _, _, rfl⟩ := wide_some e
    cases e1
    unfold sqW
    rw [e]
    show (_ && decide ((A.lst r :: rs).length = r.length)) = false
    rw [decide_eq_false (by rw [List.length_cons]; exact h), Bool.and_false]
theorem sq_bad {r rs : List A} {x : A} (h : x ∈ r) (hw : wthA x = false) : sqW (.lst (.lst r :: rs)) = false := by
  cases e : wideA (.lst (.lst r :: rs)) with
  | none => unfold sqW; rw [e]
  | some m =>
    unfold sqW
    rw [e]
    have z : rowA m (.lst r) = false := by
      simp only [rowA]
      have : r.all wthA = false := by
        rw [List.all_eq_false]
        exact ⟨x, h, by rw [hw]; decide⟩
      rw [this, Bool.and_false]
    show ((rowA m (.lst r) && _) && _) = false
    rw [z, Bool.false_and, Bool.false_and]
theorem sq_split {ws : List A} (h : sqW (.lst ws) = true) : ∃ (vs : List Int) (rs : List A), ws = .lst (vs.map .int) :: rs ∧ rs.length + 1 = vs.length ∧ vs.length ≤ 12 ∧ ∀ r ∈ rs, ∃ us : List Int, r = .lst (us.map .int) ∧ us.length = vs.length := by
  have hl := sq_len h
  have row : ∀ {i : Nat} {r : A}, ws[i]? = some r → ∃ us : List Int, r = .lst (us.map .int) ∧ us.length = ws.length := by
    intro i r e
    obtain ⟨xs, rfl, h1, h2⟩ := sq_row h e
    have : ∃ us : List Int, xs = us.map .int := by
      clear h1 e
      induction xs with
      | nil => exact ⟨[], rfl⟩
      | cons x xs ih =>
        obtain ⟨us, rfl⟩ := ih fun y hy => h2 y (List.mem_cons_of_mem _ hy)
        obtain ⟨v, rfl⟩ := h2 x List.mem_cons_self
        exact ⟨v :: us, rfl⟩
    obtain ⟨us, rfl⟩ := this
    exact ⟨us, rfl, by rw [List.length_map] at h1; exact h1⟩
  cases ws with
  | nil => simp at hl
  | cons r rs =>
    obtain ⟨vs, rfl, hv⟩ := row (i := 0) rfl
    refine ⟨vs, rs, rfl, by rw [hv]; rfl, by omega, fun r hr => ?_⟩
    obtain ⟨i, hi, e⟩ := List.getElem_of_mem hr
    obtain ⟨us, e2, hu⟩ := row (i := i + 1) (r := r) (by rw [List.getElem?_cons_succ, List.getElem?_eq_getElem hi, e])
    exact ⟨us, e2, by rw [hu, hv]⟩
theorem sq_long {xs : List A} (h : 12 < xs.length) : sqW (.lst xs) = false := by
  cases e : wideA (.lst xs) with
  | none => unfold sqW; rw [e]
  | some m =>
    obtain ⟨r', rs', e1, h1, _⟩ := wide_some e
    cases e1
    rw [List.length_cons] at h
    omega
/-! ### _law_wrong_worths -/
abbrev s__law_wrong_worths : Stmt := topS 48
theorem sc__law_wrong_worths : FnScope ["worths", "size", "row", "found", "other", "person"] ["worths"] (defScope s__law_wrong_worths) := ⟨rfl, rfl, rfl, by decide +kernel, rfl, by decide +kernel, by decide +kernel⟩
theorem bd__law_wrong_worths (kV doc pm : Value) (an : Option Addr) (cdv ct : Value) (us : List Value) (hl : us.length = (["worths"] : List Str).length) : bindArgs (PySem.W.fnOf "_law_wrong_worths" "_law_wrong_worths" (defArgs s__law_wrong_worths) (defBody s__law_wrong_worths) (defScope s__law_wrong_worths) .none kV doc pm an cdv ct) ⟨us, []⟩ = pure ((["worths"] : List Str).zip us) :=
  match us, hl with | [_], _ => rfl
/-- what is no square of worths: good data, and not much -/
def sp__law_wrong_worths : SpA := fun as S P => ∃ ws : List A, as = [.lst ws] ∧ sqW (.lst ws) = true ∧ ∀ out : List A, out.length ≤ 30 → (∀ w ∈ out, gd 7 w = true ∧ sqW w = false) → P (.lst out) S
--len by rintro as S P ⟨x, rfl, _⟩; rfl
theorem got__law_wrong_worths {P : Program} {w : World} {K : PySem.W.Frag} {mg : Str → Option Value} {base : Heap} {f__law_wrong_worths : Addr} (B : Bi mg) (D : Def K mg "_law_wrong_worths" s__law_wrong_worths f__law_wrong_worths) :
    Got P w K mg base (0 + 1) ["worths"] "_law_wrong_worths" s__law_wrong_worths f__law_wrong_worths sp__law_wrong_worths := by
  refine got_of D sc__law_wrong_worths (by rintro as S P ⟨x, rfl, _⟩; rfl) (bd__law_wrong_worths) (fun cdv A0 outer s0_ H E hr => ⟨_, (sb_cons (sa_par 1 2 sc__law_wrong_worths.nd (la_cons (ea_callB cx_len B.len_ (la_cons (ea_var 0) la_nil)) (la_cons (ea_ix (ea_var 0) ea_int) la_nil)))
      (sb_cons (sa_set 3 sc__law_wrong_worths.nd (ea_lst (la_cons ea_non (la_cons ea_int (la_cons ea_bl (la_cons ea_str (la_cons (ea_lst la_nil) (la_cons (ea_lst (la_cons (ea_lst la_nil) la_nil)) (la_cons (ea_callTy cx_tuple B.tuple_ (la_cons (ea_var 0) la_nil)) (la_cons (ea_op oa_add (ea_lst (la_cons ea_non la_nil)) (ea_sl (ea_var 0) (oa_part ea_int) oa_no)) (la_cons (ea_op oa_add (ea_lst (la_cons (ea_callTy cx_tuple B.tuple_ (la_cons (ea_var 2) la_nil)) la_nil)) (ea_sl (ea_var 0) (oa_part ea_int) oa_no)) (la_cons (ea_op oa_add (ea_lst (la_cons (ea_op oa_add (ea_var 2) (ea_lst (la_cons ea_int la_nil))) la_nil)) (ea_sl (ea_var 0) (oa_part ea_int) oa_no)) la_nil))))))))))))
      (sb_cons (sa_set 3 sc__law_wrong_worths.nd (ea_op oa_add (ea_var 3) (ea_lst (la_cons (ea_op oa_add (ea_lst (la_cons (ea_op oa_add (ea_sl (ea_var 2) oa_no (oa_part (ea_neg ea_int))) (ea_lst (la_cons ea_non la_nil))) la_nil)) (ea_sl (ea_var 0) (oa_part ea_int) oa_no)) (la_cons (ea_op oa_add (ea_lst (la_cons (ea_op oa_add (ea_sl (ea_var 2) oa_no (oa_part (ea_neg ea_int))) (ea_lst (la_cons ea_bl la_nil))) la_nil)) (ea_sl (ea_var 0) (oa_part ea_int) oa_no)) la_nil)))))
      (sb_cons (sa_set 3 sc__law_wrong_worths.nd (ea_op oa_add (ea_var 3) (ea_lst (la_cons (ea_op oa_add (ea_lst (la_cons (ea_op oa_add (ea_sl (ea_var 2) oa_no (oa_part (ea_neg ea_int))) (ea_lst (la_cons ea_str la_nil))) la_nil)) (ea_sl (ea_var 0) (oa_part ea_int) oa_no)) (la_cons (ea_op oa_add (ea_lst (la_cons (ea_op oa_add (ea_sl (ea_var 2) oa_no (oa_part (ea_neg ea_int))) (ea_lst (la_cons (ea_op oa_add (ea_op oa_pow ea_int ea_int) ea_int) la_nil))) la_nil)) (ea_sl (ea_var 0) (oa_part ea_int) oa_no)) (la_cons (ea_op oa_add (ea_lst (la_cons (ea_op oa_add (ea_sl (ea_var 2) oa_no (oa_part (ea_neg ea_int))) (ea_lst (la_cons (ea_op oa_sub (ea_op oa_sub ea_int (ea_op oa_pow ea_int ea_int)) ea_int) la_nil))) la_nil)) (ea_sl (ea_var 0) (oa_part ea_int) oa_no)) (la_cons (ea_lc [("other", 4)] sc__law_wrong_worths.nd (ia_list (ea_var 0)) (by kernel_rfl) (fun _ _ _ _ _ => (ga_name 4 sc__law_wrong_worths.nd)) (fun _ _ _ _ _ => tsa_nil) (fun _ _ _ _ _ => (ea_op oa_add (ea_var 4) (ea_lst (la_cons ea_int la_nil))))) (la_cons (ea_op oa_add (ea_var 0) (ea_lst (la_cons (ea_var 2) la_nil))) la_nil))))))))
      (sb_one (sa_ret (ea_op oa_add (ea_var 3) (ea_lst (la_cons (ea_lc [("person", 5)] sc__law_wrong_worths.nd (ia_rng1 B.range_ (la_cons ea_int la_nil)) (by kernel_rfl) (fun _ _ _ _ _ => (ga_name 5 sc__law_wrong_worths.nd)) (fun _ _ _ _ _ => tsa_nil) (fun _ _ _ _ _ => (ea_op oa_mulL (ea_lst (la_cons ea_int la_nil)) ea_int))) la_nil))))))))), fun as S P h => ?_⟩)
  obtain ⟨ws, rfl, hs, k⟩ := h
  obtain ⟨vs, rs, rfl, hl, h12, hr⟩ := sq_split hs
  (try simp only [startN, List.map_cons, List.map_nil, List.length_cons, List.length_nil, Nat.reduceAdd, Nat.reduceSub, Nat.zero_add, Nat.sub_self, List.replicate_succ, List.replicate_zero, List.reduceReplicate, List.cons_append, List.nil_append, List.append_nil, ↓sRet, ↓sRetN, ↓sSeq, ↓sNil, ↓sIf, ↓sSet, ↓sPar, ↓sPar3, ↓sAsg, ↓sDrop, ↓sSetL, ↓eAnd, ↓eOr, ↓eNot, ↓eIf, ↓eNeg, ↓eCall, ↓eCallK, ↓eCallV, ↓lCons, ↓lNil, ↓eVar, ↓eC, ↓eTup, ↓eLst, ↓eLstC, ↓eOp, ↓eSl, ↓oNo, ↓oPart, ↓eBits, ↓tBool, ↓tAndA, ↓tOrA, ↓tNotA, ↓List.getElem?_cons_zero, ↓List.getElem?_cons_succ, ↓List.set_cons_zero, ↓List.set_cons_succ, ↓rInt, ↓rInt0, ↓rAddA, ↓rEqA, ↓rIsA, ↓rMax2A, ↓rMin2A, ↓rIntA, ↓rAbsA, bsel_true, bsel_false, wipeN, gNm, tYesA, ↓isNon, ↓isBlOf, ↓isI, ↓isB, ↓isS, ↓isT, ↓isL, Bool.or_false, Bool.or_true, Bool.false_or, Bool.true_or, ↓wList, ↓eLc, ↓rLenA, ↓sFor, ↓sWhile, ↓wRng1, ↓wRng2, ↓wTup, ↓wEnum, ↓eChain, ↓eListR1, ↓eLenSet, ↓eRev, ↓eInR, ↓eApp, ↓ePop, ↓eValue, ↓xDrop, ↓xRet, ↓xSet, ↓xCall, ↓xCallV, ↓sRaise, ↓eCallVL, ↓eLam3, startNF, Bool.not_true, Bool.not_false, Bool.false_eq_true, ↓reduceIte, Bool.not_not])
  refine ⟨_, rfl, _, _, rfl, atI_0, ?_⟩
  (try simp only [startN, List.map_cons, List.map_nil, List.length_cons, List.length_nil, Nat.reduceAdd, Nat.reduceSub, Nat.zero_add, Nat.sub_self, List.replicate_succ, List.replicate_zero, List.reduceReplicate, List.cons_append, List.nil_append, List.append_nil, ↓sRet, ↓sRetN, ↓sSeq, ↓sNil, ↓sIf, ↓sSet, ↓sPar, ↓sPar3, ↓sAsg, ↓sDrop, ↓sSetL, ↓eAnd, ↓eOr, ↓eNot, ↓eIf, ↓eNeg, ↓eCall, ↓eCallK, ↓eCallV, ↓lCons, ↓lNil, ↓eVar, ↓eC, ↓eTup, ↓eLst, ↓eLstC, ↓eOp, ↓eSl, ↓oNo, ↓oPart, ↓eBits, ↓tBool, ↓tAndA, ↓tOrA, ↓tNotA, ↓List.getElem?_cons_zero, ↓List.getElem?_cons_succ, ↓List.set_cons_zero, ↓List.set_cons_succ, ↓rInt, ↓rInt0, ↓rAddA, ↓rEqA, ↓rIsA, ↓rMax2A, ↓rMin2A, ↓rIntA, ↓rAbsA, bsel_true, bsel_false, wipeN, gNm, tYesA, ↓isNon, ↓isBlOf, ↓isI, ↓isB, ↓isS, ↓isT, ↓isL, Bool.or_false, Bool.or_true, Bool.false_or, Bool.true_or, ↓wList, ↓eLc, ↓rLenA, ↓sFor, ↓sWhile, ↓wRng1, ↓wRng2, ↓wTup, ↓wEnum, ↓eChain, ↓eListR1, ↓eLenSet, ↓eRev, ↓eInR, ↓eApp, ↓ePop, ↓eValue, ↓xDrop, ↓xRet, ↓xSet, ↓xCall, ↓xCallV, ↓sRaise, ↓eCallVL, ↓eLam3, startNF, Bool.not_true, Bool.not_false, Bool.false_eq_true, ↓reduceIte, Bool.not_not])
  simp only [cut_tail, cut_init]
  have hc : CPowX 10 9 := ⟨by decide, by decide +kernel⟩
  refine ⟨_, rfl, _, rfl, _, _, rfl, rfl, (by rw [PySem.sizeLine_eq]; simp only [List.length_cons, List.length_nil, List.length_drop, List.length_dropLast, List.length_map, List.length_append]; omega), _, rfl, _, rfl, _, _, rfl, rfl, (by rw [PySem.sizeLine_eq]; simp only [List.length_cons, List.length_nil, List.length_drop, List.length_dropLast, List.length_map, List.length_append]; omega), _, _, rfl, rfl, (by rw [PySem.sizeLine_eq]; simp only [List.length_cons, List.length_nil, List.length_drop, List.length_dropLast, List.length_map, List.length_append]; omega), _, rfl, _, _, rfl, rfl, (by rw [PySem.sizeLine_eq]; simp only [List.length_cons, List.length_nil, List.length_drop, List.length_dropLast, List.length_map, List.length_append]; omega), _, rfl, _, _, rfl, rfl, (by rw [PySem.sizeLine_eq]; simp only [List.length_cons, List.length_nil, List.length_drop, List.length_dropLast, List.length_map, List.length_append]; omega), _, rfl, _, _, rfl, rfl, (by rw [PySem.sizeLine_eq]; simp only [List.length_cons, List.length_nil, List.length_drop, List.length_dropLast, List.length_map, List.length_append]; omega), _, rfl, _, _, rfl, rfl, (by rw [PySem.sizeLine_eq]; simp only [List.length_cons, List.length_nil, List.length_drop, List.length_dropLast, List.length_map, List.length_append]; omega), _, rfl, _, _, rfl, rfl, (by rw [PySem.sizeLine_eq]; simp only [List.length_cons, List.length_nil, List.length_drop, List.length_dropLast, List.length_map, List.length_append]; omega), _, _, rfl, rfl, (by rw [PySem.sizeLine_eq]; simp only [List.length_cons, List.length_nil, List.length_drop, List.length_dropLast, List.length_map, List.length_append]; omega), _, rfl, _, _, rfl, rfl, (by rw [PySem.sizeLine_eq]; simp only [List.length_cons, List.length_nil, List.length_drop, List.length_dropLast, List.length_map, List.length_append]; omega), _, rfl, _, _, rfl, rfl, (by rw [PySem.sizeLine_eq]; simp only [List.length_cons, List.length_nil, List.length_drop, List.length_dropLast, List.length_map, List.length_append]; omega), ?_⟩
  simp only [List.drop_succ_cons, List.drop_zero]
  have g5 : ∀ x ∈ vs.map A.int, gd 5 x = true := gd_ints
  have grow : gd 6 (.lst (vs.map A.int)) = true := gd_lst_of g5 (by rw [List.length_map]; omega)
  have grs : ∀ r ∈ rs, gd 6 r = true := fun r h => by
    obtain ⟨us, rfl, hu⟩ := hr r h
    exact gd_lst_of gd_ints (by rw [List.length_map]; omega)
  have gall : ∀ r ∈ A.lst (vs.map A.int) :: rs, gd 6 r = true := fun r h => by
    rcases List.mem_cons.mp h with h | h
    · rw [h]
      exact grow
    · exact grs r h
  have gone : ∀ x, gd 6 x = true → gd 7 (.lst ([x] ++ rs)) = true := fun x hx => gd_cat (all_one hx) grs (by simp only [List.length_cons, List.length_nil]; omega)
  have wone : ∀ x, gd 5 x = true → wthA x = false → gd 7 (.lst ([A.lst ((vs.map A.int).dropLast ++ [x])] ++ rs)) = true ∧ sqW (.lst ([A.lst ((vs.map A.int).dropLast ++ [x])] ++ rs)) = false := fun x hx hw =>
    ⟨gone _ (gd_cat (all_init g5) (all_one hx) (by simp only [List.length_cons, List.length_nil, List.length_dropLast, List.length_map]; omega)), sq_bad (x := x) (by simp) hw⟩
  have p1 : (10 : Int) ^ (9 : Int).toNat = 1000000000 := by decide +kernel
  simp only [p1]
  refine ⟨_, rfl, hc, _, _, rfl, rfl, (by rw [PySem.sizeLine_eq]; simp only [List.length_cons, List.length_nil, List.length_drop, List.length_dropLast, List.length_map, List.length_append]; omega), _, rfl, _, _, rfl, rfl, (by rw [PySem.sizeLine_eq]; simp only [List.length_cons, List.length_nil, List.length_drop, List.length_dropLast, List.length_map, List.length_append]; omega), _, rfl, hc, _, _, rfl, rfl, (by rw [PySem.sizeLine_eq]; simp only [List.length_cons, List.length_nil, List.length_drop, List.length_dropLast, List.length_map, List.length_append]; omega), _, rfl, _, _, rfl, rfl, (by rw [PySem.sizeLine_eq]; simp only [List.length_cons, List.length_nil, List.length_drop, List.length_dropLast, List.length_map, List.length_append]; omega), _, rfl, by simp only [List.length_cons]; omega, fun i acc S' => S' = S ∧ acc.length = i ∧ ∀ y ∈ acc, ∃ us : List Int, y = .lst (us.map .int) ∧ us.length = vs.length + 1, ⟨rfl, rfl, fun _ h => by cases h⟩, fun _ _ _ _ _ => rfl, ?_, ?_⟩
  · rintro i x acc S' hx ⟨rfl, ha, hy⟩
    obtain ⟨us, rfl, hu⟩ : ∃ us : List Int, x = .lst (us.map .int) ∧ us.length = vs.length := by
      rcases List.mem_cons.mp (List.mem_of_getElem? hx) with h | h
      · exact ⟨vs, h, rfl⟩
      · exact hr x h
    refine ⟨_, _, rfl, rfl, (by rw [PySem.sizeLine_eq]; simp only [List.length_cons, List.length_nil, List.length_drop, List.length_dropLast, List.length_map, List.length_append]; omega), rfl, by rw [List.length_append, ha]; rfl, fun y h => ?_⟩
    rcases List.mem_append.mp h with h | h
    · exact hy y h
    · rw [List.mem_singleton] at h
      subst h
      exact ⟨us ++ [0], by rw [List.map_append]; rfl, by rw [List.length_append, hu]; rfl⟩
  · rintro acc S' ⟨rfl, ha, hy⟩
    rw [List.length_cons] at ha
    refine ⟨_, _, rfl, rfl, (by rw [PySem.sizeLine_eq]; simp only [List.length_cons, List.length_nil, List.length_drop, List.length_dropLast, List.length_map, List.length_append]; omega), _, _, rfl, rfl, (by rw [PySem.sizeLine_eq]; simp only [List.length_cons, List.length_nil, List.length_drop, List.length_dropLast, List.length_map, List.length_append]; omega), ⟨by decide, by decide⟩, by decide, fun i acc S'' => S'' = S' ∧ acc.length = i ∧ ∀ y ∈ acc, gd 6 y = true, ⟨rfl, rfl, fun _ h => by cases h⟩, fun _ _ _ _ _ => trivial, ?_, ?_⟩
    · rintro i x acc2 S'' hx ⟨rfl, ha2, hy2⟩
      refine ⟨[.int 0], rfl, by decide, by decide, by decide, rfl, by rw [List.length_append, ha2]; rfl, fun y h => ?_⟩
      rcases List.mem_append.mp h with h | h
      · exact hy2 y h
      · rw [List.mem_singleton] at h
        subst h
        decide +kernel
    · rintro acc2 S'' ⟨rfl, ha2, hy2⟩
      rw [rngA_len] at ha2
      refine ⟨_, _, rfl, rfl, by rw [PySem.sizeLine_eq]; simp, ?_⟩
      refine k _ (by simp) fun w hw => ?_
      simp only [List.mem_append, List.mem_cons, List.not_mem_nil, or_false] at hw
      rcases hw with (((rfl | rfl | rfl | rfl | rfl | rfl | rfl | rfl | rfl | rfl) | rfl | rfl) | rfl | rfl | rfl | rfl | rfl) | rfl
      · exact ⟨rfl, rfl⟩
      · exact ⟨rfl, rfl⟩
      · exact ⟨rfl, rfl⟩
      · exact ⟨by decide +kernel, rfl⟩
      · exact ⟨rfl, rfl⟩
      · exact ⟨rfl, rfl⟩
      · exact ⟨gd_tup_of gall (by rw [List.length_cons]; omega), rfl⟩
      · exact ⟨gone _ rfl, rfl⟩
      · exact ⟨gone _ (gd_tup_of g5 (by rw [List.length_map]; omega)), rfl⟩
      · exact ⟨gone _ (gd_cat g5 (all_one rfl) (by simp only [List.length_cons, List.length_nil, List.length_map]; omega)), sq_ne_len (r := vs.map A.int ++ [A.int 0]) (rs := rs) (by rw [List.length_append, List.length_map]; simp only [List.length_cons, List.length_nil]; omega)⟩
      · exact wone _ rfl rfl
      · exact wone _ rfl rfl
      · exact wone _ (by decide +kernel) rfl
      · exact wone _ rfl rfl
      · exact wone _ rfl rfl
      · refine ⟨gd_lst_of (fun y h => ?_) (by omega), ?_⟩
        · obtain ⟨us, rfl, hu⟩ := hy y h
          exact gd_lst_of gd_ints (by rw [List.length_map]; omega)
        · cases acc with
          | nil => simp at ha
          | cons y ys =>
            obtain ⟨us, rfl, hu⟩ := hy y List.mem_cons_self
            rw [List.length_cons] at ha
            exact sq_ne_len (by rw [List.length_map]; omega)
      · exact ⟨gd_cat gall (all_one grow) (by simp only [List.length_cons, List.length_nil]; omega), sq_ne_len (r := vs.map A.int) (rs := rs ++ [A.lst (vs.map A.int)]) (by rw [List.length_append, List.length_map]; simp only [List.length_cons, List.length_nil]; omega)⟩
      · exact ⟨gd_lst_of hy2 (by omega), sq_long (by rw [ha2]; decide)⟩
theorem deal_dl {m : Nat} {ds : List Int} (h : dealA m (.lst (ds.map .int)) = true) : Dl m ds := by
  obtain ⟨h1, h2⟩ := deal_bel h
  refine ⟨h1, h2, ?_⟩
  simp only [dealA, Bool.and_eq_true, intsA_map, decide_eq_true_eq] at h
  exact dist_nodup.mp (by rw [h.2, h1])
def sp_step : SpA := fun as S P => ∃ (ws : List A) (ds : List Int) (p q : Int), as = [.lst ws, .lst (ds.map .int), .int p, .int q] ∧ sqW (.lst ws) = true ∧ Dl ws.length ds ∧ (0 ≤ p ∧ p < (ws.length : Int)) ∧ (0 ≤ q ∧ q < (ws.length : Int)) ∧ P (.int (stepA (wAt ws) ds p q)) S
theorem len_step : ∀ as S P, sp_step as S P → as.length = 4 := by
  rintro as S P ⟨_, _, _, _, rfl, _⟩
  rfl
theorem w_at {ws : List A} {ds : List Int} (hs : sqW (.lst ws) = true) (d : Dl ws.length ds) {p q : Int} (hp : 0 ≤ p ∧ p < (ws.length : Int)) (hq : 0 ≤ q ∧ q < (ws.length : Int)) : ∃ r, atI ws p = some (.lst r) ∧ atI (ds.map A.int) q = some (.int (ds.getD q.toNat 0)) ∧ atI r (ds.getD q.toNat 0) = some (.int (wAt ws p.toNat (ds.getD q.toNat 0))) := by
  have b := d.at_ hq.1 hq.2
  obtain ⟨r, h1, h2⟩ := wAt_get hs (i := p.toNat) (j := ds.getD q.toNat 0) (by omega) b.1 b.2
  exact ⟨r, atI_pos hp.1 h1, atI_int hq.1 (by rw [d.len]; exact hq.2), h2⟩
/-! ### step_of -/
abbrev s_step_of : Stmt := topS 19
theorem sc_step_of : FnScope ["worths", "deal", "person", "other"] ["worths", "deal", "person", "other"] (defScope s_step_of) := ⟨rfl, rfl, rfl, by decide +kernel, rfl, by decide +kernel, by decide +kernel⟩
theorem bd_step_of (kV doc pm : Value) (an : Option Addr) (cdv ct : Value) (us : List Value) (hl : us.length = (["worths", "deal", "person", "other"] : List Str).length) : bindArgs (PySem.W.fnOf "step_of" "step_of" (defArgs s_step_of) (defBody s_step_of) (defScope s_step_of) .none kV doc pm an cdv ct) ⟨us, []⟩ = pure ((["worths", "deal", "person", "other"] : List Str).zip us) :=
  match us, hl with | [_, _, _, _], _ => rfl
--len len_step
theorem got_step_of {P : Program} {w : World} {K : PySem.W.Frag} {mg : Str → Option Value} {base : Heap} {f_step_of : Addr} (B : Bi mg) (D : Def K mg "step_of" s_step_of f_step_of) :
    Got P w K mg base (0 + 1) ["worths", "deal", "person", "other"] "step_of" s_step_of f_step_of sp_step := by
  refine got_of D sc_step_of (len_step) (bd_step_of) (fun cdv A0 outer s0_ H E hr => ⟨_, (sb_one (sa_ret (ea_op oa_sub (ea_ix (ea_ix (ea_var 0) (ea_var 2)) (ea_ix (ea_var 1) (ea_var 3))) (ea_ix (ea_ix (ea_var 0) (ea_var 2)) (ea_ix (ea_var 1) (ea_var 2)))))), fun as S P h => ?_⟩)
  obtain ⟨ws, ds, p, q, rfl, hs, d, hp, hq, k⟩ := h
  (try simp only [startN, List.map_cons, List.map_nil, List.length_cons, List.length_nil, Nat.reduceAdd, Nat.reduceSub, Nat.zero_add, Nat.sub_self, List.replicate_succ, List.replicate_zero, List.reduceReplicate, List.cons_append, List.nil_append, List.append_nil, ↓sRet, ↓sRetN, ↓sSeq, ↓sNil, ↓sIf, ↓sSet, ↓sPar, ↓sPar3, ↓sAsg, ↓sDrop, ↓sSetL, ↓eAnd, ↓eOr, ↓eNot, ↓eIf, ↓eNeg, ↓eCall, ↓eCallK, ↓eCallV, ↓lCons, ↓lNil, ↓eVar, ↓eC, ↓eTup, ↓eLst, ↓eLstC, ↓eOp, ↓eSl, ↓oNo, ↓oPart, ↓eBits, ↓tBool, ↓tAndA, ↓tOrA, ↓tNotA, ↓List.getElem?_cons_zero, ↓List.getElem?_cons_succ, ↓List.set_cons_zero, ↓List.set_cons_succ, ↓rInt, ↓rInt0, ↓rAddA, ↓rEqA, ↓rIsA, ↓rMax2A, ↓rMin2A, ↓rIntA, ↓rAbsA, bsel_true, bsel_false, wipeN, gNm, tYesA, ↓isNon, ↓isBlOf, ↓isI, ↓isB, ↓isS, ↓isT, ↓isL, Bool.or_false, Bool.or_true, Bool.false_or, Bool.true_or, ↓wList, ↓eLc, ↓rLenA, ↓sFor, ↓sWhile, ↓wRng1, ↓wRng2, ↓wTup, ↓wEnum, ↓eChain, ↓eListR1, ↓eLenSet, ↓eRev, ↓eInR, ↓eApp, ↓ePop, ↓eValue, ↓xDrop, ↓xRet, ↓xSet, ↓xCall, ↓xCallV, ↓sRaise, ↓eCallVL, ↓eLam3, startNF, Bool.not_true, Bool.not_false, Bool.false_eq_true, ↓reduceIte, Bool.not_not])
  obtain ⟨r, a1, a2, a3⟩ := w_at hs d hp hq
  obtain ⟨r', b1, b2, b3⟩ := w_at hs d hp hp
  exact ⟨ws, _, rfl, a1, _, _, rfl, a2, _, _, rfl, a3, ws, _, rfl, b1, _, _, rfl, b2, _, _, rfl, b3, k⟩
/-! ### _law_step -/
abbrev s__law_step : Stmt := topS 44
theorem sc__law_step : FnScope ["worths", "deal", "person", "other"] ["worths", "deal", "person", "other"] (defScope s__law_step) := ⟨rfl, rfl, rfl, by decide +kernel, rfl, by decide +kernel, by decide +kernel⟩
theorem bd__law_step (kV doc pm : Value) (an : Option Addr) (cdv ct : Value) (us : List Value) (hl : us.length = (["worths", "deal", "person", "other"] : List Str).length) : bindArgs (PySem.W.fnOf "_law_step" "_law_step" (defArgs s__law_step) (defBody s__law_step) (defScope s__law_step) .none kV doc pm an cdv ct) ⟨us, []⟩ = pure ((["worths", "deal", "person", "other"] : List Str).zip us) :=
  match us, hl with | [_, _, _, _], _ => rfl
--len len_step
theorem got__law_step {P : Program} {w : World} {K : PySem.W.Frag} {mg : Str → Option Value} {base : Heap} {f__law_step : Addr} (B : Bi mg) (D : Def K mg "_law_step" s__law_step f__law_step) :
    Got P w K mg base (0 + 1) ["worths", "deal", "person", "other"] "_law_step" s__law_step f__law_step sp_step := by
  refine got_of D sc__law_step (len_step) (bd__law_step) (fun cdv A0 outer s0_ H E hr => ⟨_, (sb_one (sa_ret (ea_op oa_sub (ea_ix (ea_ix (ea_var 0) (ea_var 2)) (ea_ix (ea_var 1) (ea_var 3))) (ea_ix (ea_ix (ea_var 0) (ea_var 2)) (ea_ix (ea_var 1) (ea_var 2)))))), fun as S P h => ?_⟩)
  obtain ⟨ws, ds, p, q, rfl, hs, d, hp, hq, k⟩ := h
  (try simp only [startN, List.map_cons, List.map_nil, List.length_cons, List.length_nil, Nat.reduceAdd, Nat.reduceSub, Nat.zero_add, Nat.sub_self, List.replicate_succ, List.replicate_zero, List.reduceReplicate, List.cons_append, List.nil_append, List.append_nil, ↓sRet, ↓sRetN, ↓sSeq, ↓sNil, ↓sIf, ↓sSet, ↓sPar, ↓sPar3, ↓sAsg, ↓sDrop, ↓sSetL, ↓eAnd, ↓eOr, ↓eNot, ↓eIf, ↓eNeg, ↓eCall, ↓eCallK, ↓eCallV, ↓lCons, ↓lNil, ↓eVar, ↓eC, ↓eTup, ↓eLst, ↓eLstC, ↓eOp, ↓eSl, ↓oNo, ↓oPart, ↓eBits, ↓tBool, ↓tAndA, ↓tOrA, ↓tNotA, ↓List.getElem?_cons_zero, ↓List.getElem?_cons_succ, ↓List.set_cons_zero, ↓List.set_cons_succ, ↓rInt, ↓rInt0, ↓rAddA, ↓rEqA, ↓rIsA, ↓rMax2A, ↓rMin2A, ↓rIntA, ↓rAbsA, bsel_true, bsel_false, wipeN, gNm, tYesA, ↓isNon, ↓isBlOf, ↓isI, ↓isB, ↓isS, ↓isT, ↓isL, Bool.or_false, Bool.or_true, Bool.false_or, Bool.true_or, ↓wList, ↓eLc, ↓rLenA, ↓sFor, ↓sWhile, ↓wRng1, ↓wRng2, ↓wTup, ↓wEnum, ↓eChain, ↓eListR1, ↓eLenSet, ↓eRev, ↓eInR, ↓eApp, ↓ePop, ↓eValue, ↓xDrop, ↓xRet, ↓xSet, ↓xCall, ↓xCallV, ↓sRaise, ↓eCallVL, ↓eLam3, startNF, Bool.not_true, Bool.not_false, Bool.false_eq_true, ↓reduceIte, Bool.not_not])
  obtain ⟨r, a1, a2, a3⟩ := w_at hs d hp hq
  obtain ⟨r', b1, b2, b3⟩ := w_at hs d hp hp
  exact ⟨ws, _, rfl, a1, _, _, rfl, a2, _, _, rfl, a3, ws, _, rfl, b1, _, _, rfl, b2, _, _, rfl, b3, k⟩
def sp_rsum : SpA := fun as S P => ∃ (ws : List A) (ds rs : List Int), as = [.lst ws, .lst (ds.map .int), .lst (rs.map .int)] ∧ sqW (.lst ws) = true ∧ Dl ws.length ds ∧ (∀ x ∈ rs, 0 ≤ x ∧ x < (ws.length : Int)) ∧ rs.length ≤ 1000 ∧ P (.int (ringGain (wAt ws) ds rs)) S
theorem len_rsum : ∀ as S P, sp_rsum as S P → as.length = 3 := by
  rintro as S P ⟨_, _, _, rfl, _⟩
  rfl
/-! ### ring_sum -/
abbrev s_ring_sum : Stmt := topS 20
theorem sc_ring_sum : FnScope ["worths", "deal", "ring", "at"] ["worths", "deal", "ring"] (defScope s_ring_sum) := ⟨rfl, rfl, rfl, by decide +kernel, rfl, by decide +kernel, by decide +kernel⟩
theorem bd_ring_sum (kV doc pm : Value) (an : Option Addr) (cdv ct : Value) (us : List Value) (hl : us.length = (["worths", "deal", "ring"] : List Str).length) : bindArgs (PySem.W.fnOf "ring_sum" "ring_sum" (defArgs s_ring_sum) (defBody s_ring_sum) (defScope s_ring_sum) .none kV doc pm an cdv ct) ⟨us, []⟩ = pure ((["worths", "deal", "ring"] : List Str).zip us) :=
  match us, hl with | [_, _, _], _ => rfl
--len len_rsum
theorem got_ring_sum {P : Program} {w : World} {K : PySem.W.Frag} {mg : Str → Option Value} {base : Heap} {f_ring_sum f_step_of : Addr} (B : Bi mg) (D : Def K mg "ring_sum" s_ring_sum f_ring_sum) (G_step_of : Got P w K mg base 1 ["worths", "deal", "person", "other"] "step_of" s_step_of f_step_of sp_step) :
    Got P w K mg base (1 + 1) ["worths", "deal", "ring"] "ring_sum" s_ring_sum f_ring_sum sp_rsum := by
  refine got_of D sc_ring_sum (len_rsum) (bd_ring_sum) (fun cdv A0 outer s0_ H E hr => ⟨_, (sb_one (sa_ret (ea_callB cx_sum B.sum_ (la_cons (ea_lc [("at", 3)] sc_ring_sum.nd (ia_rng1 B.range_ (la_cons (ea_callB cx_len B.len_ (la_cons (ea_var 2) la_nil)) la_nil)) (by kernel_rfl) (fun _ _ _ _ _ => (ga_name 3 sc_ring_sum.nd)) (fun _ _ _ _ _ => tsa_nil) (fun _ _ _ _ _ => (ea_call G_step_of (hr.mono (by omega)) (la_cons (ea_var 0) (la_cons (ea_var 1) (la_cons (ea_ix (ea_var 2) (ea_op oa_sub (ea_var 3) ea_int)) (la_cons (ea_ix (ea_var 2) (ea_var 3)) la_nil))))))) la_nil)))), fun as S P h => ?_⟩)
  obtain ⟨ws, ds, rs, rfl, hs, d, hr, hl, k⟩ := h
  (try simp only [startN, List.map_cons, List.map_nil, List.length_cons, List.length_nil, Nat.reduceAdd, Nat.reduceSub, Nat.zero_add, Nat.sub_self, List.replicate_succ, List.replicate_zero, List.reduceReplicate, List.cons_append, List.nil_append, List.append_nil, ↓sRet, ↓sRetN, ↓sSeq, ↓sNil, ↓sIf, ↓sSet, ↓sPar, ↓sPar3, ↓sAsg, ↓sDrop, ↓sSetL, ↓eAnd, ↓eOr, ↓eNot, ↓eIf, ↓eNeg, ↓eCall, ↓eCallK, ↓eCallV, ↓lCons, ↓lNil, ↓eVar, ↓eC, ↓eTup, ↓eLst, ↓eLstC, ↓eOp, ↓eSl, ↓oNo, ↓oPart, ↓eBits, ↓tBool, ↓tAndA, ↓tOrA, ↓tNotA, ↓List.getElem?_cons_zero, ↓List.getElem?_cons_succ, ↓List.set_cons_zero, ↓List.set_cons_succ, ↓rInt, ↓rInt0, ↓rAddA, ↓rEqA, ↓rIsA, ↓rMax2A, ↓rMin2A, ↓rIntA, ↓rAbsA, bsel_true, bsel_false, wipeN, gNm, tYesA, ↓isNon, ↓isBlOf, ↓isI, ↓isB, ↓isS, ↓isT, ↓isL, Bool.or_false, Bool.or_true, Bool.false_or, Bool.true_or, ↓wList, ↓eLc, ↓rLenA, ↓sFor, ↓sWhile, ↓wRng1, ↓wRng2, ↓wTup, ↓wEnum, ↓eChain, ↓eListR1, ↓eLenSet, ↓eRev, ↓eInR, ↓eApp, ↓ePop, ↓eValue, ↓xDrop, ↓xRet, ↓xSet, ↓xCall, ↓xCallV, ↓sRaise, ↓eCallVL, ↓eLam3, startNF, Bool.not_true, Bool.not_false, Bool.false_eq_true, ↓reduceIte, Bool.not_not])
  refine ⟨_, rfl, ?_⟩
  simp only [List.length_map, Int.toNat_natCast]
  refine ⟨⟨by omega, by omega⟩, by rw [rngA_len]; omega, fun i acc S' => S' = S ∧ i ≤ rs.length ∧ acc = ((List.range i).map fun i => stepA (wAt ws) ds (prv rs i) (rs.getD i 0)).map .int, ⟨rfl, Nat.zero_le _, rfl⟩, fun _ _ _ _ _ => trivial, ?_, ?_⟩
  · rintro i x acc S' hx ⟨rfl, hi, rfl⟩
    obtain ⟨hi2, rfl⟩ := rngA_at hx
    (try simp only [startN, List.map_cons, List.map_nil, List.length_cons, List.length_nil, Nat.reduceAdd, Nat.reduceSub, Nat.zero_add, Nat.sub_self, List.replicate_succ, List.replicate_zero, List.reduceReplicate, List.cons_append, List.nil_append, List.append_nil, ↓sRet, ↓sRetN, ↓sSeq, ↓sNil, ↓sIf, ↓sSet, ↓sPar, ↓sPar3, ↓sAsg, ↓sDrop, ↓sSetL, ↓eAnd, ↓eOr, ↓eNot, ↓eIf, ↓eNeg, ↓eCall, ↓eCallK, ↓eCallV, ↓lCons, ↓lNil, ↓eVar, ↓eC, ↓eTup, ↓eLst, ↓eLstC, ↓eOp, ↓eSl, ↓oNo, ↓oPart, ↓eBits, ↓tBool, ↓tAndA, ↓tOrA, ↓tNotA, ↓List.getElem?_cons_zero, ↓List.getElem?_cons_succ, ↓List.set_cons_zero, ↓List.set_cons_succ, ↓rInt, ↓rInt0, ↓rAddA, ↓rEqA, ↓rIsA, ↓rMax2A, ↓rMin2A, ↓rIntA, ↓rAbsA, bsel_true, bsel_false, wipeN, gNm, tYesA, ↓isNon, ↓isBlOf, ↓isI, ↓isB, ↓isS, ↓isT, ↓isL, Bool.or_false, Bool.or_true, Bool.false_or, Bool.true_or, ↓wList, ↓eLc, ↓rLenA, ↓sFor, ↓sWhile, ↓wRng1, ↓wRng2, ↓wTup, ↓wEnum, ↓eChain, ↓eListR1, ↓eLenSet, ↓eRev, ↓eInR, ↓eApp, ↓ePop, ↓eValue, ↓xDrop, ↓xRet, ↓xSet, ↓xCall, ↓xCallV, ↓sRaise, ↓eCallVL, ↓eLam3, startNF, Bool.not_true, Bool.not_false, Bool.false_eq_true, ↓reduceIte, Bool.not_not])
    rw [Int.zero_add]
    refine ⟨_, _, rfl, atI_prv hi2, _, _, rfl, atI_int (by omega) (by omega), ws, ds, _, _, rfl, hs, d, hr _ (prv_mem hi2), hr _ (Lay.getD_mem (by omega)), rfl, hi2, ?_⟩
    rw [List.range_succ, List.map_append, List.map_append]
    rfl
  · rintro acc S' ⟨rfl, hi, rfl⟩
    rw [rngA_len]
    exact ⟨_, rfl, k⟩
/-! ### _law_ring_gain -/
abbrev s__law_ring_gain : Stmt := topS 45
theorem sc__law_ring_gain : FnScope ["worths", "deal", "ring", "at"] ["worths", "deal", "ring"] (defScope s__law_ring_gain) := ⟨rfl, rfl, rfl, by decide +kernel, rfl, by decide +kernel, by decide +kernel⟩
theorem bd__law_ring_gain (kV doc pm : Value) (an : Option Addr) (cdv ct : Value) (us : List Value) (hl : us.length = (["worths", "deal", "ring"] : List Str).length) : bindArgs (PySem.W.fnOf "_law_ring_gain" "_law_ring_gain" (defArgs s__law_ring_gain) (defBody s__law_ring_gain) (defScope s__law_ring_gain) .none kV doc pm an cdv ct) ⟨us, []⟩ = pure ((["worths", "deal", "ring"] : List Str).zip us) :=
  match us, hl with | [_, _, _], _ => rfl
--len len_rsum
theorem got__law_ring_gain {P : Program} {w : World} {K : PySem.W.Frag} {mg : Str → Option Value} {base : Heap} {f__law_ring_gain f__law_step : Addr} (B : Bi mg) (D : Def K mg "_law_ring_gain" s__law_ring_gain f__law_ring_gain) (G__law_step : Got P w K mg base 1 ["worths", "deal", "person", "other"] "_law_step" s__law_step f__law_step sp_step) :
    Got P w K mg base (1 + 1) ["worths", "deal", "ring"] "_law_ring_gain" s__law_ring_gain f__law_ring_gain sp_rsum := by
  refine got_of D sc__law_ring_gain (len_rsum) (bd__law_ring_gain) (fun cdv A0 outer s0_ H E hr => ⟨_, (sb_one (sa_ret (ea_callB cx_sum B.sum_ (la_cons (ea_lc [("at", 3)] sc__law_ring_gain.nd (ia_rng1 B.range_ (la_cons (ea_callB cx_len B.len_ (la_cons (ea_var 2) la_nil)) la_nil)) (by kernel_rfl) (fun _ _ _ _ _ => (ga_name 3 sc__law_ring_gain.nd)) (fun _ _ _ _ _ => tsa_nil) (fun _ _ _ _ _ => (ea_call G__law_step (hr.mono (by omega)) (la_cons (ea_var 0) (la_cons (ea_var 1) (la_cons (ea_ix (ea_var 2) (ea_op oa_sub (ea_var 3) ea_int)) (la_cons (ea_ix (ea_var 2) (ea_var 3)) la_nil))))))) la_nil)))), fun as S P h => ?_⟩)
  obtain ⟨ws, ds, rs, rfl, hs, d, hr, hl, k⟩ := h
  (try simp only [startN, List.map_cons, List.map_nil, List.length_cons, List.length_nil, Nat.reduceAdd, Nat.reduceSub, Nat.zero_add, Nat.sub_self, List.replicate_succ, List.replicate_zero, List.reduceReplicate, List.cons_append, List.nil_append, List.append_nil, ↓sRet, ↓sRetN, ↓sSeq, ↓sNil, ↓sIf, ↓sSet, ↓sPar, ↓sPar3, ↓sAsg, ↓sDrop, ↓sSetL, ↓eAnd, ↓eOr, ↓eNot, ↓eIf, ↓eNeg, ↓eCall, ↓eCallK, ↓eCallV, ↓lCons, ↓lNil, ↓eVar, ↓eC, ↓eTup, ↓eLst, ↓eLstC, ↓eOp, ↓eSl, ↓oNo, ↓oPart, ↓eBits, ↓tBool, ↓tAndA, ↓tOrA, ↓tNotA, ↓List.getElem?_cons_zero, ↓List.getElem?_cons_succ, ↓List.set_cons_zero, ↓List.set_cons_succ, ↓rInt, ↓rInt0, ↓rAddA, ↓rEqA, ↓rIsA, ↓rMax2A, ↓rMin2A, ↓rIntA, ↓rAbsA, bsel_true, bsel_false, wipeN, gNm, tYesA, ↓isNon, ↓isBlOf, ↓isI, ↓isB, ↓isS, ↓isT, ↓isL, Bool.or_false, Bool.or_true, Bool.false_or, Bool.true_or, ↓wList, ↓eLc, ↓rLenA, ↓sFor, ↓sWhile, ↓wRng1, ↓wRng2, ↓wTup, ↓wEnum, ↓eChain, ↓eListR1, ↓eLenSet, ↓eRev, ↓eInR, ↓eApp, ↓ePop, ↓eValue, ↓xDrop, ↓xRet, ↓xSet, ↓xCall, ↓xCallV, ↓sRaise, ↓eCallVL, ↓eLam3, startNF, Bool.not_true, Bool.not_false, Bool.false_eq_true, ↓reduceIte, Bool.not_not])
  refine ⟨_, rfl, ?_⟩
  simp only [List.length_map, Int.toNat_natCast]
  refine ⟨⟨by omega, by omega⟩, by rw [rngA_len]; omega, fun i acc S' => S' = S ∧ i ≤ rs.length ∧ acc = ((List.range i).map fun i => stepA (wAt ws) ds (prv rs i) (rs.getD i 0)).map .int, ⟨rfl, Nat.zero_le _, rfl⟩, fun _ _ _ _ _ => trivial, ?_, ?_⟩
  · rintro i x acc S' hx ⟨rfl, hi, rfl⟩
    obtain ⟨hi2, rfl⟩ := rngA_at hx
    (try simp only [startN, List.map_cons, List.map_nil, List.length_cons, List.length_nil, Nat.reduceAdd, Nat.reduceSub, Nat.zero_add, Nat.sub_self, List.replicate_succ, List.replicate_zero, List.reduceReplicate, List.cons_append, List.nil_append, List.append_nil, ↓sRet, ↓sRetN, ↓sSeq, ↓sNil, ↓sIf, ↓sSet, ↓sPar, ↓sPar3, ↓sAsg, ↓sDrop, ↓sSetL, ↓eAnd, ↓eOr, ↓eNot, ↓eIf, ↓eNeg, ↓eCall, ↓eCallK, ↓eCallV, ↓lCons, ↓lNil, ↓eVar, ↓eC, ↓eTup, ↓eLst, ↓eLstC, ↓eOp, ↓eSl, ↓oNo, ↓oPart, ↓eBits, ↓tBool, ↓tAndA, ↓tOrA, ↓tNotA, ↓List.getElem?_cons_zero, ↓List.getElem?_cons_succ, ↓List.set_cons_zero, ↓List.set_cons_succ, ↓rInt, ↓rInt0, ↓rAddA, ↓rEqA, ↓rIsA, ↓rMax2A, ↓rMin2A, ↓rIntA, ↓rAbsA, bsel_true, bsel_false, wipeN, gNm, tYesA, ↓isNon, ↓isBlOf, ↓isI, ↓isB, ↓isS, ↓isT, ↓isL, Bool.or_false, Bool.or_true, Bool.false_or, Bool.true_or, ↓wList, ↓eLc, ↓rLenA, ↓sFor, ↓sWhile, ↓wRng1, ↓wRng2, ↓wTup, ↓wEnum, ↓eChain, ↓eListR1, ↓eLenSet, ↓eRev, ↓eInR, ↓eApp, ↓ePop, ↓eValue, ↓xDrop, ↓xRet, ↓xSet, ↓xCall, ↓xCallV, ↓sRaise, ↓eCallVL, ↓eLam3, startNF, Bool.not_true, Bool.not_false, Bool.false_eq_true, ↓reduceIte, Bool.not_not])
    rw [Int.zero_add]
    refine ⟨_, _, rfl, atI_prv hi2, _, _, rfl, atI_int (by omega) (by omega), ws, ds, _, _, rfl, hs, d, hr _ (prv_mem hi2), hr _ (Lay.getD_mem (by omega)), rfl, hi2, ?_⟩
    rw [List.range_succ, List.map_append, List.map_append]
    rfl
  · rintro acc S' ⟨rfl, hi, rfl⟩
    rw [rngA_len]
    exact ⟨_, rfl, k⟩
def ringA (m : Nat) : A → Bool
  | .lst xs => decide (2 ≤ xs.length) && xs.all (belA m) && (match intsA xs with
    | some ns => decide (dist ns = ns.length)
    | none => false)
  | _ => false
def sp_isr : SpA := fun as S P => ∃ x, ∃ m : Nat, as = [.int (m : Int), x] ∧ gd 6 x = true ∧ (∀ xs, x = .lst xs → xs.length ≤ 1000) ∧ P (.bl (ringA m x)) S
theorem len_isr : ∀ as S P, sp_isr as S P → as.length = 2 := by
  rintro as S P ⟨x, m, rfl, _⟩
  rfl
/-! ### is_ring_of -/
abbrev s_is_ring_of : Stmt := topS 22
theorem sc_is_ring_of : FnScope ["size", "value", "person"] ["size", "value"] (defScope s_is_ring_of) := ⟨rfl, rfl, rfl, by decide +kernel, rfl, by decide +kernel, by decide +kernel⟩
theorem bd_is_ring_of (kV doc pm : Value) (an : Option Addr) (cdv ct : Value) (us : List Value) (hl : us.length = (["size", "value"] : List Str).length) : bindArgs (PySem.W.fnOf "is_ring_of" "is_ring_of" (defArgs s_is_ring_of) (defBody s_is_ring_of) (defScope s_is_ring_of) .none kV doc pm an cdv ct) ⟨us, []⟩ = pure ((["size", "value"] : List Str).zip us) :=
  match us, hl with | [_, _], _ => rfl
--len len_isr
theorem got_is_ring_of {P : Program} {w : World} {K : PySem.W.Frag} {mg : Str → Option Value} {base : Heap} {f_is_below f_is_ring_of : Addr} (B : Bi mg) (D : Def K mg "is_ring_of" s_is_ring_of f_is_ring_of) (G_is_below : Got P w K mg base 3 ["value", "bound"] "is_below" s_is_below f_is_below sp_is_below) :
    Got P w K mg base (3 + 1) ["size", "value"] "is_ring_of" s_is_ring_of f_is_ring_of sp_isr := by
  refine got_of D sc_is_ring_of (len_isr) (bd_is_ring_of) (fun cdv A0 outer s0_ H E hr => ⟨_, (sb_cons (sa_if (tt_w (tw_or (tt_not (tt_val (ea_callB cx_isi B.isinstance_ (la_cons (ea_var 1) (la_cons (ea_ty "list" B.list_) la_nil))))) (tw_or1 (tt_cmp oa_lt (ea_callB cx_len B.len_ (la_cons (ea_var 1) la_nil)) ea_int)))) (sb_one (sa_ret ea_bl)) sb_nil)
      (sb_cons (sa_if (tt_cmp (oa_ne hr.units) (ea_lc [("person", 2)] sc_is_ring_of.nd (ia_list (ea_var 1)) (by kernel_rfl) (fun _ _ _ _ _ => (ga_name 2 sc_is_ring_of.nd)) (fun _ _ _ _ _ => (tsa_one (tt_not (tt_val (ea_call G_is_below (hr.mono (by omega)) (la_cons (ea_var 2) (la_cons (ea_var 0) la_nil))))))) (fun _ _ _ _ _ => (ea_var 2))) (ea_lst la_nil)) (sb_one (sa_ret ea_bl)) sb_nil)
      (sb_one (sa_ret (ea_cmp (oa_eq hr.units) (ea_lenSet B.len_ B.set_ (ea_var 1)) (ea_callB cx_len B.len_ (la_cons (ea_var 1) la_nil))))))), fun as S P h => ?_⟩)
  obtain ⟨x, m, rfl, hk, hz, k⟩ := h
  (try simp only [startN, List.map_cons, List.map_nil, List.length_cons, List.length_nil, Nat.reduceAdd, Nat.reduceSub, Nat.zero_add, Nat.sub_self, List.replicate_succ, List.replicate_zero, List.reduceReplicate, List.cons_append, List.nil_append, List.append_nil, ↓sRet, ↓sRetN, ↓sSeq, ↓sNil, ↓sIf, ↓sSet, ↓sPar, ↓sPar3, ↓sAsg, ↓sDrop, ↓sSetL, ↓eAnd, ↓eOr, ↓eNot, ↓eIf, ↓eNeg, ↓eCall, ↓eCallK, ↓eCallV, ↓lCons, ↓lNil, ↓eVar, ↓eC, ↓eTup, ↓eLst, ↓eLstC, ↓eOp, ↓eSl, ↓oNo, ↓oPart, ↓eBits, ↓tBool, ↓tAndA, ↓tOrA, ↓tNotA, ↓List.getElem?_cons_zero, ↓List.getElem?_cons_succ, ↓List.set_cons_zero, ↓List.set_cons_succ, ↓rInt, ↓rInt0, ↓rAddA, ↓rEqA, ↓rIsA, ↓rMax2A, ↓rMin2A, ↓rIntA, ↓rAbsA, bsel_true, bsel_false, wipeN, gNm, tYesA, ↓isNon, ↓isBlOf, ↓isI, ↓isB, ↓isS, ↓isT, ↓isL, Bool.or_false, Bool.or_true, Bool.false_or, Bool.true_or, ↓wList, ↓eLc, ↓rLenA, ↓sFor, ↓sWhile, ↓wRng1, ↓wRng2, ↓wTup, ↓wEnum, ↓eChain, ↓eListR1, ↓eLenSet, ↓eRev, ↓eInR, ↓eApp, ↓ePop, ↓eValue, ↓xDrop, ↓xRet, ↓xSet, ↓xCall, ↓xCallV, ↓sRaise, ↓eCallVL, ↓eLam3, startNF, Bool.not_true, Bool.not_false, Bool.false_eq_true, ↓reduceIte, Bool.not_not])
  refine isi_list (gd_kn hk) ?_
  cases x with
  | ref _ => exact absurd (gd_nr hk) (by unfold nr; decide)
  | ty _ => exact absurd (gd_nr hk) (by unfold nr; decide)
  | lst xs =>
    obtain ⟨hg, hl⟩ := gd_lst hk
    have hz := hz xs rfl
    simp only [ringA] at k
    (try simp only [startN, List.map_cons, List.map_nil, List.length_cons, List.length_nil, Nat.reduceAdd, Nat.reduceSub, Nat.zero_add, Nat.sub_self, List.replicate_succ, List.replicate_zero, List.reduceReplicate, List.cons_append, List.nil_append, List.append_nil, ↓sRet, ↓sRetN, ↓sSeq, ↓sNil, ↓sIf, ↓sSet, ↓sPar, ↓sPar3, ↓sAsg, ↓sDrop, ↓sSetL, ↓eAnd, ↓eOr, ↓eNot, ↓eIf, ↓eNeg, ↓eCall, ↓eCallK, ↓eCallV, ↓lCons, ↓lNil, ↓eVar, ↓eC, ↓eTup, ↓eLst, ↓eLstC, ↓eOp, ↓eSl, ↓oNo, ↓oPart, ↓eBits, ↓tBool, ↓tAndA, ↓tOrA, ↓tNotA, ↓List.getElem?_cons_zero, ↓List.getElem?_cons_succ, ↓List.set_cons_zero, ↓List.set_cons_succ, ↓rInt, ↓rInt0, ↓rAddA, ↓rEqA, ↓rIsA, ↓rMax2A, ↓rMin2A, ↓rIntA, ↓rAbsA, bsel_true, bsel_false, wipeN, gNm, tYesA, ↓isNon, ↓isBlOf, ↓isI, ↓isB, ↓isS, ↓isT, ↓isL, Bool.or_false, Bool.or_true, Bool.false_or, Bool.true_or, ↓wList, ↓eLc, ↓rLenA, ↓sFor, ↓sWhile, ↓wRng1, ↓wRng2, ↓wTup, ↓wEnum, ↓eChain, ↓eListR1, ↓eLenSet, ↓eRev, ↓eInR, ↓eApp, ↓ePop, ↓eValue, ↓xDrop, ↓xRet, ↓xSet, ↓xCall, ↓xCallV, ↓sRaise, ↓eCallVL, ↓eLam3, startNF, Bool.not_true, Bool.not_false, Bool.false_eq_true, ↓reduceIte, Bool.not_not])
    refine ⟨xs, rfl, ?_⟩
    refine bsel_i (fun h1 => ?_) fun h1 => ?_
    · have n2 : ¬ 2 ≤ xs.length := by
        have := of_decide_eq_true h1
        omega
      rw [decide_eq_false n2, Bool.false_and, Bool.false_and] at k
      exact k
    · have n2 : 2 ≤ xs.length := by
        have := of_decide_eq_false h1
        omega
      rw [decide_eq_true n2, Bool.true_and] at k
      refine ⟨xs, rfl, hl, fun i acc S' => S' = S ∧ acc = (xs.take i).filter fun x => !belA m x, ⟨rfl, rfl⟩, fun _ _ _ _ h => by obtain ⟨rfl, _⟩ := h; rfl, ?_, ?_⟩
      · rintro i x acc S' hx ⟨rfl, rfl⟩
        (try simp only [startN, List.map_cons, List.map_nil, List.length_cons, List.length_nil, Nat.reduceAdd, Nat.reduceSub, Nat.zero_add, Nat.sub_self, List.replicate_succ, List.replicate_zero, List.reduceReplicate, List.cons_append, List.nil_append, List.append_nil, ↓sRet, ↓sRetN, ↓sSeq, ↓sNil, ↓sIf, ↓sSet, ↓sPar, ↓sPar3, ↓sAsg, ↓sDrop, ↓sSetL, ↓eAnd, ↓eOr, ↓eNot, ↓eIf, ↓eNeg, ↓eCall, ↓eCallK, ↓eCallV, ↓lCons, ↓lNil, ↓eVar, ↓eC, ↓eTup, ↓eLst, ↓eLstC, ↓eOp, ↓eSl, ↓oNo, ↓oPart, ↓eBits, ↓tBool, ↓tAndA, ↓tOrA, ↓tNotA, ↓List.getElem?_cons_zero, ↓List.getElem?_cons_succ, ↓List.set_cons_zero, ↓List.set_cons_succ, ↓rInt, ↓rInt0, ↓rAddA, ↓rEqA, ↓rIsA, ↓rMax2A, ↓rMin2A, ↓rIntA, ↓rAbsA, bsel_true, bsel_false, wipeN, gNm, tYesA, ↓isNon, ↓isBlOf, ↓isI, ↓isB, ↓isS, ↓isT, ↓isL, Bool.or_false, Bool.or_true, Bool.false_or, Bool.true_or, ↓wList, ↓eLc, ↓rLenA, ↓sFor, ↓sWhile, ↓wRng1, ↓wRng2, ↓wTup, ↓wEnum, ↓eChain, ↓eListR1, ↓eLenSet, ↓eRev, ↓eInR, ↓eApp, ↓ePop, ↓eValue, ↓xDrop, ↓xRet, ↓xSet, ↓xCall, ↓xCallV, ↓sRaise, ↓eCallVL, ↓eLam3, startNF, Bool.not_true, Bool.not_false, Bool.false_eq_true, ↓reduceIte, Bool.not_not])
        rw [filt_succ hx]
        refine ⟨x, m, rfl, gd_kn (gds_get hg hx), ?_⟩
        cases belA m x <;> (try simp only [startN, List.map_cons, List.map_nil, List.length_cons, List.length_nil, Nat.reduceAdd, Nat.reduceSub, Nat.zero_add, Nat.sub_self, List.replicate_succ, List.replicate_zero, List.reduceReplicate, List.cons_append, List.nil_append, List.append_nil, ↓sRet, ↓sRetN, ↓sSeq, ↓sNil, ↓sIf, ↓sSet, ↓sPar, ↓sPar3, ↓sAsg, ↓sDrop, ↓sSetL, ↓eAnd, ↓eOr, ↓eNot, ↓eIf, ↓eNeg, ↓eCall, ↓eCallK, ↓eCallV, ↓lCons, ↓lNil, ↓eVar, ↓eC, ↓eTup, ↓eLst, ↓eLstC, ↓eOp, ↓eSl, ↓oNo, ↓oPart, ↓eBits, ↓tBool, ↓tAndA, ↓tOrA, ↓tNotA, ↓List.getElem?_cons_zero, ↓List.getElem?_cons_succ, ↓List.set_cons_zero, ↓List.set_cons_succ, ↓rInt, ↓rInt0, ↓rAddA, ↓rEqA, ↓rIsA, ↓rMax2A, ↓rMin2A, ↓rIntA, ↓rAbsA, bsel_true, bsel_false, wipeN, gNm, tYesA, ↓isNon, ↓isBlOf, ↓isI, ↓isB, ↓isS, ↓isT, ↓isL, Bool.or_false, Bool.or_true, Bool.false_or, Bool.true_or, ↓wList, ↓eLc, ↓rLenA, ↓sFor, ↓sWhile, ↓wRng1, ↓wRng2, ↓wTup, ↓wEnum, ↓eChain, ↓eListR1, ↓eLenSet, ↓eRev, ↓eInR, ↓eApp, ↓ePop, ↓eValue, ↓xDrop, ↓xRet, ↓xSet, ↓xCall, ↓xCallV, ↓sRaise, ↓eCallVL, ↓eLam3, startNF, Bool.not_true, Bool.not_false, Bool.false_eq_true, ↓reduceIte, Bool.not_not]) <;> (first | exact ⟨trivial, rfl⟩ | exact ⟨trivial, trivial⟩ | exact ⟨rfl, rfl⟩)
      · rintro acc S' ⟨rfl, rfl⟩
        rw [List.take_length]
        refine rEqD_gd (gds_filt hg) (by decide) ?_
        rw [filt_emp]
        simp only [Bool.not_not]
        (try simp only [startN, List.map_cons, List.map_nil, List.length_cons, List.length_nil, Nat.reduceAdd, Nat.reduceSub, Nat.zero_add, Nat.sub_self, List.replicate_succ, List.replicate_zero, List.reduceReplicate, List.cons_append, List.nil_append, List.append_nil, ↓sRet, ↓sRetN, ↓sSeq, ↓sNil, ↓sIf, ↓sSet, ↓sPar, ↓sPar3, ↓sAsg, ↓sDrop, ↓sSetL, ↓eAnd, ↓eOr, ↓eNot, ↓eIf, ↓eNeg, ↓eCall, ↓eCallK, ↓eCallV, ↓lCons, ↓lNil, ↓eVar, ↓eC, ↓eTup, ↓eLst, ↓eLstC, ↓eOp, ↓eSl, ↓oNo, ↓oPart, ↓eBits, ↓tBool, ↓tAndA, ↓tOrA, ↓tNotA, ↓List.getElem?_cons_zero, ↓List.getElem?_cons_succ, ↓List.set_cons_zero, ↓List.set_cons_succ, ↓rInt, ↓rInt0, ↓rAddA, ↓rEqA, ↓rIsA, ↓rMax2A, ↓rMin2A, ↓rIntA, ↓rAbsA, bsel_true, bsel_false, wipeN, gNm, tYesA, ↓isNon, ↓isBlOf, ↓isI, ↓isB, ↓isS, ↓isT, ↓isL, Bool.or_false, Bool.or_true, Bool.false_or, Bool.true_or, ↓wList, ↓eLc, ↓rLenA, ↓sFor, ↓sWhile, ↓wRng1, ↓wRng2, ↓wTup, ↓wEnum, ↓eChain, ↓eListR1, ↓eLenSet, ↓eRev, ↓eInR, ↓eApp, ↓ePop, ↓eValue, ↓xDrop, ↓xRet, ↓xSet, ↓xCall, ↓xCallV, ↓sRaise, ↓eCallVL, ↓eLam3, startNF, Bool.not_true, Bool.not_false, Bool.false_eq_true, ↓reduceIte, Bool.not_not])
        cases ea : xs.all (fun x => belA m x) with
        | false => rw [show xs.all (belA m) = false from ea, Bool.false_and] at k; (try simp only [startN, List.map_cons, List.map_nil, List.length_cons, List.length_nil, Nat.reduceAdd, Nat.reduceSub, Nat.zero_add, Nat.sub_self, List.replicate_succ, List.replicate_zero, List.reduceReplicate, List.cons_append, List.nil_append, List.append_nil, ↓sRet, ↓sRetN, ↓sSeq, ↓sNil, ↓sIf, ↓sSet, ↓sPar, ↓sPar3, ↓sAsg, ↓sDrop, ↓sSetL, ↓eAnd, ↓eOr, ↓eNot, ↓eIf, ↓eNeg, ↓eCall, ↓eCallK, ↓eCallV, ↓lCons, ↓lNil, ↓eVar, ↓eC, ↓eTup, ↓eLst, ↓eLstC, ↓eOp, ↓eSl, ↓oNo, ↓oPart, ↓eBits, ↓tBool, ↓tAndA, ↓tOrA, ↓tNotA, ↓List.getElem?_cons_zero, ↓List.getElem?_cons_succ, ↓List.set_cons_zero, ↓List.set_cons_succ, ↓rInt, ↓rInt0, ↓rAddA, ↓rEqA, ↓rIsA, ↓rMax2A, ↓rMin2A, ↓rIntA, ↓rAbsA, bsel_true, bsel_false, wipeN, gNm, tYesA, ↓isNon, ↓isBlOf, ↓isI, ↓isB, ↓isS, ↓isT, ↓isL, Bool.or_false, Bool.or_true, Bool.false_or, Bool.true_or, ↓wList, ↓eLc, ↓rLenA, ↓sFor, ↓sWhile, ↓wRng1, ↓wRng2, ↓wTup, ↓wEnum, ↓eChain, ↓eListR1, ↓eLenSet, ↓eRev, ↓eInR, ↓eApp, ↓ePop, ↓eValue, ↓xDrop, ↓xRet, ↓xSet, ↓xCall, ↓xCallV, ↓sRaise, ↓eCallVL, ↓eLam3, startNF, Bool.not_true, Bool.not_false, Bool.false_eq_true, ↓reduceIte, Bool.not_not]); exact k
        | true =>
          obtain ⟨ns, h1, h2⟩ := ints_bel ea
          rw [show xs.all (belA m) = true from ea, Bool.true_and, h1] at k
          have hln : xs.length = ns.length := by rw [h2, List.length_map]
          (try simp only [startN, List.map_cons, List.map_nil, List.length_cons, List.length_nil, Nat.reduceAdd, Nat.reduceSub, Nat.zero_add, Nat.sub_self, List.replicate_succ, List.replicate_zero, List.reduceReplicate, List.cons_append, List.nil_append, List.append_nil, ↓sRet, ↓sRetN, ↓sSeq, ↓sNil, ↓sIf, ↓sSet, ↓sPar, ↓sPar3, ↓sAsg, ↓sDrop, ↓sSetL, ↓eAnd, ↓eOr, ↓eNot, ↓eIf, ↓eNeg, ↓eCall, ↓eCallK, ↓eCallV, ↓lCons, ↓lNil, ↓eVar, ↓eC, ↓eTup, ↓eLst, ↓eLstC, ↓eOp, ↓eSl, ↓oNo, ↓oPart, ↓eBits, ↓tBool, ↓tAndA, ↓tOrA, ↓tNotA, ↓List.getElem?_cons_zero, ↓List.getElem?_cons_succ, ↓List.set_cons_zero, ↓List.set_cons_succ, ↓rInt, ↓rInt0, ↓rAddA, ↓rEqA, ↓rIsA, ↓rMax2A, ↓rMin2A, ↓rIntA, ↓rAbsA, bsel_true, bsel_false, wipeN, gNm, tYesA, ↓isNon, ↓isBlOf, ↓isI, ↓isB, ↓isS, ↓isT, ↓isL, Bool.or_false, Bool.or_true, Bool.false_or, Bool.true_or, ↓wList, ↓eLc, ↓rLenA, ↓sFor, ↓sWhile, ↓wRng1, ↓wRng2, ↓wTup, ↓wEnum, ↓eChain, ↓eListR1, ↓eLenSet, ↓eRev, ↓eInR, ↓eApp, ↓ePop, ↓eValue, ↓xDrop, ↓xRet, ↓xSet, ↓xCall, ↓xCallV, ↓sRaise, ↓eCallVL, ↓eLam3, startNF, Bool.not_true, Bool.not_false, Bool.false_eq_true, ↓reduceIte, Bool.not_not])
          refine ⟨ns, by rw [h2]; rfl, by omega, _, rfl, ?_⟩
          have e2 : decide ((dist ns : Int) = (xs.length : Int)) = decide (dist ns = ns.length) := by rw [decide_eq_decide]; omega
          (try simp only [startN, List.map_cons, List.map_nil, List.length_cons, List.length_nil, Nat.reduceAdd, Nat.reduceSub, Nat.zero_add, Nat.sub_self, List.replicate_succ, List.replicate_zero, List.reduceReplicate, List.cons_append, List.nil_append, List.append_nil, ↓sRet, ↓sRetN, ↓sSeq, ↓sNil, ↓sIf, ↓sSet, ↓sPar, ↓sPar3, ↓sAsg, ↓sDrop, ↓sSetL, ↓eAnd, ↓eOr, ↓eNot, ↓eIf, ↓eNeg, ↓eCall, ↓eCallK, ↓eCallV, ↓lCons, ↓lNil, ↓eVar, ↓eC, ↓eTup, ↓eLst, ↓eLstC, ↓eOp, ↓eSl, ↓oNo, ↓oPart, ↓eBits, ↓tBool, ↓tAndA, ↓tOrA, ↓tNotA, ↓List.getElem?_cons_zero, ↓List.getElem?_cons_succ, ↓List.set_cons_zero, ↓List.set_cons_succ, ↓rInt, ↓rInt0, ↓rAddA, ↓rEqA, ↓rIsA, ↓rMax2A, ↓rMin2A, ↓rIntA, ↓rAbsA, bsel_true, bsel_false, wipeN, gNm, tYesA, ↓isNon, ↓isBlOf, ↓isI, ↓isB, ↓isS, ↓isT, ↓isL, Bool.or_false, Bool.or_true, Bool.false_or, Bool.true_or, ↓wList, ↓eLc, ↓rLenA, ↓sFor, ↓sWhile, ↓wRng1, ↓wRng2, ↓wTup, ↓wEnum, ↓eChain, ↓eListR1, ↓eLenSet, ↓eRev, ↓eInR, ↓eApp, ↓ePop, ↓eValue, ↓xDrop, ↓xRet, ↓xSet, ↓xCall, ↓xCallV, ↓sRaise, ↓eCallVL, ↓eLam3, startNF, Bool.not_true, Bool.not_false, Bool.false_eq_true, ↓reduceIte, Bool.not_not])
          rw [e2]
          exact k
  | _ => (try simp only [startN, List.map_cons, List.map_nil, List.length_cons, List.length_nil, Nat.reduceAdd, Nat.reduceSub, Nat.zero_add, Nat.sub_self, List.replicate_succ, List.replicate_zero, List.reduceReplicate, List.cons_append, List.nil_append, List.append_nil, ↓sRet, ↓sRetN, ↓sSeq, ↓sNil, ↓sIf, ↓sSet, ↓sPar, ↓sPar3, ↓sAsg, ↓sDrop, ↓sSetL, ↓eAnd, ↓eOr, ↓eNot, ↓eIf, ↓eNeg, ↓eCall, ↓eCallK, ↓eCallV, ↓lCons, ↓lNil, ↓eVar, ↓eC, ↓eTup, ↓eLst, ↓eLstC, ↓eOp, ↓eSl, ↓oNo, ↓oPart, ↓eBits, ↓tBool, ↓tAndA, ↓tOrA, ↓tNotA, ↓List.getElem?_cons_zero, ↓List.getElem?_cons_succ, ↓List.set_cons_zero, ↓List.set_cons_succ, ↓rInt, ↓rInt0, ↓rAddA, ↓rEqA, ↓rIsA, ↓rMax2A, ↓rMin2A, ↓rIntA, ↓rAbsA, bsel_true, bsel_false, wipeN, gNm, tYesA, ↓isNon, ↓isBlOf, ↓isI, ↓isB, ↓isS, ↓isT, ↓isL, Bool.or_false, Bool.or_true, Bool.false_or, Bool.true_or, ↓wList, ↓eLc, ↓rLenA, ↓sFor, ↓sWhile, ↓wRng1, ↓wRng2, ↓wTup, ↓wEnum, ↓eChain, ↓eListR1, ↓eLenSet, ↓eRev, ↓eInR, ↓eApp, ↓ePop, ↓eValue, ↓xDrop, ↓xRet, ↓xSet, ↓xCall, ↓xCallV, ↓sRaise, ↓eCallVL, ↓eLam3, startNF, Bool.not_true, Bool.not_false, Bool.false_eq_true, ↓reduceIte, Bool.not_not]); exact k
/-! ### _law_is_ring -/
abbrev s__law_is_ring : Stmt := topS 46
theorem sc__law_is_ring : FnScope ["size", "value", "person"] ["size", "value"] (defScope s__law_is_ring) := ⟨rfl, rfl, rfl, by decide +kernel, rfl, by decide +kernel, by decide +kernel⟩
theorem bd__law_is_ring (kV doc pm : Value) (an : Option Addr) (cdv ct : Value) (us : List Value) (hl : us.length = (["size", "value"] : List Str).length) : bindArgs (PySem.W.fnOf "_law_is_ring" "_law_is_ring" (defArgs s__law_is_ring) (defBody s__law_is_ring) (defScope s__law_is_ring) .none kV doc pm an cdv ct) ⟨us, []⟩ = pure ((["size", "value"] : List Str).zip us) :=
  match us, hl with | [_, _], _ => rfl
--len len_isr
theorem got__law_is_ring {P : Program} {w : World} {K : PySem.W.Frag} {mg : Str → Option Value} {base : Heap} {f__law_is_below f__law_is_ring : Addr} (B : Bi mg) (D : Def K mg "_law_is_ring" s__law_is_ring f__law_is_ring) (G__law_is_below : Got P w K mg base 2 ["value", "bound"] "_law_is_below" s__law_is_below f__law_is_below sp__law_is_below) :
    Got P w K mg base (2 + 1) ["size", "value"] "_law_is_ring" s__law_is_ring f__law_is_ring sp_isr := by
  refine got_of D sc__law_is_ring (len_isr) (bd__law_is_ring) (fun cdv A0 outer s0_ H E hr => ⟨_, (sb_cons (sa_if (tt_w (tw_or (tt_not (tt_val (ea_callB cx_isi B.isinstance_ (la_cons (ea_var 1) (la_cons (ea_ty "list" B.list_) la_nil))))) (tw_or (tt_cmp oa_lt (ea_callB cx_len B.len_ (la_cons (ea_var 1) la_nil)) ea_int) (tw_or1 (tt_cmp (oa_ne hr.units) (ea_lc [("person", 2)] sc__law_is_ring.nd (ia_list (ea_var 1)) (by kernel_rfl) (fun _ _ _ _ _ => (ga_name 2 sc__law_is_ring.nd)) (fun _ _ _ _ _ => (tsa_one (tt_not (tt_val (ea_call G__law_is_below (hr.mono (by omega)) (la_cons (ea_var 2) (la_cons (ea_var 0) la_nil))))))) (fun _ _ _ _ _ => (ea_var 2))) (ea_lst la_nil)))))) (sb_one (sa_ret ea_bl)) sb_nil)
      (sb_one (sa_ret (ea_cmp (oa_eq hr.units) (ea_lenSet B.len_ B.set_ (ea_var 1)) (ea_callB cx_len B.len_ (la_cons (ea_var 1) la_nil)))))), fun as S P h => ?_⟩)
  obtain ⟨x, m, rfl, hk, hz, k⟩ := h
  (try simp only [startN, List.map_cons, List.map_nil, List.length_cons, List.length_nil, Nat.reduceAdd, Nat.reduceSub, Nat.zero_add, Nat.sub_self, List.replicate_succ, List.replicate_zero, List.reduceReplicate, List.cons_append, List.nil_append, List.append_nil, ↓sRet, ↓sRetN, ↓sSeq, ↓sNil, ↓sIf, ↓sSet, ↓sPar, ↓sPar3, ↓sAsg, ↓sDrop, ↓sSetL, ↓eAnd, ↓eOr, ↓eNot, ↓eIf, ↓eNeg, ↓eCall, ↓eCallK, ↓eCallV, ↓lCons, ↓lNil, ↓eVar, ↓eC, ↓eTup, ↓eLst, ↓eLstC, ↓eOp, ↓eSl, ↓oNo, ↓oPart, ↓eBits, ↓tBool, ↓tAndA, ↓tOrA, ↓tNotA, ↓List.getElem?_cons_zero, ↓List.getElem?_cons_succ, ↓List.set_cons_zero, ↓List.set_cons_succ, ↓rInt, ↓rInt0, ↓rAddA, ↓rEqA, ↓rIsA, ↓rMax2A, ↓rMin2A, ↓rIntA, ↓rAbsA, bsel_true, bsel_false, wipeN, gNm, tYesA, ↓isNon, ↓isBlOf, ↓isI, ↓isB, ↓isS, ↓isT, ↓isL, Bool.or_false, Bool.or_true, Bool.false_or, Bool.true_or, ↓wList, ↓eLc, ↓rLenA, ↓sFor, ↓sWhile, ↓wRng1, ↓wRng2, ↓wTup, ↓wEnum, ↓eChain, ↓eListR1, ↓eLenSet, ↓eRev, ↓eInR, ↓eApp, ↓ePop, ↓eValue, ↓xDrop, ↓xRet, ↓xSet, ↓xCall, ↓xCallV, ↓sRaise, ↓eCallVL, ↓eLam3, startNF, Bool.not_true, Bool.not_false, Bool.false_eq_true, ↓reduceIte, Bool.not_not])
  refine isi_list (gd_kn hk) ?_
  cases x with
  | ref _ => exact absurd (gd_nr hk) (by unfold nr; decide)
  | ty _ => exact absurd (gd_nr hk) (by unfold nr; decide)
  | lst xs =>
    obtain ⟨hg, hl⟩ := gd_lst hk
    have hz := hz xs rfl
    simp only [ringA] at k
    (try simp only [startN, List.map_cons, List.map_nil, List.length_cons, List.length_nil, Nat.reduceAdd, Nat.reduceSub, Nat.zero_add, Nat.sub_self, List.replicate_succ, List.replicate_zero, List.reduceReplicate, List.cons_append, List.nil_append, List.append_nil, ↓sRet, ↓sRetN, ↓sSeq, ↓sNil, ↓sIf, ↓sSet, ↓sPar, ↓sPar3, ↓sAsg, ↓sDrop, ↓sSetL, ↓eAnd, ↓eOr, ↓eNot, ↓eIf, ↓eNeg, ↓eCall, ↓eCallK, ↓eCallV, ↓lCons, ↓lNil, ↓eVar, ↓eC, ↓eTup, ↓eLst, ↓eLstC, ↓eOp, ↓eSl, ↓oNo, ↓oPart, ↓eBits, ↓tBool, ↓tAndA, ↓tOrA, ↓tNotA, ↓List.getElem?_cons_zero, ↓List.getElem?_cons_succ, ↓List.set_cons_zero, ↓List.set_cons_succ, ↓rInt, ↓rInt0, ↓rAddA, ↓rEqA, ↓rIsA, ↓rMax2A, ↓rMin2A, ↓rIntA, ↓rAbsA, bsel_true, bsel_false, wipeN, gNm, tYesA, ↓isNon, ↓isBlOf, ↓isI, ↓isB, ↓isS, ↓isT, ↓isL, Bool.or_false, Bool.or_true, Bool.false_or, Bool.true_or, ↓wList, ↓eLc, ↓rLenA, ↓sFor, ↓sWhile, ↓wRng1, ↓wRng2, ↓wTup, ↓wEnum, ↓eChain, ↓eListR1, ↓eLenSet, ↓eRev, ↓eInR, ↓eApp, ↓ePop, ↓eValue, ↓xDrop, ↓xRet, ↓xSet, ↓xCall, ↓xCallV, ↓sRaise, ↓eCallVL, ↓eLam3, startNF, Bool.not_true, Bool.not_false, Bool.false_eq_true, ↓reduceIte, Bool.not_not])
    refine ⟨xs, rfl, ?_⟩
    refine bsel_i (fun h1 => ?_) fun h1 => ?_
    · have n2 : ¬ 2 ≤ xs.length := by
        have := of_decide_eq_true h1
        omega
      rw [decide_eq_false n2, Bool.false_and, Bool.false_and] at k
      exact k
    · have n2 : 2 ≤ xs.length := by
        have := of_decide_eq_false h1
        omega
      rw [decide_eq_true n2, Bool.true_and] at k
      refine ⟨xs, rfl, hl, fun i acc S' => S' = S ∧ acc = (xs.take i).filter fun x => !belA m x, ⟨rfl, rfl⟩, fun _ _ _ _ h => by obtain ⟨rfl, _⟩ := h; rfl, ?_, ?_⟩
      · rintro i x acc S' hx ⟨rfl, rfl⟩
        (try simp only [startN, List.map_cons, List.map_nil, List.length_cons, List.length_nil, Nat.reduceAdd, Nat.reduceSub, Nat.zero_add, Nat.sub_self, List.replicate_succ, List.replicate_zero, List.reduceReplicate, List.cons_append, List.nil_append, List.append_nil, ↓sRet, ↓sRetN, ↓sSeq, ↓sNil, ↓sIf, ↓sSet, ↓sPar, ↓sPar3, ↓sAsg, ↓sDrop, ↓sSetL, ↓eAnd, ↓eOr, ↓eNot, ↓eIf, ↓eNeg, ↓eCall, ↓eCallK, ↓eCallV, ↓lCons, ↓lNil, ↓eVar, ↓eC, ↓eTup, ↓eLst, ↓eLstC, ↓eOp, ↓eSl, ↓oNo, ↓oPart, ↓eBits, ↓tBool, ↓tAndA, ↓tOrA, ↓tNotA, ↓List.getElem?_cons_zero, ↓List.getElem?_cons_succ, ↓List.set_cons_zero, ↓List.set_cons_succ, ↓rInt, ↓rInt0, ↓rAddA, ↓rEqA, ↓rIsA, ↓rMax2A, ↓rMin2A, ↓rIntA, ↓rAbsA, bsel_true, bsel_false, wipeN, gNm, tYesA, ↓isNon, ↓isBlOf, ↓isI, ↓isB, ↓isS, ↓isT, ↓isL, Bool.or_false, Bool.or_true, Bool.false_or, Bool.true_or, ↓wList, ↓eLc, ↓rLenA, ↓sFor, ↓sWhile, ↓wRng1, ↓wRng2, ↓wTup, ↓wEnum, ↓eChain, ↓eListR1, ↓eLenSet, ↓eRev, ↓eInR, ↓eApp, ↓ePop, ↓eValue, ↓xDrop, ↓xRet, ↓xSet, ↓xCall, ↓xCallV, ↓sRaise, ↓eCallVL, ↓eLam3, startNF, Bool.not_true, Bool.not_false, Bool.false_eq_true, ↓reduceIte, Bool.not_not])
        rw [filt_succ hx]
        refine ⟨x, m, rfl, gd_kn (gds_get hg hx), ?_⟩
        cases belA m x <;> (try simp only [startN, List.map_cons, List.map_nil, List.length_cons, List.length_nil, Nat.reduceAdd, Nat.reduceSub, Nat.zero_add, Nat.sub_self, List.replicate_succ, List.replicate_zero, List.reduceReplicate, List.cons_append, List.nil_append, List.append_nil, ↓sRet, ↓sRetN, ↓sSeq, ↓sNil, ↓sIf, ↓sSet, ↓sPar, ↓sPar3, ↓sAsg, ↓sDrop, ↓sSetL, ↓eAnd, ↓eOr, ↓eNot, ↓eIf, ↓eNeg, ↓eCall, ↓eCallK, ↓eCallV, ↓lCons, ↓lNil, ↓eVar, ↓eC, ↓eTup, ↓eLst, ↓eLstC, ↓eOp, ↓eSl, ↓oNo, ↓oPart, ↓eBits, ↓tBool, ↓tAndA, ↓tOrA, ↓tNotA, ↓List.getElem?_cons_zero, ↓List.getElem?_cons_succ, ↓List.set_cons_zero, ↓List.set_cons_succ, ↓rInt, ↓rInt0, ↓rAddA, ↓rEqA, ↓rIsA, ↓rMax2A, ↓rMin2A, ↓rIntA, ↓rAbsA, bsel_true, bsel_false, wipeN, gNm, tYesA, ↓isNon, ↓isBlOf, ↓isI, ↓isB, ↓isS, ↓isT, ↓isL, Bool.or_false, Bool.or_true, Bool.false_or, Bool.true_or, ↓wList, ↓eLc, ↓rLenA, ↓sFor, ↓sWhile, ↓wRng1, ↓wRng2, ↓wTup, ↓wEnum, ↓eChain, ↓eListR1, ↓eLenSet, ↓eRev, ↓eInR, ↓eApp, ↓ePop, ↓eValue, ↓xDrop, ↓xRet, ↓xSet, ↓xCall, ↓xCallV, ↓sRaise, ↓eCallVL, ↓eLam3, startNF, Bool.not_true, Bool.not_false, Bool.false_eq_true, ↓reduceIte, Bool.not_not]) <;> (first | exact ⟨trivial, rfl⟩ | exact ⟨trivial, trivial⟩ | exact ⟨rfl, rfl⟩)
      · rintro acc S' ⟨rfl, rfl⟩
        rw [List.take_length]
        refine rEqD_gd (gds_filt hg) (by decide) ?_
        rw [filt_emp]
        simp only [Bool.not_not]
        (try simp only [startN, List.map_cons, List.map_nil, List.length_cons, List.length_nil, Nat.reduceAdd, Nat.reduceSub, Nat.zero_add, Nat.sub_self, List.replicate_succ, List.replicate_zero, List.reduceReplicate, List.cons_append, List.nil_append, List.append_nil, ↓sRet, ↓sRetN, ↓sSeq, ↓sNil, ↓sIf, ↓sSet, ↓sPar, ↓sPar3, ↓sAsg, ↓sDrop, ↓sSetL, ↓eAnd, ↓eOr, ↓eNot, ↓eIf, ↓eNeg, ↓eCall, ↓eCallK, ↓eCallV, ↓lCons, ↓lNil, ↓eVar, ↓eC, ↓eTup, ↓eLst, ↓eLstC, ↓eOp, ↓eSl, ↓oNo, ↓oPart, ↓eBits, ↓tBool, ↓tAndA, ↓tOrA, ↓tNotA, ↓List.getElem?_cons_zero, ↓List.getElem?_cons_succ, ↓List.set_cons_zero, ↓List.set_cons_succ, ↓rInt, ↓rInt0, ↓rAddA, ↓rEqA, ↓rIsA, ↓rMax2A, ↓rMin2A, ↓rIntA, ↓rAbsA, bsel_true, bsel_false, wipeN, gNm, tYesA, ↓isNon, ↓isBlOf, ↓isI, ↓isB, ↓isS, ↓isT, ↓isL, Bool.or_false, Bool.or_true, Bool.false_or, Bool.true_or, ↓wList, ↓eLc, ↓rLenA, ↓sFor, ↓sWhile, ↓wRng1, ↓wRng2, ↓wTup, ↓wEnum, ↓eChain, ↓eListR1, ↓eLenSet, ↓eRev, ↓eInR, ↓eApp, ↓ePop, ↓eValue, ↓xDrop, ↓xRet, ↓xSet, ↓xCall, ↓xCallV, ↓sRaise, ↓eCallVL, ↓eLam3, startNF, Bool.not_true, Bool.not_false, Bool.false_eq_true, ↓reduceIte, Bool.not_not])
        cases ea : xs.all (fun x => belA m x) with
        | false => rw [show xs.all (belA m) = false from ea, Bool.false_and] at k; (try simp only [startN, List.map_cons, List.map_nil, List.length_cons, List.length_nil, Nat.reduceAdd, Nat.reduceSub, Nat.zero_add, Nat.sub_self, List.replicate_succ, List.replicate_zero, List.reduceReplicate, List.cons_append, List.nil_append, List.append_nil, ↓sRet, ↓sRetN, ↓sSeq, ↓sNil, ↓sIf, ↓sSet, ↓sPar, ↓sPar3, ↓sAsg, ↓sDrop, ↓sSetL, ↓eAnd, ↓eOr, ↓eNot, ↓eIf, ↓eNeg, ↓eCall, ↓eCallK, ↓eCallV, ↓lCons, ↓lNil, ↓eVar, ↓eC, ↓eTup, ↓eLst, ↓eLstC, ↓eOp, ↓eSl, ↓oNo, ↓oPart, ↓eBits, ↓tBool, ↓tAndA, ↓tOrA, ↓tNotA, ↓List.getElem?_cons_zero, ↓List.getElem?_cons_succ, ↓List.set_cons_zero, ↓List.set_cons_succ, ↓rInt, ↓rInt0, ↓rAddA, ↓rEqA, ↓rIsA, ↓rMax2A, ↓rMin2A, ↓rIntA, ↓rAbsA, bsel_true, bsel_false, wipeN, gNm, tYesA, ↓isNon, ↓isBlOf, ↓isI, ↓isB, ↓isS, ↓isT, ↓isL, Bool.or_false, Bool.or_true, Bool.false_or, Bool.true_or, ↓wList, ↓eLc, ↓rLenA, ↓sFor, ↓sWhile, ↓wRng1, ↓wRng2, ↓wTup, ↓wEnum, ↓eChain, ↓eListR1, ↓eLenSet, ↓eRev, ↓eInR, ↓eApp, ↓ePop, ↓eValue, ↓xDrop, ↓xRet, ↓xSet, ↓xCall, ↓xCallV, ↓sRaise, ↓eCallVL, ↓eLam3, startNF, Bool.not_true, Bool.not_false, Bool.false_eq_true, ↓reduceIte, Bool.not_not]); exact k
        | true =>
          obtain ⟨ns, h1, h2⟩ := ints_bel ea
          rw [show xs.all (belA m) = true from ea, Bool.true_and, h1] at k
          have hln : xs.length = ns.length := by rw [h2, List.length_map]
          (try simp only [startN, List.map_cons, List.map_nil, List.length_cons, List.length_nil, Nat.reduceAdd, Nat.reduceSub, Nat.zero_add, Nat.sub_self, List.replicate_succ, List.replicate_zero, List.reduceReplicate, List.cons_append, List.nil_append, List.append_nil, ↓sRet, ↓sRetN, ↓sSeq, ↓sNil, ↓sIf, ↓sSet, ↓sPar, ↓sPar3, ↓sAsg, ↓sDrop, ↓sSetL, ↓eAnd, ↓eOr, ↓eNot, ↓eIf, ↓eNeg, ↓eCall, ↓eCallK, ↓eCallV, ↓lCons, ↓lNil, ↓eVar, ↓eC, ↓eTup, ↓eLst, ↓eLstC, ↓eOp, ↓eSl, ↓oNo, ↓oPart, ↓eBits, ↓tBool, ↓tAndA, ↓tOrA, ↓tNotA, ↓List.getElem?_cons_zero, ↓List.getElem?_cons_succ, ↓List.set_cons_zero, ↓List.set_cons_succ, ↓rInt, ↓rInt0, ↓rAddA, ↓rEqA, ↓rIsA, ↓rMax2A, ↓rMin2A, ↓rIntA, ↓rAbsA, bsel_true, bsel_false, wipeN, gNm, tYesA, ↓isNon, ↓isBlOf, ↓isI, ↓isB, ↓isS, ↓isT, ↓isL, Bool.or_false, Bool.or_true, Bool.false_or, Bool.true_or, ↓wList, ↓eLc, ↓rLenA, ↓sFor, ↓sWhile, ↓wRng1, ↓wRng2, ↓wTup, ↓wEnum, ↓eChain, ↓eListR1, ↓eLenSet, ↓eRev, ↓eInR, ↓eApp, ↓ePop, ↓eValue, ↓xDrop, ↓xRet, ↓xSet, ↓xCall, ↓xCallV, ↓sRaise, ↓eCallVL, ↓eLam3, startNF, Bool.not_true, Bool.not_false, Bool.false_eq_true, ↓reduceIte, Bool.not_not])
          refine ⟨ns, by rw [h2]; rfl, by omega, _, rfl, ?_⟩
          have e2 : decide ((dist ns : Int) = (xs.length : Int)) = decide (dist ns = ns.length) := by rw [decide_eq_decide]; omega
          (try simp only [startN, List.map_cons, List.map_nil, List.length_cons, List.length_nil, Nat.reduceAdd, Nat.reduceSub, Nat.zero_add, Nat.sub_self, List.replicate_succ, List.replicate_zero, List.reduceReplicate, List.cons_append, List.nil_append, List.append_nil, ↓sRet, ↓sRetN, ↓sSeq, ↓sNil, ↓sIf, ↓sSet, ↓sPar, ↓sPar3, ↓sAsg, ↓sDrop, ↓sSetL, ↓eAnd, ↓eOr, ↓eNot, ↓eIf, ↓eNeg, ↓eCall, ↓eCallK, ↓eCallV, ↓lCons, ↓lNil, ↓eVar, ↓eC, ↓eTup, ↓eLst, ↓eLstC, ↓eOp, ↓eSl, ↓oNo, ↓oPart, ↓eBits, ↓tBool, ↓tAndA, ↓tOrA, ↓tNotA, ↓List.getElem?_cons_zero, ↓List.getElem?_cons_succ, ↓List.set_cons_zero, ↓List.set_cons_succ, ↓rInt, ↓rInt0, ↓rAddA, ↓rEqA, ↓rIsA, ↓rMax2A, ↓rMin2A, ↓rIntA, ↓rAbsA, bsel_true, bsel_false, wipeN, gNm, tYesA, ↓isNon, ↓isBlOf, ↓isI, ↓isB, ↓isS, ↓isT, ↓isL, Bool.or_false, Bool.or_true, Bool.false_or, Bool.true_or, ↓wList, ↓eLc, ↓rLenA, ↓sFor, ↓sWhile, ↓wRng1, ↓wRng2, ↓wTup, ↓wEnum, ↓eChain, ↓eListR1, ↓eLenSet, ↓eRev, ↓eInR, ↓eApp, ↓ePop, ↓eValue, ↓xDrop, ↓xRet, ↓xSet, ↓xCall, ↓xCallV, ↓sRaise, ↓eCallVL, ↓eLam3, startNF, Bool.not_true, Bool.not_false, Bool.false_eq_true, ↓reduceIte, Bool.not_not])
          rw [e2]
          exact k
  | _ => (try simp only [startN, List.map_cons, List.map_nil, List.length_cons, List.length_nil, Nat.reduceAdd, Nat.reduceSub, Nat.zero_add, Nat.sub_self, List.replicate_succ, List.replicate_zero, List.reduceReplicate, List.cons_append, List.nil_append, List.append_nil, ↓sRet, ↓sRetN, ↓sSeq, ↓sNil, ↓sIf, ↓sSet, ↓sPar, ↓sPar3, ↓sAsg, ↓sDrop, ↓sSetL, ↓eAnd, ↓eOr, ↓eNot, ↓eIf, ↓eNeg, ↓eCall, ↓eCallK, ↓eCallV, ↓lCons, ↓lNil, ↓eVar, ↓eC, ↓eTup, ↓eLst, ↓eLstC, ↓eOp, ↓eSl, ↓oNo, ↓oPart, ↓eBits, ↓tBool, ↓tAndA, ↓tOrA, ↓tNotA, ↓List.getElem?_cons_zero, ↓List.getElem?_cons_succ, ↓List.set_cons_zero, ↓List.set_cons_succ, ↓rInt, ↓rInt0, ↓rAddA, ↓rEqA, ↓rIsA, ↓rMax2A, ↓rMin2A, ↓rIntA, ↓rAbsA, bsel_true, bsel_false, wipeN, gNm, tYesA, ↓isNon, ↓isBlOf, ↓isI, ↓isB, ↓isS, ↓isT, ↓isL, Bool.or_false, Bool.or_true, Bool.false_or, Bool.true_or, ↓wList, ↓eLc, ↓rLenA, ↓sFor, ↓sWhile, ↓wRng1, ↓wRng2, ↓wTup, ↓wEnum, ↓eChain, ↓eListR1, ↓eLenSet, ↓eRev, ↓eInR, ↓eApp, ↓ePop, ↓eValue, ↓xDrop, ↓xRet, ↓xSet, ↓xCall, ↓xCallV, ↓sRaise, ↓eCallVL, ↓eLam3, startNF, Bool.not_true, Bool.not_false, Bool.false_eq_true, ↓reduceIte, Bool.not_not]); exact k
theorem ring_rg {m : Nat} {x : A} (h : ringA m x = true) : ∃ rs : List Int, x = .lst (rs.map .int) ∧ Rg m rs ∧ 2 ≤ rs.length := by
  cases x with
  | lst xs =>
    simp only [ringA, Bool.and_eq_true, decide_eq_true_eq] at h
    obtain ⟨⟨h1, h2⟩, h3⟩ := h
    obtain ⟨ns, e1, rfl⟩ := ints_bel h2
    rw [e1] at h3
    rw [List.length_map] at h1
    refine ⟨ns, rfl, ⟨dist_nodup.mp (of_decide_eq_true h3), fun z hz => ?_⟩, h1⟩
    have q := List.all_eq_true.mp h2 (.int z) (List.mem_map_of_mem hz)
    simpa [belA] using q
  | _ => cases h
theorem rg_ring {m : Nat} {rs : List Int} (h : Rg m rs) (h2 : 2 ≤ rs.length) : ringA m (.lst (rs.map .int)) = true := by
  simp only [ringA, Bool.and_eq_true, decide_eq_true_eq, intsA_map, List.length_map, List.all_eq_true]
  refine ⟨⟨h2, fun x hx => ?_⟩, dist_nodup.mpr h.nd⟩
  obtain ⟨z, hz, rfl⟩ := List.mem_map.mp hx
  have := h.bd z hz
  simp only [belA, Bool.and_eq_true, decide_eq_true_eq]
  exact this
/-! ### is_ring -/
abbrev s_is_ring : Stmt := topS 23
theorem sc_is_ring : FnScope ["worths", "value"] ["worths", "value"] (defScope s_is_ring) := ⟨rfl, rfl, rfl, by decide +kernel, rfl, by decide +kernel, by decide +kernel⟩
theorem bd_is_ring (kV doc pm : Value) (an : Option Addr) (cdv ct : Value) (us : List Value) (hl : us.length = (["worths", "value"] : List Str).length) : bindArgs (PySem.W.fnOf "is_ring" "is_ring" (defArgs s_is_ring) (defBody s_is_ring) (defScope s_is_ring) .none kV doc pm an cdv ct) ⟨us, []⟩ = pure ((["worths", "value"] : List Str).zip us) :=
  match us, hl with | [_, _], _ => rfl
def sp_isring (C : Addr) : SpX := fun as S P PE => ∃ w x, as = [w, x] ∧ gd 7 w = true ∧ gd 6 x = true ∧ (∀ xs, x = .lst xs → xs.length ≤ 1000) ∧ bsel (sqW w) (∃ r, w = .lst r ∧ P (.bl (ringA r.length x)) S) (PE C w S)
--len by rintro as S P PE ⟨w, x, rfl, _⟩; rfl
theorem got_is_ring {P : Program} {w : World} {K : PySem.W.Frag} {mg : Str → Option Value} {base : Heap} {f_InvalidWorths f_check_square f_is_ring f_is_ring_of : Addr} (B : Bi mg) (D : Def K mg "is_ring" s_is_ring f_is_ring) (G_is_ring_of : Got P w K mg base 4 ["size", "value"] "is_ring_of" s_is_ring_of f_is_ring_of sp_isr) (G_check_square : GotX P w K mg base 5 ["worths"] "check_square" s_check_square f_check_square (sp_chk 7 sqW f_InvalidWorths)) :
    GotX P w K mg base (5 + 1) ["worths", "value"] "is_ring" s_is_ring f_is_ring (sp_isring f_InvalidWorths) := by
  refine gotx_of D sc_is_ring (by rintro as S P PE ⟨w, x, rfl, _⟩; rfl) (bd_is_ring) (fun cdv A0 outer s0_ H E hr tk hpo => ⟨_, (bx_cons (sx_expr (ex_call tk G_check_square (hr.mono (by omega)) (la_cons (ea_var 0) la_nil)))
      (bx_one (sx_of (sa_ret (ea_call G_is_ring_of (hr.mono (by omega)) (la_cons (ea_callB cx_len B.len_ (la_cons (ea_var 0) la_nil)) (la_cons (ea_var 1) la_nil))))))), fun as S P PE h => ?_⟩)
  obtain ⟨w, x, rfl, hk, hx, hz, k⟩ := h
  (try simp only [startN, List.map_cons, List.map_nil, List.length_cons, List.length_nil, Nat.reduceAdd, Nat.reduceSub, Nat.zero_add, Nat.sub_self, List.replicate_succ, List.replicate_zero, List.reduceReplicate, List.cons_append, List.nil_append, List.append_nil, ↓sRet, ↓sRetN, ↓sSeq, ↓sNil, ↓sIf, ↓sSet, ↓sPar, ↓sPar3, ↓sAsg, ↓sDrop, ↓sSetL, ↓eAnd, ↓eOr, ↓eNot, ↓eIf, ↓eNeg, ↓eCall, ↓eCallK, ↓eCallV, ↓lCons, ↓lNil, ↓eVar, ↓eC, ↓eTup, ↓eLst, ↓eLstC, ↓eOp, ↓eSl, ↓oNo, ↓oPart, ↓eBits, ↓tBool, ↓tAndA, ↓tOrA, ↓tNotA, ↓List.getElem?_cons_zero, ↓List.getElem?_cons_succ, ↓List.set_cons_zero, ↓List.set_cons_succ, ↓rInt, ↓rInt0, ↓rAddA, ↓rEqA, ↓rIsA, ↓rMax2A, ↓rMin2A, ↓rIntA, ↓rAbsA, bsel_true, bsel_false, wipeN, gNm, tYesA, ↓isNon, ↓isBlOf, ↓isI, ↓isB, ↓isS, ↓isT, ↓isL, Bool.or_false, Bool.or_true, Bool.false_or, Bool.true_or, ↓wList, ↓eLc, ↓rLenA, ↓sFor, ↓sWhile, ↓wRng1, ↓wRng2, ↓wTup, ↓wEnum, ↓eChain, ↓eListR1, ↓eLenSet, ↓eRev, ↓eInR, ↓eApp, ↓ePop, ↓eValue, ↓xDrop, ↓xRet, ↓xSet, ↓xCall, ↓xCallV, ↓sRaise, ↓eCallVL, ↓eLam3, startNF, Bool.not_true, Bool.not_false, Bool.false_eq_true, ↓reduceIte, Bool.not_not])
  refine ⟨w, rfl, hk, ?_⟩
  cases e : sqW w with
  | false => rw [e] at k; (try simp only [startN, List.map_cons, List.map_nil, List.length_cons, List.length_nil, Nat.reduceAdd, Nat.reduceSub, Nat.zero_add, Nat.sub_self, List.replicate_succ, List.replicate_zero, List.reduceReplicate, List.cons_append, List.nil_append, List.append_nil, ↓sRet, ↓sRetN, ↓sSeq, ↓sNil, ↓sIf, ↓sSet, ↓sPar, ↓sPar3, ↓sAsg, ↓sDrop, ↓sSetL, ↓eAnd, ↓eOr, ↓eNot, ↓eIf, ↓eNeg, ↓eCall, ↓eCallK, ↓eCallV, ↓lCons, ↓lNil, ↓eVar, ↓eC, ↓eTup, ↓eLst, ↓eLstC, ↓eOp, ↓eSl, ↓oNo, ↓oPart, ↓eBits, ↓tBool, ↓tAndA, ↓tOrA, ↓tNotA, ↓List.getElem?_cons_zero, ↓List.getElem?_cons_succ, ↓List.set_cons_zero, ↓List.set_cons_succ, ↓rInt, ↓rInt0, ↓rAddA, ↓rEqA, ↓rIsA, ↓rMax2A, ↓rMin2A, ↓rIntA, ↓rAbsA, bsel_true, bsel_false, wipeN, gNm, tYesA, ↓isNon, ↓isBlOf, ↓isI, ↓isB, ↓isS, ↓isT, ↓isL, Bool.or_false, Bool.or_true, Bool.false_or, Bool.true_or, ↓wList, ↓eLc, ↓rLenA, ↓sFor, ↓sWhile, ↓wRng1, ↓wRng2, ↓wTup, ↓wEnum, ↓eChain, ↓eListR1, ↓eLenSet, ↓eRev, ↓eInR, ↓eApp, ↓ePop, ↓eValue, ↓xDrop, ↓xRet, ↓xSet, ↓xCall, ↓xCallV, ↓sRaise, ↓eCallVL, ↓eLam3, startNF, Bool.not_true, Bool.not_false, Bool.false_eq_true, ↓reduceIte, Bool.not_not]); exact k
  | true =>
    rw [e] at k
    obtain ⟨r, rfl, k⟩ := k
    (try simp only [startN, List.map_cons, List.map_nil, List.length_cons, List.length_nil, Nat.reduceAdd, Nat.reduceSub, Nat.zero_add, Nat.sub_self, List.replicate_succ, List.replicate_zero, List.reduceReplicate, List.cons_append, List.nil_append, List.append_nil, ↓sRet, ↓sRetN, ↓sSeq, ↓sNil, ↓sIf, ↓sSet, ↓sPar, ↓sPar3, ↓sAsg, ↓sDrop, ↓sSetL, ↓eAnd, ↓eOr, ↓eNot, ↓eIf, ↓eNeg, ↓eCall, ↓eCallK, ↓eCallV, ↓lCons, ↓lNil, ↓eVar, ↓eC, ↓eTup, ↓eLst, ↓eLstC, ↓eOp, ↓eSl, ↓oNo, ↓oPart, ↓eBits, ↓tBool, ↓tAndA, ↓tOrA, ↓tNotA, ↓List.getElem?_cons_zero, ↓List.getElem?_cons_succ, ↓List.set_cons_zero, ↓List.set_cons_succ, ↓rInt, ↓rInt0, ↓rAddA, ↓rEqA, ↓rIsA, ↓rMax2A, ↓rMin2A, ↓rIntA, ↓rAbsA, bsel_true, bsel_false, wipeN, gNm, tYesA, ↓isNon, ↓isBlOf, ↓isI, ↓isB, ↓isS, ↓isT, ↓isL, Bool.or_false, Bool.or_true, Bool.false_or, Bool.true_or, ↓wList, ↓eLc, ↓rLenA, ↓sFor, ↓sWhile, ↓wRng1, ↓wRng2, ↓wTup, ↓wEnum, ↓eChain, ↓eListR1, ↓eLenSet, ↓eRev, ↓eInR, ↓eApp, ↓ePop, ↓eValue, ↓xDrop, ↓xRet, ↓xSet, ↓xCall, ↓xCallV, ↓sRaise, ↓eCallVL, ↓eLam3, startNF, Bool.not_true, Bool.not_false, Bool.false_eq_true, ↓reduceIte, Bool.not_not])
    exact ⟨r, rfl, x, r.length, rfl, hx, hz, k⟩
/-- worths, a deal, a ring: each tested, the first wrong one raised -/
def sp_ring3 (C D R : Addr) (G : List A → List Int → List Int → (A → Sto → Prop) → Sto → Prop) : SpX := fun as S P PE => ∃ w x r, as = [w, x, r] ∧ gd 7 w = true ∧ gd 6 x = true ∧ gd 6 r = true ∧ (∀ xs, r = .lst xs → xs.length ≤ 1000) ∧
  bsel (sqW w) (∃ ws, w = .lst ws ∧ bsel (dealA ws.length x) (∃ ds : List Int, x = .lst (ds.map .int) ∧ bsel (ringA ws.length r) (∃ rs : List Int, r = .lst (rs.map .int) ∧ G ws ds rs P S) (PE R r S)) (PE D x S)) (PE C w S)
theorem len_ring3 {C D R : Addr} {G : List A → List Int → List Int → (A → Sto → Prop) → Sto → Prop} : ∀ as S P PE, sp_ring3 C D R G as S P PE → as.length = 3 := by
  rintro as S P PE ⟨_, _, _, rfl, _⟩
  rfl
theorem ixN_in {n : Nat} {i : Int} (h0 : 0 ≤ i) (h1 : i < (n : Int)) : ixN n i = some i.toNat := by
  unfold ixN
  rw [if_pos h0, if_pos h1]
def g_gain (ws : List A) (ds rs : List Int) (P : A → Sto → Prop) (S : Sto) : Prop := P (.int (ringGain (wAt ws) ds rs)) S
def g_hand (ws : List A) (ds rs : List Int) (P : A → Sto → Prop) (S : Sto) : Prop := ∀ p, S p = none → P (.ref p) (sup S p (.lst ((handA ds rs).map .int)))
/-! ### ring_gain -/
abbrev s_ring_gain : Stmt := topS 24
theorem sc_ring_gain : FnScope ["worths", "deal", "ring"] ["worths", "deal", "ring"] (defScope s_ring_gain) := ⟨rfl, rfl, rfl, by decide +kernel, rfl, by decide +kernel, by decide +kernel⟩
theorem bd_ring_gain (kV doc pm : Value) (an : Option Addr) (cdv ct : Value) (us : List Value) (hl : us.length = (["worths", "deal", "ring"] : List Str).length) : bindArgs (PySem.W.fnOf "ring_gain" "ring_gain" (defArgs s_ring_gain) (defBody s_ring_gain) (defScope s_ring_gain) .none kV doc pm an cdv ct) ⟨us, []⟩ = pure ((["worths", "deal", "ring"] : List Str).zip us) :=
  match us, hl with | [_, _, _], _ => rfl
--len len_ring3
theorem got_ring_gain {P : Program} {w : World} {K : PySem.W.Frag} {mg : Str → Option Value} {base : Heap} {f_InvalidDeal f_InvalidRing f_InvalidWorths f_RentError f_check_deal f_check_square f_is_ring_of f_ring_gain f_ring_sum : Addr} {Te : TabE} (B : Bi mg) (D : Def K mg "ring_gain" s_ring_gain f_ring_gain) (G_ring_sum : Got P w K mg base 2 ["worths", "deal", "ring"] "ring_sum" s_ring_sum f_ring_sum sp_rsum) (G_check_square : GotX P w K mg base 5 ["worths"] "check_square" s_check_square f_check_square (sp_chk 7 sqW f_InvalidWorths)) (G_check_deal : GotX P w K mg base 5 ["size", "deal"] "check_deal" s_check_deal f_check_deal (sp_chkd f_InvalidDeal)) (G_is_ring_of : Got P w K mg base 4 ["size", "value"] "is_ring_of" s_is_ring_of f_is_ring_of sp_isr) (M_InvalidRing : mg "InvalidRing" = some (.ref f_InvalidRing)) (ET : ErrT P K mg f_RentError Te) (T_InvalidRing : Te f_InvalidRing = some "InvalidRing") :
    GotX P w K mg base (5 + 1) ["worths", "deal", "ring"] "ring_gain" s_ring_gain f_ring_gain (sp_ring3 f_InvalidWorths f_InvalidDeal f_InvalidRing g_gain) := by
  refine gotx_of D sc_ring_gain (len_ring3) (bd_ring_gain) (fun cdv A0 outer s0_ H E hr tk hpo => ⟨_, (bx_cons (sx_expr (ex_call tk G_check_square (hr.mono (by omega)) (la_cons (ea_var 0) la_nil)))
      (bx_cons (sx_expr (ex_call tk G_check_deal (hr.mono (by omega)) (la_cons (ea_callB cx_len B.len_ (la_cons (ea_var 0) la_nil)) (la_cons (ea_var 1) la_nil))))
      (bx_cons (sx_if (tt_not (tt_val (ea_call G_is_ring_of (hr.mono (by omega)) (la_cons (ea_callB cx_len B.len_ (la_cons (ea_var 0) la_nil)) (la_cons (ea_var 2) la_nil))))) (bx_one (sx_raise (k := 0) tk ET T_InvalidRing (hr.mono (by omega)) (ea_var 2))) bx_nil)
      (bx_one (sx_of (sa_ret (ea_call G_ring_sum (hr.mono (by omega)) (la_cons (ea_var 0) (la_cons (ea_var 1) (la_cons (ea_var 2) la_nil)))))))))), fun as S P PE h => ?_⟩)
  obtain ⟨w, x, r, rfl, hk, hx, hr, hz, k⟩ := h
  (try simp only [startN, List.map_cons, List.map_nil, List.length_cons, List.length_nil, Nat.reduceAdd, Nat.reduceSub, Nat.zero_add, Nat.sub_self, List.replicate_succ, List.replicate_zero, List.reduceReplicate, List.cons_append, List.nil_append, List.append_nil, ↓sRet, ↓sRetN, ↓sSeq, ↓sNil, ↓sIf, ↓sSet, ↓sPar, ↓sPar3, ↓sAsg, ↓sDrop, ↓sSetL, ↓eAnd, ↓eOr, ↓eNot, ↓eIf, ↓eNeg, ↓eCall, ↓eCallK, ↓eCallV, ↓lCons, ↓lNil, ↓eVar, ↓eC, ↓eTup, ↓eLst, ↓eLstC, ↓eOp, ↓eSl, ↓oNo, ↓oPart, ↓eBits, ↓tBool, ↓tAndA, ↓tOrA, ↓tNotA, ↓List.getElem?_cons_zero, ↓List.getElem?_cons_succ, ↓List.set_cons_zero, ↓List.set_cons_succ, ↓rInt, ↓rInt0, ↓rAddA, ↓rEqA, ↓rIsA, ↓rMax2A, ↓rMin2A, ↓rIntA, ↓rAbsA, bsel_true, bsel_false, wipeN, gNm, tYesA, ↓isNon, ↓isBlOf, ↓isI, ↓isB, ↓isS, ↓isT, ↓isL, Bool.or_false, Bool.or_true, Bool.false_or, Bool.true_or, ↓wList, ↓eLc, ↓rLenA, ↓sFor, ↓sWhile, ↓wRng1, ↓wRng2, ↓wTup, ↓wEnum, ↓eChain, ↓eListR1, ↓eLenSet, ↓eRev, ↓eInR, ↓eApp, ↓ePop, ↓eValue, ↓xDrop, ↓xRet, ↓xSet, ↓xCall, ↓xCallV, ↓sRaise, ↓eCallVL, ↓eLam3, startNF, Bool.not_true, Bool.not_false, Bool.false_eq_true, ↓reduceIte, Bool.not_not])
  refine ⟨w, rfl, hk, ?_⟩
  cases e : sqW w with
  | false => rw [e] at k; (try simp only [startN, List.map_cons, List.map_nil, List.length_cons, List.length_nil, Nat.reduceAdd, Nat.reduceSub, Nat.zero_add, Nat.sub_self, List.replicate_succ, List.replicate_zero, List.reduceReplicate, List.cons_append, List.nil_append, List.append_nil, ↓sRet, ↓sRetN, ↓sSeq, ↓sNil, ↓sIf, ↓sSet, ↓sPar, ↓sPar3, ↓sAsg, ↓sDrop, ↓sSetL, ↓eAnd, ↓eOr, ↓eNot, ↓eIf, ↓eNeg, ↓eCall, ↓eCallK, ↓eCallV, ↓lCons, ↓lNil, ↓eVar, ↓eC, ↓eTup, ↓eLst, ↓eLstC, ↓eOp, ↓eSl, ↓oNo, ↓oPart, ↓eBits, ↓tBool, ↓tAndA, ↓tOrA, ↓tNotA, ↓List.getElem?_cons_zero, ↓List.getElem?_cons_succ, ↓List.set_cons_zero, ↓List.set_cons_succ, ↓rInt, ↓rInt0, ↓rAddA, ↓rEqA, ↓rIsA, ↓rMax2A, ↓rMin2A, ↓rIntA, ↓rAbsA, bsel_true, bsel_false, wipeN, gNm, tYesA, ↓isNon, ↓isBlOf, ↓isI, ↓isB, ↓isS, ↓isT, ↓isL, Bool.or_false, Bool.or_true, Bool.false_or, Bool.true_or, ↓wList, ↓eLc, ↓rLenA, ↓sFor, ↓sWhile, ↓wRng1, ↓wRng2, ↓wTup, ↓wEnum, ↓eChain, ↓eListR1, ↓eLenSet, ↓eRev, ↓eInR, ↓eApp, ↓ePop, ↓eValue, ↓xDrop, ↓xRet, ↓xSet, ↓xCall, ↓xCallV, ↓sRaise, ↓eCallVL, ↓eLam3, startNF, Bool.not_true, Bool.not_false, Bool.false_eq_true, ↓reduceIte, Bool.not_not]); exact k
  | true =>
    rw [e] at k
    obtain ⟨ws, rfl, k⟩ := k
    have hl := sq_len e
    (try simp only [startN, List.map_cons, List.map_nil, List.length_cons, List.length_nil, Nat.reduceAdd, Nat.reduceSub, Nat.zero_add, Nat.sub_self, List.replicate_succ, List.replicate_zero, List.reduceReplicate, List.cons_append, List.nil_append, List.append_nil, ↓sRet, ↓sRetN, ↓sSeq, ↓sNil, ↓sIf, ↓sSet, ↓sPar, ↓sPar3, ↓sAsg, ↓sDrop, ↓sSetL, ↓eAnd, ↓eOr, ↓eNot, ↓eIf, ↓eNeg, ↓eCall, ↓eCallK, ↓eCallV, ↓lCons, ↓lNil, ↓eVar, ↓eC, ↓eTup, ↓eLst, ↓eLstC, ↓eOp, ↓eSl, ↓oNo, ↓oPart, ↓eBits, ↓tBool, ↓tAndA, ↓tOrA, ↓tNotA, ↓List.getElem?_cons_zero, ↓List.getElem?_cons_succ, ↓List.set_cons_zero, ↓List.set_cons_succ, ↓rInt, ↓rInt0, ↓rAddA, ↓rEqA, ↓rIsA, ↓rMax2A, ↓rMin2A, ↓rIntA, ↓rAbsA, bsel_true, bsel_false, wipeN, gNm, tYesA, ↓isNon, ↓isBlOf, ↓isI, ↓isB, ↓isS, ↓isT, ↓isL, Bool.or_false, Bool.or_true, Bool.false_or, Bool.true_or, ↓wList, ↓eLc, ↓rLenA, ↓sFor, ↓sWhile, ↓wRng1, ↓wRng2, ↓wTup, ↓wEnum, ↓eChain, ↓eListR1, ↓eLenSet, ↓eRev, ↓eInR, ↓eApp, ↓ePop, ↓eValue, ↓xDrop, ↓xRet, ↓xSet, ↓xCall, ↓xCallV, ↓sRaise, ↓eCallVL, ↓eLam3, startNF, Bool.not_true, Bool.not_false, Bool.false_eq_true, ↓reduceIte, Bool.not_not])
    refine ⟨ws, rfl, x, ws.length, rfl, by omega, hx, ?_⟩
    cases e2 : dealA ws.length x with
    | false => rw [e2] at k; (try simp only [startN, List.map_cons, List.map_nil, List.length_cons, List.length_nil, Nat.reduceAdd, Nat.reduceSub, Nat.zero_add, Nat.sub_self, List.replicate_succ, List.replicate_zero, List.reduceReplicate, List.cons_append, List.nil_append, List.append_nil, ↓sRet, ↓sRetN, ↓sSeq, ↓sNil, ↓sIf, ↓sSet, ↓sPar, ↓sPar3, ↓sAsg, ↓sDrop, ↓sSetL, ↓eAnd, ↓eOr, ↓eNot, ↓eIf, ↓eNeg, ↓eCall, ↓eCallK, ↓eCallV, ↓lCons, ↓lNil, ↓eVar, ↓eC, ↓eTup, ↓eLst, ↓eLstC, ↓eOp, ↓eSl, ↓oNo, ↓oPart, ↓eBits, ↓tBool, ↓tAndA, ↓tOrA, ↓tNotA, ↓List.getElem?_cons_zero, ↓List.getElem?_cons_succ, ↓List.set_cons_zero, ↓List.set_cons_succ, ↓rInt, ↓rInt0, ↓rAddA, ↓rEqA, ↓rIsA, ↓rMax2A, ↓rMin2A, ↓rIntA, ↓rAbsA, bsel_true, bsel_false, wipeN, gNm, tYesA, ↓isNon, ↓isBlOf, ↓isI, ↓isB, ↓isS, ↓isT, ↓isL, Bool.or_false, Bool.or_true, Bool.false_or, Bool.true_or, ↓wList, ↓eLc, ↓rLenA, ↓sFor, ↓sWhile, ↓wRng1, ↓wRng2, ↓wTup, ↓wEnum, ↓eChain, ↓eListR1, ↓eLenSet, ↓eRev, ↓eInR, ↓eApp, ↓ePop, ↓eValue, ↓xDrop, ↓xRet, ↓xSet, ↓xCall, ↓xCallV, ↓sRaise, ↓eCallVL, ↓eLam3, startNF, Bool.not_true, Bool.not_false, Bool.false_eq_true, ↓reduceIte, Bool.not_not]); exact k
    | true =>
      rw [e2] at k
      obtain ⟨ds, rfl, k⟩ := k
      (try simp only [startN, List.map_cons, List.map_nil, List.length_cons, List.length_nil, Nat.reduceAdd, Nat.reduceSub, Nat.zero_add, Nat.sub_self, List.replicate_succ, List.replicate_zero, List.reduceReplicate, List.cons_append, List.nil_append, List.append_nil, ↓sRet, ↓sRetN, ↓sSeq, ↓sNil, ↓sIf, ↓sSet, ↓sPar, ↓sPar3, ↓sAsg, ↓sDrop, ↓sSetL, ↓eAnd, ↓eOr, ↓eNot, ↓eIf, ↓eNeg, ↓eCall, ↓eCallK, ↓eCallV, ↓lCons, ↓lNil, ↓eVar, ↓eC, ↓eTup, ↓eLst, ↓eLstC, ↓eOp, ↓eSl, ↓oNo, ↓oPart, ↓eBits, ↓tBool, ↓tAndA, ↓tOrA, ↓tNotA, ↓List.getElem?_cons_zero, ↓List.getElem?_cons_succ, ↓List.set_cons_zero, ↓List.set_cons_succ, ↓rInt, ↓rInt0, ↓rAddA, ↓rEqA, ↓rIsA, ↓rMax2A, ↓rMin2A, ↓rIntA, ↓rAbsA, bsel_true, bsel_false, wipeN, gNm, tYesA, ↓isNon, ↓isBlOf, ↓isI, ↓isB, ↓isS, ↓isT, ↓isL, Bool.or_false, Bool.or_true, Bool.false_or, Bool.true_or, ↓wList, ↓eLc, ↓rLenA, ↓sFor, ↓sWhile, ↓wRng1, ↓wRng2, ↓wTup, ↓wEnum, ↓eChain, ↓eListR1, ↓eLenSet, ↓eRev, ↓eInR, ↓eApp, ↓ePop, ↓eValue, ↓xDrop, ↓xRet, ↓xSet, ↓xCall, ↓xCallV, ↓sRaise, ↓eCallVL, ↓eLam3, startNF, Bool.not_true, Bool.not_false, Bool.false_eq_true, ↓reduceIte, Bool.not_not])
      refine ⟨ws, rfl, r, ws.length, rfl, hr, hz, ?_⟩
      cases e3 : ringA ws.length r with
      | false => rw [e3] at k; (try simp only [startN, List.map_cons, List.map_nil, List.length_cons, List.length_nil, Nat.reduceAdd, Nat.reduceSub, Nat.zero_add, Nat.sub_self, List.replicate_succ, List.replicate_zero, List.reduceReplicate, List.cons_append, List.nil_append, List.append_nil, ↓sRet, ↓sRetN, ↓sSeq, ↓sNil, ↓sIf, ↓sSet, ↓sPar, ↓sPar3, ↓sAsg, ↓sDrop, ↓sSetL, ↓eAnd, ↓eOr, ↓eNot, ↓eIf, ↓eNeg, ↓eCall, ↓eCallK, ↓eCallV, ↓lCons, ↓lNil, ↓eVar, ↓eC, ↓eTup, ↓eLst, ↓eLstC, ↓eOp, ↓eSl, ↓oNo, ↓oPart, ↓eBits, ↓tBool, ↓tAndA, ↓tOrA, ↓tNotA, ↓List.getElem?_cons_zero, ↓List.getElem?_cons_succ, ↓List.set_cons_zero, ↓List.set_cons_succ, ↓rInt, ↓rInt0, ↓rAddA, ↓rEqA, ↓rIsA, ↓rMax2A, ↓rMin2A, ↓rIntA, ↓rAbsA, bsel_true, bsel_false, wipeN, gNm, tYesA, ↓isNon, ↓isBlOf, ↓isI, ↓isB, ↓isS, ↓isT, ↓isL, Bool.or_false, Bool.or_true, Bool.false_or, Bool.true_or, ↓wList, ↓eLc, ↓rLenA, ↓sFor, ↓sWhile, ↓wRng1, ↓wRng2, ↓wTup, ↓wEnum, ↓eChain, ↓eListR1, ↓eLenSet, ↓eRev, ↓eInR, ↓eApp, ↓ePop, ↓eValue, ↓xDrop, ↓xRet, ↓xSet, ↓xCall, ↓xCallV, ↓sRaise, ↓eCallVL, ↓eLam3, startNF, Bool.not_true, Bool.not_false, Bool.false_eq_true, ↓reduceIte, Bool.not_not]); exact k
      | true =>
        rw [e3] at k
        obtain ⟨rs, rfl, k⟩ := k
        (try simp only [startN, List.map_cons, List.map_nil, List.length_cons, List.length_nil, Nat.reduceAdd, Nat.reduceSub, Nat.zero_add, Nat.sub_self, List.replicate_succ, List.replicate_zero, List.reduceReplicate, List.cons_append, List.nil_append, List.append_nil, ↓sRet, ↓sRetN, ↓sSeq, ↓sNil, ↓sIf, ↓sSet, ↓sPar, ↓sPar3, ↓sAsg, ↓sDrop, ↓sSetL, ↓eAnd, ↓eOr, ↓eNot, ↓eIf, ↓eNeg, ↓eCall, ↓eCallK, ↓eCallV, ↓lCons, ↓lNil, ↓eVar, ↓eC, ↓eTup, ↓eLst, ↓eLstC, ↓eOp, ↓eSl, ↓oNo, ↓oPart, ↓eBits, ↓tBool, ↓tAndA, ↓tOrA, ↓tNotA, ↓List.getElem?_cons_zero, ↓List.getElem?_cons_succ, ↓List.set_cons_zero, ↓List.set_cons_succ, ↓rInt, ↓rInt0, ↓rAddA, ↓rEqA, ↓rIsA, ↓rMax2A, ↓rMin2A, ↓rIntA, ↓rAbsA, bsel_true, bsel_false, wipeN, gNm, tYesA, ↓isNon, ↓isBlOf, ↓isI, ↓isB, ↓isS, ↓isT, ↓isL, Bool.or_false, Bool.or_true, Bool.false_or, Bool.true_or, ↓wList, ↓eLc, ↓rLenA, ↓sFor, ↓sWhile, ↓wRng1, ↓wRng2, ↓wTup, ↓wEnum, ↓eChain, ↓eListR1, ↓eLenSet, ↓eRev, ↓eInR, ↓eApp, ↓ePop, ↓eValue, ↓xDrop, ↓xRet, ↓xSet, ↓xCall, ↓xCallV, ↓sRaise, ↓eCallVL, ↓eLam3, startNF, Bool.not_true, Bool.not_false, Bool.false_eq_true, ↓reduceIte, Bool.not_not])
        obtain ⟨rs', e4, R, _⟩ := ring_rg e3
        obtain rfl : rs = rs' := by
          have := A.lst.inj e4
          exact List.map_inj_right (fun a b h => A.int.inj h) |>.mp this
        refine ⟨ws, ds, rs, rfl, e, deal_dl e2, R.bd, ?_, k⟩
        have := nd_le _ _ R.nd R.bd
        omega
/-! ### handed_on -/
abbrev s_handed_on : Stmt := topS 25
theorem sc_handed_on : FnScope ["worths", "deal", "ring", "found", "at", "person"] ["worths", "deal", "ring"] (defScope s_handed_on) := ⟨rfl, rfl, rfl, by decide +kernel, rfl, by decide +kernel, by decide +kernel⟩
theorem bd_handed_on (kV doc pm : Value) (an : Option Addr) (cdv ct : Value) (us : List Value) (hl : us.length = (["worths", "deal", "ring"] : List Str).length) : bindArgs (PySem.W.fnOf "handed_on" "handed_on" (defArgs s_handed_on) (defBody s_handed_on) (defScope s_handed_on) .none kV doc pm an cdv ct) ⟨us, []⟩ = pure ((["worths", "deal", "ring"] : List Str).zip us) :=
  match us, hl with | [_, _, _], _ => rfl
--len len_ring3
theorem got_handed_on {P : Program} {w : World} {K : PySem.W.Frag} {mg : Str → Option Value} {base : Heap} {f_InvalidDeal f_InvalidRing f_InvalidWorths f_RentError f_check_deal f_check_square f_handed_on f_is_ring_of : Addr} {Te : TabE} (B : Bi mg) (D : Def K mg "handed_on" s_handed_on f_handed_on) (G_check_square : GotX P w K mg base 5 ["worths"] "check_square" s_check_square f_check_square (sp_chk 7 sqW f_InvalidWorths)) (G_check_deal : GotX P w K mg base 5 ["size", "deal"] "check_deal" s_check_deal f_check_deal (sp_chkd f_InvalidDeal)) (G_is_ring_of : Got P w K mg base 4 ["size", "value"] "is_ring_of" s_is_ring_of f_is_ring_of sp_isr) (M_InvalidRing : mg "InvalidRing" = some (.ref f_InvalidRing)) (ET : ErrT P K mg f_RentError Te) (T_InvalidRing : Te f_InvalidRing = some "InvalidRing") :
    GotX P w K mg base (5 + 1) ["worths", "deal", "ring"] "handed_on" s_handed_on f_handed_on (sp_ring3 f_InvalidWorths f_InvalidDeal f_InvalidRing g_hand) := by
  refine gotx_of D sc_handed_on (len_ring3) (bd_handed_on) (fun cdv A0 outer s0_ H E hr tk hpo => ⟨_, (bx_cons (sx_expr (ex_call tk G_check_square (hr.mono (by omega)) (la_cons (ea_var 0) la_nil)))
      (bx_cons (sx_expr (ex_call tk G_check_deal (hr.mono (by omega)) (la_cons (ea_callB cx_len B.len_ (la_cons (ea_var 0) la_nil)) (la_cons (ea_var 1) la_nil))))
      (bx_cons (sx_if (tt_not (tt_val (ea_call G_is_ring_of (hr.mono (by omega)) (la_cons (ea_callB cx_len B.len_ (la_cons (ea_var 0) la_nil)) (la_cons (ea_var 2) la_nil))))) (bx_one (sx_raise (k := 0) tk ET T_InvalidRing (hr.mono (by omega)) (ea_var 2))) bx_nil)
      (bx_cons (sx_of (sa_set 3 sc_handed_on.nd (ea_callTy cx_listC B.list_ (la_cons (ea_var 1) la_nil))))
      (bx_cons (sx_of (sa_for hpo (ia_enum B.enumerate_ (ea_var 2)) (ga_tup 2 (gsa_cons (ga_name 4 sc_handed_on.nd) (gsa_cons (ga_name 5 sc_handed_on.nd) gsa_nil))) (sb_one (sa_setL (ea_ix (ea_var 1) (ea_var 5)) (ea_var 3) (ea_ix (ea_var 2) (ea_op oa_sub (ea_var 4) ea_int))))))
      (bx_one (sx_of (sa_ret (ea_var 3))))))))), fun as S P PE h => ?_⟩)
  obtain ⟨w, x, r, rfl, hk, hx, hr, hz, k⟩ := h
  (try simp only [startN, List.map_cons, List.map_nil, List.length_cons, List.length_nil, Nat.reduceAdd, Nat.reduceSub, Nat.zero_add, Nat.sub_self, List.replicate_succ, List.replicate_zero, List.reduceReplicate, List.cons_append, List.nil_append, List.append_nil, ↓sRet, ↓sRetN, ↓sSeq, ↓sNil, ↓sIf, ↓sSet, ↓sPar, ↓sPar3, ↓sAsg, ↓sDrop, ↓sSetL, ↓eAnd, ↓eOr, ↓eNot, ↓eIf, ↓eNeg, ↓eCall, ↓eCallK, ↓eCallV, ↓lCons, ↓lNil, ↓eVar, ↓eC, ↓eTup, ↓eLst, ↓eLstC, ↓eOp, ↓eSl, ↓oNo, ↓oPart, ↓eBits, ↓tBool, ↓tAndA, ↓tOrA, ↓tNotA, ↓List.getElem?_cons_zero, ↓List.getElem?_cons_succ, ↓List.set_cons_zero, ↓List.set_cons_succ, ↓rInt, ↓rInt0, ↓rAddA, ↓rEqA, ↓rIsA, ↓rMax2A, ↓rMin2A, ↓rIntA, ↓rAbsA, bsel_true, bsel_false, wipeN, gNm, tYesA, ↓isNon, ↓isBlOf, ↓isI, ↓isB, ↓isS, ↓isT, ↓isL, Bool.or_false, Bool.or_true, Bool.false_or, Bool.true_or, ↓wList, ↓eLc, ↓rLenA, ↓sFor, ↓sWhile, ↓wRng1, ↓wRng2, ↓wTup, ↓wEnum, ↓eChain, ↓eListR1, ↓eLenSet, ↓eRev, ↓eInR, ↓eApp, ↓ePop, ↓eValue, ↓xDrop, ↓xRet, ↓xSet, ↓xCall, ↓xCallV, ↓sRaise, ↓eCallVL, ↓eLam3, startNF, Bool.not_true, Bool.not_false, Bool.false_eq_true, ↓reduceIte, Bool.not_not])
  refine ⟨w, rfl, hk, ?_⟩
  cases e : sqW w with
  | false => rw [e] at k; (try simp only [startN, List.map_cons, List.map_nil, List.length_cons, List.length_nil, Nat.reduceAdd, Nat.reduceSub, Nat.zero_add, Nat.sub_self, List.replicate_succ, List.replicate_zero, List.reduceReplicate, List.cons_append, List.nil_append, List.append_nil, ↓sRet, ↓sRetN, ↓sSeq, ↓sNil, ↓sIf, ↓sSet, ↓sPar, ↓sPar3, ↓sAsg, ↓sDrop, ↓sSetL, ↓eAnd, ↓eOr, ↓eNot, ↓eIf, ↓eNeg, ↓eCall, ↓eCallK, ↓eCallV, ↓lCons, ↓lNil, ↓eVar, ↓eC, ↓eTup, ↓eLst, ↓eLstC, ↓eOp, ↓eSl, ↓oNo, ↓oPart, ↓eBits, ↓tBool, ↓tAndA, ↓tOrA, ↓tNotA, ↓List.getElem?_cons_zero, ↓List.getElem?_cons_succ, ↓List.set_cons_zero, ↓List.set_cons_succ, ↓rInt, ↓rInt0, ↓rAddA, ↓rEqA, ↓rIsA, ↓rMax2A, ↓rMin2A, ↓rIntA, ↓rAbsA, bsel_true, bsel_false, wipeN, gNm, tYesA, ↓isNon, ↓isBlOf, ↓isI, ↓isB, ↓isS, ↓isT, ↓isL, Bool.or_false, Bool.or_true, Bool.false_or, Bool.true_or, ↓wList, ↓eLc, ↓rLenA, ↓sFor, ↓sWhile, ↓wRng1, ↓wRng2, ↓wTup, ↓wEnum, ↓eChain, ↓eListR1, ↓eLenSet, ↓eRev, ↓eInR, ↓eApp, ↓ePop, ↓eValue, ↓xDrop, ↓xRet, ↓xSet, ↓xCall, ↓xCallV, ↓sRaise, ↓eCallVL, ↓eLam3, startNF, Bool.not_true, Bool.not_false, Bool.false_eq_true, ↓reduceIte, Bool.not_not]); exact k
  | true =>
    rw [e] at k
    obtain ⟨ws, rfl, k⟩ := k
    have hl := sq_len e
    (try simp only [startN, List.map_cons, List.map_nil, List.length_cons, List.length_nil, Nat.reduceAdd, Nat.reduceSub, Nat.zero_add, Nat.sub_self, List.replicate_succ, List.replicate_zero, List.reduceReplicate, List.cons_append, List.nil_append, List.append_nil, ↓sRet, ↓sRetN, ↓sSeq, ↓sNil, ↓sIf, ↓sSet, ↓sPar, ↓sPar3, ↓sAsg, ↓sDrop, ↓sSetL, ↓eAnd, ↓eOr, ↓eNot, ↓eIf, ↓eNeg, ↓eCall, ↓eCallK, ↓eCallV, ↓lCons, ↓lNil, ↓eVar, ↓eC, ↓eTup, ↓eLst, ↓eLstC, ↓eOp, ↓eSl, ↓oNo, ↓oPart, ↓eBits, ↓tBool, ↓tAndA, ↓tOrA, ↓tNotA, ↓List.getElem?_cons_zero, ↓List.getElem?_cons_succ, ↓List.set_cons_zero, ↓List.set_cons_succ, ↓rInt, ↓rInt0, ↓rAddA, ↓rEqA, ↓rIsA, ↓rMax2A, ↓rMin2A, ↓rIntA, ↓rAbsA, bsel_true, bsel_false, wipeN, gNm, tYesA, ↓isNon, ↓isBlOf, ↓isI, ↓isB, ↓isS, ↓isT, ↓isL, Bool.or_false, Bool.or_true, Bool.false_or, Bool.true_or, ↓wList, ↓eLc, ↓rLenA, ↓sFor, ↓sWhile, ↓wRng1, ↓wRng2, ↓wTup, ↓wEnum, ↓eChain, ↓eListR1, ↓eLenSet, ↓eRev, ↓eInR, ↓eApp, ↓ePop, ↓eValue, ↓xDrop, ↓xRet, ↓xSet, ↓xCall, ↓xCallV, ↓sRaise, ↓eCallVL, ↓eLam3, startNF, Bool.not_true, Bool.not_false, Bool.false_eq_true, ↓reduceIte, Bool.not_not])
    refine ⟨ws, rfl, x, ws.length, rfl, by omega, hx, ?_⟩
    cases e2 : dealA ws.length x with
    | false => rw [e2] at k; (try simp only [startN, List.map_cons, List.map_nil, List.length_cons, List.length_nil, Nat.reduceAdd, Nat.reduceSub, Nat.zero_add, Nat.sub_self, List.replicate_succ, List.replicate_zero, List.reduceReplicate, List.cons_append, List.nil_append, List.append_nil, ↓sRet, ↓sRetN, ↓sSeq, ↓sNil, ↓sIf, ↓sSet, ↓sPar, ↓sPar3, ↓sAsg, ↓sDrop, ↓sSetL, ↓eAnd, ↓eOr, ↓eNot, ↓eIf, ↓eNeg, ↓eCall, ↓eCallK, ↓eCallV, ↓lCons, ↓lNil, ↓eVar, ↓eC, ↓eTup, ↓eLst, ↓eLstC, ↓eOp, ↓eSl, ↓oNo, ↓oPart, ↓eBits, ↓tBool, ↓tAndA, ↓tOrA, ↓tNotA, ↓List.getElem?_cons_zero, ↓List.getElem?_cons_succ, ↓List.set_cons_zero, ↓List.set_cons_succ, ↓rInt, ↓rInt0, ↓rAddA, ↓rEqA, ↓rIsA, ↓rMax2A, ↓rMin2A, ↓rIntA, ↓rAbsA, bsel_true, bsel_false, wipeN, gNm, tYesA, ↓isNon, ↓isBlOf, ↓isI, ↓isB, ↓isS, ↓isT, ↓isL, Bool.or_false, Bool.or_true, Bool.false_or, Bool.true_or, ↓wList, ↓eLc, ↓rLenA, ↓sFor, ↓sWhile, ↓wRng1, ↓wRng2, ↓wTup, ↓wEnum, ↓eChain, ↓eListR1, ↓eLenSet, ↓eRev, ↓eInR, ↓eApp, ↓ePop, ↓eValue, ↓xDrop, ↓xRet, ↓xSet, ↓xCall, ↓xCallV, ↓sRaise, ↓eCallVL, ↓eLam3, startNF, Bool.not_true, Bool.not_false, Bool.false_eq_true, ↓reduceIte, Bool.not_not]); exact k
    | true =>
      rw [e2] at k
      obtain ⟨ds, rfl, k⟩ := k
      (try simp only [startN, List.map_cons, List.map_nil, List.length_cons, List.length_nil, Nat.reduceAdd, Nat.reduceSub, Nat.zero_add, Nat.sub_self, List.replicate_succ, List.replicate_zero, List.reduceReplicate, List.cons_append, List.nil_append, List.append_nil, ↓sRet, ↓sRetN, ↓sSeq, ↓sNil, ↓sIf, ↓sSet, ↓sPar, ↓sPar3, ↓sAsg, ↓sDrop, ↓sSetL, ↓eAnd, ↓eOr, ↓eNot, ↓eIf, ↓eNeg, ↓eCall, ↓eCallK, ↓eCallV, ↓lCons, ↓lNil, ↓eVar, ↓eC, ↓eTup, ↓eLst, ↓eLstC, ↓eOp, ↓eSl, ↓oNo, ↓oPart, ↓eBits, ↓tBool, ↓tAndA, ↓tOrA, ↓tNotA, ↓List.getElem?_cons_zero, ↓List.getElem?_cons_succ, ↓List.set_cons_zero, ↓List.set_cons_succ, ↓rInt, ↓rInt0, ↓rAddA, ↓rEqA, ↓rIsA, ↓rMax2A, ↓rMin2A, ↓rIntA, ↓rAbsA, bsel_true, bsel_false, wipeN, gNm, tYesA, ↓isNon, ↓isBlOf, ↓isI, ↓isB, ↓isS, ↓isT, ↓isL, Bool.or_false, Bool.or_true, Bool.false_or, Bool.true_or, ↓wList, ↓eLc, ↓rLenA, ↓sFor, ↓sWhile, ↓wRng1, ↓wRng2, ↓wTup, ↓wEnum, ↓eChain, ↓eListR1, ↓eLenSet, ↓eRev, ↓eInR, ↓eApp, ↓ePop, ↓eValue, ↓xDrop, ↓xRet, ↓xSet, ↓xCall, ↓xCallV, ↓sRaise, ↓eCallVL, ↓eLam3, startNF, Bool.not_true, Bool.not_false, Bool.false_eq_true, ↓reduceIte, Bool.not_not])
      refine ⟨ws, rfl, r, ws.length, rfl, hr, hz, ?_⟩
      cases e3 : ringA ws.length r with
      | false => rw [e3] at k; (try simp only [startN, List.map_cons, List.map_nil, List.length_cons, List.length_nil, Nat.reduceAdd, Nat.reduceSub, Nat.zero_add, Nat.sub_self, List.replicate_succ, List.replicate_zero, List.reduceReplicate, List.cons_append, List.nil_append, List.append_nil, ↓sRet, ↓sRetN, ↓sSeq, ↓sNil, ↓sIf, ↓sSet, ↓sPar, ↓sPar3, ↓sAsg, ↓sDrop, ↓sSetL, ↓eAnd, ↓eOr, ↓eNot, ↓eIf, ↓eNeg, ↓eCall, ↓eCallK, ↓eCallV, ↓lCons, ↓lNil, ↓eVar, ↓eC, ↓eTup, ↓eLst, ↓eLstC, ↓eOp, ↓eSl, ↓oNo, ↓oPart, ↓eBits, ↓tBool, ↓tAndA, ↓tOrA, ↓tNotA, ↓List.getElem?_cons_zero, ↓List.getElem?_cons_succ, ↓List.set_cons_zero, ↓List.set_cons_succ, ↓rInt, ↓rInt0, ↓rAddA, ↓rEqA, ↓rIsA, ↓rMax2A, ↓rMin2A, ↓rIntA, ↓rAbsA, bsel_true, bsel_false, wipeN, gNm, tYesA, ↓isNon, ↓isBlOf, ↓isI, ↓isB, ↓isS, ↓isT, ↓isL, Bool.or_false, Bool.or_true, Bool.false_or, Bool.true_or, ↓wList, ↓eLc, ↓rLenA, ↓sFor, ↓sWhile, ↓wRng1, ↓wRng2, ↓wTup, ↓wEnum, ↓eChain, ↓eListR1, ↓eLenSet, ↓eRev, ↓eInR, ↓eApp, ↓ePop, ↓eValue, ↓xDrop, ↓xRet, ↓xSet, ↓xCall, ↓xCallV, ↓sRaise, ↓eCallVL, ↓eLam3, startNF, Bool.not_true, Bool.not_false, Bool.false_eq_true, ↓reduceIte, Bool.not_not]); exact k
      | true =>
        rw [e3] at k
        obtain ⟨rs, rfl, k⟩ := k
        (try simp only [startN, List.map_cons, List.map_nil, List.length_cons, List.length_nil, Nat.reduceAdd, Nat.reduceSub, Nat.zero_add, Nat.sub_self, List.replicate_succ, List.replicate_zero, List.reduceReplicate, List.cons_append, List.nil_append, List.append_nil, ↓sRet, ↓sRetN, ↓sSeq, ↓sNil, ↓sIf, ↓sSet, ↓sPar, ↓sPar3, ↓sAsg, ↓sDrop, ↓sSetL, ↓eAnd, ↓eOr, ↓eNot, ↓eIf, ↓eNeg, ↓eCall, ↓eCallK, ↓eCallV, ↓lCons, ↓lNil, ↓eVar, ↓eC, ↓eTup, ↓eLst, ↓eLstC, ↓eOp, ↓eSl, ↓oNo, ↓oPart, ↓eBits, ↓tBool, ↓tAndA, ↓tOrA, ↓tNotA, ↓List.getElem?_cons_zero, ↓List.getElem?_cons_succ, ↓List.set_cons_zero, ↓List.set_cons_succ, ↓rInt, ↓rInt0, ↓rAddA, ↓rEqA, ↓rIsA, ↓rMax2A, ↓rMin2A, ↓rIntA, ↓rAbsA, bsel_true, bsel_false, wipeN, gNm, tYesA, ↓isNon, ↓isBlOf, ↓isI, ↓isB, ↓isS, ↓isT, ↓isL, Bool.or_false, Bool.or_true, Bool.false_or, Bool.true_or, ↓wList, ↓eLc, ↓rLenA, ↓sFor, ↓sWhile, ↓wRng1, ↓wRng2, ↓wTup, ↓wEnum, ↓eChain, ↓eListR1, ↓eLenSet, ↓eRev, ↓eInR, ↓eApp, ↓ePop, ↓eValue, ↓xDrop, ↓xRet, ↓xSet, ↓xCall, ↓xCallV, ↓sRaise, ↓eCallVL, ↓eLam3, startNF, Bool.not_true, Bool.not_false, Bool.false_eq_true, ↓reduceIte, Bool.not_not])
        obtain ⟨rs', e4, R, _⟩ := ring_rg e3
        obtain rfl : rs = rs' := by
          have := A.lst.inj e4
          exact List.map_inj_right (fun a b h => A.int.inj h) |>.mp this
        have d := deal_dl e2
        have hrl := nd_le _ _ R.nd R.bd
        refine ⟨ds.map .int, rfl, fun p hp => ?_⟩
        refine ⟨rs.map .int, rfl, fun i nv S' => S' = sup S p (.lst ((setAll (handL ds rs i) ds).map .int)) ∧ ∃ v4 v5, nv = [some (.lst ws), some (.lst (ds.map .int)), some (.lst (rs.map .int)), some (.ref p), v4, v5], ⟨rfl, _, _, rfl⟩, fun _ _ _ _ _ => rfl, ?_, ?_⟩
        · rintro i y nv S' hy ⟨rfl, v4, v5, rfl⟩
          obtain ⟨hi, rfl⟩ := enum_ints hy
          have b1 := R.bd _ (Lay.getD_mem hi)
          have b2 := R.bd _ (prv_mem hi)
          refine ⟨rfl, ?_⟩
          simp only [gsCons, gsNil, gNm]
          (try simp only [startN, List.map_cons, List.map_nil, List.length_cons, List.length_nil, Nat.reduceAdd, Nat.reduceSub, Nat.zero_add, Nat.sub_self, List.replicate_succ, List.replicate_zero, List.reduceReplicate, List.cons_append, List.nil_append, List.append_nil, ↓sRet, ↓sRetN, ↓sSeq, ↓sNil, ↓sIf, ↓sSet, ↓sPar, ↓sPar3, ↓sAsg, ↓sDrop, ↓sSetL, ↓eAnd, ↓eOr, ↓eNot, ↓eIf, ↓eNeg, ↓eCall, ↓eCallK, ↓eCallV, ↓lCons, ↓lNil, ↓eVar, ↓eC, ↓eTup, ↓eLst, ↓eLstC, ↓eOp, ↓eSl, ↓oNo, ↓oPart, ↓eBits, ↓tBool, ↓tAndA, ↓tOrA, ↓tNotA, ↓List.getElem?_cons_zero, ↓List.getElem?_cons_succ, ↓List.set_cons_zero, ↓List.set_cons_succ, ↓rInt, ↓rInt0, ↓rAddA, ↓rEqA, ↓rIsA, ↓rMax2A, ↓rMin2A, ↓rIntA, ↓rAbsA, bsel_true, bsel_false, wipeN, gNm, tYesA, ↓isNon, ↓isBlOf, ↓isI, ↓isB, ↓isS, ↓isT, ↓isL, Bool.or_false, Bool.or_true, Bool.false_or, Bool.true_or, ↓wList, ↓eLc, ↓rLenA, ↓sFor, ↓sWhile, ↓wRng1, ↓wRng2, ↓wTup, ↓wEnum, ↓eChain, ↓eListR1, ↓eLenSet, ↓eRev, ↓eInR, ↓eApp, ↓ePop, ↓eValue, ↓xDrop, ↓xRet, ↓xSet, ↓xCall, ↓xCallV, ↓sRaise, ↓eCallVL, ↓eLam3, startNF, Bool.not_true, Bool.not_false, Bool.false_eq_true, ↓reduceIte, Bool.not_not])
          refine ⟨_, _, rfl, atI_int b1.1 (by rw [d.len]; exact b1.2), _, _, rfl, atI_prv hi, _, (prv rs i).toNat, sup_same, ixN_in b2.1 (by rw [List.length_map, setAll_len, d.len]; exact b2.2), ?_, _, _, rfl⟩
          rw [sup_sup, handL_succ, List.map_set]
        · rintro nv S' ⟨rfl, v4, v5, rfl⟩
          rw [enumA_len, List.length_map]
          exact k p hp
/-! ### _law_handed -/
abbrev s__law_handed : Stmt := topS 51
theorem sc__law_handed : FnScope ["deal", "ring", "found", "at"] ["deal", "ring"] (defScope s__law_handed) := ⟨rfl, rfl, rfl, by decide +kernel, rfl, by decide +kernel, by decide +kernel⟩
theorem bd__law_handed (kV doc pm : Value) (an : Option Addr) (cdv ct : Value) (us : List Value) (hl : us.length = (["deal", "ring"] : List Str).length) : bindArgs (PySem.W.fnOf "_law_handed" "_law_handed" (defArgs s__law_handed) (defBody s__law_handed) (defScope s__law_handed) .none kV doc pm an cdv ct) ⟨us, []⟩ = pure ((["deal", "ring"] : List Str).zip us) :=
  match us, hl with | [_, _], _ => rfl
def sp_handed0 : SpA := fun as S P => ∃ (n : Nat) (ds rs : List Int), as = [.lst (ds.map .int), .lst (rs.map .int)] ∧ n ≤ 1000 ∧ ds.length = n ∧ Rg n rs ∧ ∀ p, S p = none → P (.ref p) (sup S p (.lst ((handA ds rs).map .int)))
--len by rintro as S P ⟨_, _, _, rfl, _⟩; rfl
theorem got__law_handed {P : Program} {w : World} {K : PySem.W.Frag} {mg : Str → Option Value} {base : Heap} {f__law_handed : Addr} (B : Bi mg) (D : Def K mg "_law_handed" s__law_handed f__law_handed) :
    Got P w K mg base (0 + 1) ["deal", "ring"] "_law_handed" s__law_handed f__law_handed sp_handed0 := by
  refine got_of D sc__law_handed (by rintro as S P ⟨_, _, _, rfl, _⟩; rfl) (bd__law_handed) (fun cdv A0 outer s0_ H E hr => ⟨_, (sb_cons (sa_set 2 sc__law_handed.nd (ea_callTy cx_listC B.list_ (la_cons (ea_var 0) la_nil)))
      (sb_cons (sa_for PassesOwn.never (ia_rng1 B.range_ (la_cons (ea_callB cx_len B.len_ (la_cons (ea_var 1) la_nil)) la_nil)) (ga_name 3 sc__law_handed.nd) (sb_one (sa_setL (ea_ix (ea_var 0) (ea_ix (ea_var 1) (ea_var 3))) (ea_var 2) (ea_ix (ea_var 1) (ea_op oa_sub (ea_var 3) ea_int)))))
      (sb_one (sa_ret (ea_var 2))))), fun as S P h => ?_⟩)
  obtain ⟨n, ds, rs, rfl, hn, hd, R, k⟩ := h
  have hrl := nd_le _ _ R.nd R.bd
  (try simp only [startN, List.map_cons, List.map_nil, List.length_cons, List.length_nil, Nat.reduceAdd, Nat.reduceSub, Nat.zero_add, Nat.sub_self, List.replicate_succ, List.replicate_zero, List.reduceReplicate, List.cons_append, List.nil_append, List.append_nil, ↓sRet, ↓sRetN, ↓sSeq, ↓sNil, ↓sIf, ↓sSet, ↓sPar, ↓sPar3, ↓sAsg, ↓sDrop, ↓sSetL, ↓eAnd, ↓eOr, ↓eNot, ↓eIf, ↓eNeg, ↓eCall, ↓eCallK, ↓eCallV, ↓lCons, ↓lNil, ↓eVar, ↓eC, ↓eTup, ↓eLst, ↓eLstC, ↓eOp, ↓eSl, ↓oNo, ↓oPart, ↓eBits, ↓tBool, ↓tAndA, ↓tOrA, ↓tNotA, ↓List.getElem?_cons_zero, ↓List.getElem?_cons_succ, ↓List.set_cons_zero, ↓List.set_cons_succ, ↓rInt, ↓rInt0, ↓rAddA, ↓rEqA, ↓rIsA, ↓rMax2A, ↓rMin2A, ↓rIntA, ↓rAbsA, bsel_true, bsel_false, wipeN, gNm, tYesA, ↓isNon, ↓isBlOf, ↓isI, ↓isB, ↓isS, ↓isT, ↓isL, Bool.or_false, Bool.or_true, Bool.false_or, Bool.true_or, ↓wList, ↓eLc, ↓rLenA, ↓sFor, ↓sWhile, ↓wRng1, ↓wRng2, ↓wTup, ↓wEnum, ↓eChain, ↓eListR1, ↓eLenSet, ↓eRev, ↓eInR, ↓eApp, ↓ePop, ↓eValue, ↓xDrop, ↓xRet, ↓xSet, ↓xCall, ↓xCallV, ↓sRaise, ↓eCallVL, ↓eLam3, startNF, Bool.not_true, Bool.not_false, Bool.false_eq_true, ↓reduceIte, Bool.not_not])
  refine ⟨ds.map .int, rfl, fun p hp => ?_⟩
  refine ⟨rs.map .int, rfl, ?_⟩
  simp only [List.length_map, Int.toNat_natCast]
  refine ⟨⟨by omega, by omega⟩, fun i nv S' => S' = sup S p (.lst ((setAll (handL ds rs i) ds).map .int)) ∧ ∃ v3, nv = [some (.lst (ds.map .int)), some (.lst (rs.map .int)), some (.ref p), v3], ⟨rfl, _, rfl⟩, fun _ _ _ _ _ => trivial, ?_, ?_⟩
  · rintro i y nv S' hy ⟨rfl, v3, rfl⟩
    obtain ⟨hi, rfl⟩ := rngA_at hy
    have b1 := R.bd _ (Lay.getD_mem hi)
    have b2 := R.bd _ (prv_mem hi)
    (try simp only [startN, List.map_cons, List.map_nil, List.length_cons, List.length_nil, Nat.reduceAdd, Nat.reduceSub, Nat.zero_add, Nat.sub_self, List.replicate_succ, List.replicate_zero, List.reduceReplicate, List.cons_append, List.nil_append, List.append_nil, ↓sRet, ↓sRetN, ↓sSeq, ↓sNil, ↓sIf, ↓sSet, ↓sPar, ↓sPar3, ↓sAsg, ↓sDrop, ↓sSetL, ↓eAnd, ↓eOr, ↓eNot, ↓eIf, ↓eNeg, ↓eCall, ↓eCallK, ↓eCallV, ↓lCons, ↓lNil, ↓eVar, ↓eC, ↓eTup, ↓eLst, ↓eLstC, ↓eOp, ↓eSl, ↓oNo, ↓oPart, ↓eBits, ↓tBool, ↓tAndA, ↓tOrA, ↓tNotA, ↓List.getElem?_cons_zero, ↓List.getElem?_cons_succ, ↓List.set_cons_zero, ↓List.set_cons_succ, ↓rInt, ↓rInt0, ↓rAddA, ↓rEqA, ↓rIsA, ↓rMax2A, ↓rMin2A, ↓rIntA, ↓rAbsA, bsel_true, bsel_false, wipeN, gNm, tYesA, ↓isNon, ↓isBlOf, ↓isI, ↓isB, ↓isS, ↓isT, ↓isL, Bool.or_false, Bool.or_true, Bool.false_or, Bool.true_or, ↓wList, ↓eLc, ↓rLenA, ↓sFor, ↓sWhile, ↓wRng1, ↓wRng2, ↓wTup, ↓wEnum, ↓eChain, ↓eListR1, ↓eLenSet, ↓eRev, ↓eInR, ↓eApp, ↓ePop, ↓eValue, ↓xDrop, ↓xRet, ↓xSet, ↓xCall, ↓xCallV, ↓sRaise, ↓eCallVL, ↓eLam3, startNF, Bool.not_true, Bool.not_false, Bool.false_eq_true, ↓reduceIte, Bool.not_not])
    rw [Int.zero_add]
    refine ⟨_, _, rfl, atI_int (by omega) (by omega), _, _, rfl, atI_int b1.1 (by rw [hd]; exact b1.2), _, _, rfl, atI_prv hi, _, (prv rs i).toNat, sup_same, ixN_in b2.1 (by rw [List.length_map, setAll_len, hd]; exact b2.2), ?_, _, rfl⟩
    rw [sup_sup, handL_succ, List.map_set]
    rfl
  · rintro nv S' ⟨rfl, v3, rfl⟩
    rw [rngA_len]
    exact k p hp
/-- rings as data -/
def ringsA (f : List (List Int)) : List A := f.map fun r => .lst (r.map .int)
def sp_cycles0 : SpA := fun as S P => ∃ (n : Nat) (ds os : List Int), as = [.lst (ds.map .int), .lst (os.map .int)] ∧ n ≤ 1000 ∧ Dl n ds ∧ Dl n os ∧ ∀ p, S p = none → P (.ref p) (sup S p (.lst (ringsA (rgs n ds os n).1)))
theorem rgs_new {n : Nat} {ds os : List Int} {i : Nat} (h : (i : Int) ∉ (rgs n ds os i).2) : rgs n ds os (i + 1) = (if 1 < per n ds os (i : Nat) then (rgs n ds os i).1 ++ [rg n ds os (i : Nat)] else (rgs n ds os i).1, (rgs n ds os i).2 ++ rg n ds os (i : Nat)) := by
  show outer n ds os (rgs n ds os i) (i : Nat) = _
  unfold outer
  rw [if_neg h]
theorem rgs_old {n : Nat} {ds os : List Int} {i : Nat} (h : (i : Int) ∈ (rgs n ds os i).2) : rgs n ds os (i + 1) = rgs n ds os i := by
  show outer n ds os (rgs n ds os i) (i : Nat) = _
  unfold outer
  rw [if_pos h]
theorem rgs_len {n : Nat} {ds os : List Int} (d : Dl n ds) (o : Dl n os) {i : Nat} (hi : i ≤ n) : (rgs n ds os i).2.length ≤ n ∧ (rgs n ds os i).1.length ≤ n := by
  have R := rgs_ok d o i hi
  refine ⟨nd_le _ _ R.nd R.bd, ?_⟩
  have h1 := nd_le _ _ R.fn fun x hx => R.bd x (R.fs x hx)
  have : ∀ f : List (List Int), (∀ r ∈ f, 2 ≤ r.length) → f.length ≤ f.flatten.length := by
    intro f
    induction f with
    | nil => exact fun _ => Nat.le_refl _
    | cons r f ih =>
      intro h
      have := ih fun r' h' => h r' (List.mem_cons_of_mem _ h')
      have := h r List.mem_cons_self
      rw [List.flatten_cons, List.length_append, List.length_cons]
      omega
  exact Nat.le_trans (this _ fun r hr => (R.rg r hr).2.2.1) h1
theorem it_mem {n : Nat} {ds os : List Int} (d : Dl n ds) (o : Dl n os) {p : Int} (h : 0 ≤ p ∧ p < (n : Int)) : os.getD p.toNat 0 ∈ ds := d.sur (o.at_ h.1 h.2).1 (o.at_ h.1 h.2).2
theorem orb_last (ds os : List Int) (p : Int) (j : Nat) : atI ((orb ds os p (j + 1)).map A.int) (-1) = some (.int (it ds os p j)) := by
  rw [orb_succ, List.map_append]
  exact atI_last
theorem lstr_sup {S : Sto} {q : Addr} {xs : List A} : lstr (sup S q (.lst xs)) (.ref q) = some xs := by simp only [lstr, sup_same]
theorem lstv_sup {S : Sto} {q : Addr} {xs : List A} : lstv (sup S q (.lst xs)) (.ref q) = some xs := by simp only [lstv, sup_same]
def f1 (q : Addr) (ys : List A) : Addr → Option (List A) := fun b => if b = q then some ys else none
theorem f1_some {q b : Addr} {ys zs : List A} (h : f1 q ys b = some zs) : b = q ∧ zs = ys := by
  unfold f1 at h
  split at h
  · rename_i e
    exact ⟨e, (Option.some.inj h).symm⟩
  · cases h
theorem unf_ref {q : Addr} {ys : List A} : unfA (f1 q ys) (.ref q) = .lst ys := by simp [unfA, f1]
theorem unfs_ints (f : Addr → Option (List A)) : ∀ ns : List Int, unfAs f (ns.map A.int) = ns.map A.int
  | [] => by simp only [List.map_nil, unfAs]
  | n :: ns => by simp only [List.map_cons, unfAs, unfA, unfs_ints f ns]
theorem unfs_rings (f : Addr → Option (List A)) : ∀ rs : List (List Int), unfAs f (ringsA rs) = ringsA rs
  | [] => by simp only [ringsA, List.map_nil, unfAs]
  | r :: rs => by
    have ih := unfs_rings f rs
    simp only [ringsA, List.map_cons, unfAs, unfA, unfs_ints] at ih ⊢
    rw [ih]
theorem unfs_app (f : Addr → Option (List A)) : ∀ xs ys : List A, unfAs f (xs ++ ys) = unfAs f xs ++ unfAs f ys
  | [], ys => by simp only [List.nil_append, unfAs]
  | x :: xs, ys => by simp only [List.cons_append, unfAs, unfs_app f xs ys]
theorem melt_drop {S0 : Sto} {q : Addr} {ys : List A} (hq : S0 q = none) : meltS (f1 q ys) (sup S0 q (.lst ys)) S0 := by
  refine ⟨fun b zs h => ?_, fun b zs h => ?_, fun b c h => .inl ?_⟩
  · obtain ⟨rfl, rfl⟩ := f1_some h
    exact sup_same
  · obtain ⟨rfl, rfl⟩ := f1_some h
    exact hq
  · rw [sup_ne]
    · exact h
    · exact fun e => by rw [e, hq] at h; cases h
theorem melt_push {S0 : Sto} {p q : Addr} {F : List (List Int)} {ys : List A} (hp : S0 p = none) (hq : sup S0 p (.lst (ringsA F)) q = none) : meltS (f1 q ys) (sup (sup (sup S0 p (.lst (ringsA F))) q (.lst ys)) p (.lst (ringsA F ++ [.ref q]))) (sup S0 p (.lst (ringsA F ++ [.lst ys]))) := by
  have hqp : q ≠ p := fun e => by rw [e, sup_same] at hq; cases hq
  rw [sup_ne hqp] at hq
  refine ⟨fun b zs h => ?_, fun b zs h => ?_, fun b c h => ?_⟩
  · obtain ⟨rfl, rfl⟩ := f1_some h
    rw [sup_ne hqp, sup_same]
  · obtain ⟨rfl, rfl⟩ := f1_some h
    rw [sup_ne hqp]
    exact hq
  · by_cases hb : b = p
    · subst hb
      rw [sup_same] at h
      cases h
      refine .inr ⟨_, sup_same, ?_⟩
      rw [unfs_app, unfs_rings]
      simp only [unfAs, unf_ref]
    · rw [sup_ne hb] at h
      refine .inl ?_
      rw [sup_ne hb]
      by_cases hbq : b = q
      · rw [hbq, hq] at h
        cases h
      · rw [sup_ne hbq, sup_ne hb]
        exact h
/-! ### cycles_between -/
abbrev s_cycles_between : Stmt := topS 21
theorem sc_cycles_between : FnScope ["deal", "other_deal", "found", "seen", "person", "ring"] ["deal", "other_deal"] (defScope s_cycles_between) := ⟨rfl, rfl, rfl, by decide +kernel, rfl, by decide +kernel, by decide +kernel⟩
theorem bd_cycles_between (kV doc pm : Value) (an : Option Addr) (cdv ct : Value) (us : List Value) (hl : us.length = (["deal", "other_deal"] : List Str).length) : bindArgs (PySem.W.fnOf "cycles_between" "cycles_between" (defArgs s_cycles_between) (defBody s_cycles_between) (defScope s_cycles_between) .none kV doc pm an cdv ct) ⟨us, []⟩ = pure ((["deal", "other_deal"] : List Str).zip us) :=
  match us, hl with | [_, _], _ => rfl
--len by rintro as S P ⟨_, _, _, rfl, _⟩; rfl
theorem got_cycles_between {P : Program} {w : World} {K : PySem.W.Frag} {mg : Str → Option Value} {base : Heap} {f_cycles_between : Addr} (B : Bi mg) (D : Def K mg "cycles_between" s_cycles_between f_cycles_between) :
    Got P w K mg base (0 + 1) ["deal", "other_deal"] "cycles_between" s_cycles_between f_cycles_between sp_cycles0 := by
  refine got_of D sc_cycles_between (by rintro as S P ⟨_, _, _, rfl, _⟩; rfl) (bd_cycles_between) (fun cdv A0 outer s0_ H E hr => ⟨_, (sb_cons (sa_set 2 sc_cycles_between.nd (ea_lstC la_nil))
      (sb_cons (sa_set 3 sc_cycles_between.nd (ea_lst la_nil))
      (sb_cons (sa_for PassesOwn.never (ia_rng1 B.range_ (la_cons (ea_callB cx_len B.len_ (la_cons (ea_var 0) la_nil)) la_nil)) (ga_name 4 sc_cycles_between.nd) (sb_wrap (sb_one (sa_if (tt_cmp (oa_notIn (Lay.Room.units65 hr)) (ea_var 4) (ea_var 3)) (sb_cons (sa_set 5 sc_cycles_between.nd (ea_lstC (la_cons (ea_var 4) la_nil)))
      (sb_cons (sa_while PassesOwn.never (tt_cmp (oa_ne hr.units) (ea_index (ea_var 0) (ea_ix (ea_var 1) (ea_ix (ea_var 5) (ea_neg ea_int)))) (ea_var 4)) (sb_wrap (sb_one (sa_expr (ea_append (ea_var 5) (ea_index (ea_var 0) (ea_ix (ea_var 1) (ea_ix (ea_var 5) (ea_neg ea_int)))))))))
      (sb_cons (sa_set 3 sc_cycles_between.nd (ea_op oa_add (ea_var 3) (ea_var 5)))
      (sb_cons (sa_if (tt_cmp oa_gt (ea_callB cx_len B.len_ (la_cons (ea_var 5) la_nil)) ea_int) (sb_one (sa_expr (ea_append (ea_var 2) (ea_var 5)))) sb_nil) sb_melt)))) sb_nil))))
      (sb_one (sa_ret (ea_var 2)))))), fun as S P h => ?_⟩)
  obtain ⟨n, ds, os, rfl, hn, d, o, k⟩ := h
  (try simp only [startN, List.map_cons, List.map_nil, List.length_cons, List.length_nil, Nat.reduceAdd, Nat.reduceSub, Nat.zero_add, Nat.sub_self, List.replicate_succ, List.replicate_zero, List.reduceReplicate, List.cons_append, List.nil_append, List.append_nil, ↓sRet, ↓sRetN, ↓sSeq, ↓sNil, ↓sIf, ↓sSet, ↓sPar, ↓sPar3, ↓sAsg, ↓sDrop, ↓sSetL, ↓eAnd, ↓eOr, ↓eNot, ↓eIf, ↓eNeg, ↓eCall, ↓eCallK, ↓eCallV, ↓lCons, ↓lNil, ↓eVar, ↓eC, ↓eTup, ↓eLst, ↓eLstC, ↓eOp, ↓eSl, ↓oNo, ↓oPart, ↓eBits, ↓tBool, ↓tAndA, ↓tOrA, ↓tNotA, ↓List.getElem?_cons_zero, ↓List.getElem?_cons_succ, ↓List.set_cons_zero, ↓List.set_cons_succ, ↓rInt, ↓rInt0, ↓rAddA, ↓rEqA, ↓rIsA, ↓rMax2A, ↓rMin2A, ↓rIntA, ↓rAbsA, bsel_true, bsel_false, wipeN, gNm, tYesA, ↓isNon, ↓isBlOf, ↓isI, ↓isB, ↓isS, ↓isT, ↓isL, Bool.or_false, Bool.or_true, Bool.false_or, Bool.true_or, ↓wList, ↓eLc, ↓rLenA, ↓sFor, ↓sWhile, ↓wRng1, ↓wRng2, ↓wTup, ↓wEnum, ↓eChain, ↓eListR1, ↓eLenSet, ↓eRev, ↓eInR, ↓eApp, ↓ePop, ↓eValue, ↓xDrop, ↓xRet, ↓xSet, ↓xCall, ↓xCallV, ↓sRaise, ↓eCallVL, ↓eLam3, startNF, Bool.not_true, Bool.not_false, Bool.false_eq_true, ↓reduceIte, Bool.not_not])
  intro p hp
  refine ⟨_, rfl, ?_⟩
  simp only [List.length_map, Int.toNat_natCast, d.len]
  refine ⟨⟨by omega, by omega⟩, fun i nv S' => S' = sup S p (.lst (ringsA (rgs n ds os i).1)) ∧ ∃ v4 v5, nv = [some (.lst (ds.map .int)), some (.lst (os.map .int)), some (.ref p), some (.lst ((rgs n ds os i).2.map .int)), v4, v5], ⟨rfl, _, _, rfl⟩, fun _ _ _ _ _ => trivial, ?_, ?_⟩
  · rintro i y nv S' hy ⟨rfl, v4, v5, rfl⟩
    obtain ⟨hi, rfl⟩ := rngA_at hy
    have hb : 0 ≤ ((i : Nat) : Int) ∧ ((i : Nat) : Int) < (n : Int) := by omega
    rw [sWrap_eq]
    simp only [Int.zero_add]
    obtain ⟨l1, l2⟩ := rgs_len d o (i := i) (by omega)
    (try simp only [startN, List.map_cons, List.map_nil, List.length_cons, List.length_nil, Nat.reduceAdd, Nat.reduceSub, Nat.zero_add, Nat.sub_self, List.replicate_succ, List.replicate_zero, List.reduceReplicate, List.cons_append, List.nil_append, List.append_nil, ↓sRet, ↓sRetN, ↓sSeq, ↓sNil, ↓sIf, ↓sSet, ↓sPar, ↓sPar3, ↓sAsg, ↓sDrop, ↓sSetL, ↓eAnd, ↓eOr, ↓eNot, ↓eIf, ↓eNeg, ↓eCall, ↓eCallK, ↓eCallV, ↓lCons, ↓lNil, ↓eVar, ↓eC, ↓eTup, ↓eLst, ↓eLstC, ↓eOp, ↓eSl, ↓oNo, ↓oPart, ↓eBits, ↓tBool, ↓tAndA, ↓tOrA, ↓tNotA, ↓List.getElem?_cons_zero, ↓List.getElem?_cons_succ, ↓List.set_cons_zero, ↓List.set_cons_succ, ↓rInt, ↓rInt0, ↓rAddA, ↓rEqA, ↓rIsA, ↓rMax2A, ↓rMin2A, ↓rIntA, ↓rAbsA, bsel_true, bsel_false, wipeN, gNm, tYesA, ↓isNon, ↓isBlOf, ↓isI, ↓isB, ↓isS, ↓isT, ↓isL, Bool.or_false, Bool.or_true, Bool.false_or, Bool.true_or, ↓wList, ↓eLc, ↓rLenA, ↓sFor, ↓sWhile, ↓wRng1, ↓wRng2, ↓wTup, ↓wEnum, ↓eChain, ↓eListR1, ↓eLenSet, ↓eRev, ↓eInR, ↓eApp, ↓ePop, ↓eValue, ↓xDrop, ↓xRet, ↓xSet, ↓xCall, ↓xCallV, ↓sRaise, ↓eCallVL, ↓eLam3, startNF, Bool.not_true, Bool.not_false, Bool.false_eq_true, ↓reduceIte, Bool.not_not])
    refine rIn_ints rfl ?_
    (try simp only [startN, List.map_cons, List.map_nil, List.length_cons, List.length_nil, Nat.reduceAdd, Nat.reduceSub, Nat.zero_add, Nat.sub_self, List.replicate_succ, List.replicate_zero, List.reduceReplicate, List.cons_append, List.nil_append, List.append_nil, ↓sRet, ↓sRetN, ↓sSeq, ↓sNil, ↓sIf, ↓sSet, ↓sPar, ↓sPar3, ↓sAsg, ↓sDrop, ↓sSetL, ↓eAnd, ↓eOr, ↓eNot, ↓eIf, ↓eNeg, ↓eCall, ↓eCallK, ↓eCallV, ↓lCons, ↓lNil, ↓eVar, ↓eC, ↓eTup, ↓eLst, ↓eLstC, ↓eOp, ↓eSl, ↓oNo, ↓oPart, ↓eBits, ↓tBool, ↓tAndA, ↓tOrA, ↓tNotA, ↓List.getElem?_cons_zero, ↓List.getElem?_cons_succ, ↓List.set_cons_zero, ↓List.set_cons_succ, ↓rInt, ↓rInt0, ↓rAddA, ↓rEqA, ↓rIsA, ↓rMax2A, ↓rMin2A, ↓rIntA, ↓rAbsA, bsel_true, bsel_false, wipeN, gNm, tYesA, ↓isNon, ↓isBlOf, ↓isI, ↓isB, ↓isS, ↓isT, ↓isL, Bool.or_false, Bool.or_true, Bool.false_or, Bool.true_or, ↓wList, ↓eLc, ↓rLenA, ↓sFor, ↓sWhile, ↓wRng1, ↓wRng2, ↓wTup, ↓wEnum, ↓eChain, ↓eListR1, ↓eLenSet, ↓eRev, ↓eInR, ↓eApp, ↓ePop, ↓eValue, ↓xDrop, ↓xRet, ↓xSet, ↓xCall, ↓xCallV, ↓sRaise, ↓eCallVL, ↓eLam3, startNF, Bool.not_true, Bool.not_false, Bool.false_eq_true, ↓reduceIte, Bool.not_not])
    refine bsel_i (fun h => ?_) fun h => ?_
    · have hn : (i : Int) ∉ (rgs n ds os i).2 := by simpa using h
      intro q hq
      have hqp : q ≠ p := fun e => by rw [e, sup_same] at hq; cases hq
      obtain ⟨k1, k2, k3, k4⟩ := per_ok d o hb
      refine ⟨fun m nv S2 => ∃ j, m = n - j ∧ j + 1 ≤ per n ds os (i : Nat) ∧ S2 = sup (sup S p (.lst (ringsA (rgs n ds os i).1))) q (.lst ((orb ds os (i : Nat) (j + 1)).map .int)) ∧ nv = [some (.lst (ds.map .int)), some (.lst (os.map .int)), some (.ref p), some (.lst ((rgs n ds os i).2.map .int)), some (.int (i : Nat)), some (.ref q)], ⟨n, 0, rfl, k1, rfl, rfl⟩, ?_⟩
      rintro m nv S2 ⟨j, rfl, hj, rfl, rfl⟩
      have bj := it_bd d o hb j
      (try simp only [startN, List.map_cons, List.map_nil, List.length_cons, List.length_nil, Nat.reduceAdd, Nat.reduceSub, Nat.zero_add, Nat.sub_self, List.replicate_succ, List.replicate_zero, List.reduceReplicate, List.cons_append, List.nil_append, List.append_nil, ↓sRet, ↓sRetN, ↓sSeq, ↓sNil, ↓sIf, ↓sSet, ↓sPar, ↓sPar3, ↓sAsg, ↓sDrop, ↓sSetL, ↓eAnd, ↓eOr, ↓eNot, ↓eIf, ↓eNeg, ↓eCall, ↓eCallK, ↓eCallV, ↓lCons, ↓lNil, ↓eVar, ↓eC, ↓eTup, ↓eLst, ↓eLstC, ↓eOp, ↓eSl, ↓oNo, ↓oPart, ↓eBits, ↓tBool, ↓tAndA, ↓tOrA, ↓tNotA, ↓List.getElem?_cons_zero, ↓List.getElem?_cons_succ, ↓List.set_cons_zero, ↓List.set_cons_succ, ↓rInt, ↓rInt0, ↓rAddA, ↓rEqA, ↓rIsA, ↓rMax2A, ↓rMin2A, ↓rIntA, ↓rAbsA, bsel_true, bsel_false, wipeN, gNm, tYesA, ↓isNon, ↓isBlOf, ↓isI, ↓isB, ↓isS, ↓isT, ↓isL, Bool.or_false, Bool.or_true, Bool.false_or, Bool.true_or, ↓wList, ↓eLc, ↓rLenA, ↓sFor, ↓sWhile, ↓wRng1, ↓wRng2, ↓wTup, ↓wEnum, ↓eChain, ↓eListR1, ↓eLenSet, ↓eRev, ↓eInR, ↓eApp, ↓ePop, ↓eValue, ↓xDrop, ↓xRet, ↓xSet, ↓xCall, ↓xCallV, ↓sRaise, ↓eCallVL, ↓eLam3, startNF, Bool.not_true, Bool.not_false, Bool.false_eq_true, ↓reduceIte, Bool.not_not])
      refine ⟨⟨_, rfl⟩, _, _, lstr_sup, orb_last .., _, _, rfl, atI_int bj.1 (by rw [o.len]; exact bj.2), ds, _, rfl, rfl, it_mem d o bj, ?_⟩
      show bsel _ _ _
      (try simp only [startN, List.map_cons, List.map_nil, List.length_cons, List.length_nil, Nat.reduceAdd, Nat.reduceSub, Nat.zero_add, Nat.sub_self, List.replicate_succ, List.replicate_zero, List.reduceReplicate, List.cons_append, List.nil_append, List.append_nil, ↓sRet, ↓sRetN, ↓sSeq, ↓sNil, ↓sIf, ↓sSet, ↓sPar, ↓sPar3, ↓sAsg, ↓sDrop, ↓sSetL, ↓eAnd, ↓eOr, ↓eNot, ↓eIf, ↓eNeg, ↓eCall, ↓eCallK, ↓eCallV, ↓lCons, ↓lNil, ↓eVar, ↓eC, ↓eTup, ↓eLst, ↓eLstC, ↓eOp, ↓eSl, ↓oNo, ↓oPart, ↓eBits, ↓tBool, ↓tAndA, ↓tOrA, ↓tNotA, ↓List.getElem?_cons_zero, ↓List.getElem?_cons_succ, ↓List.set_cons_zero, ↓List.set_cons_succ, ↓rInt, ↓rInt0, ↓rAddA, ↓rEqA, ↓rIsA, ↓rMax2A, ↓rMin2A, ↓rIntA, ↓rAbsA, bsel_true, bsel_false, wipeN, gNm, tYesA, ↓isNon, ↓isBlOf, ↓isI, ↓isB, ↓isS, ↓isT, ↓isL, Bool.or_false, Bool.or_true, Bool.false_or, Bool.true_or, ↓wList, ↓eLc, ↓rLenA, ↓sFor, ↓sWhile, ↓wRng1, ↓wRng2, ↓wTup, ↓wEnum, ↓eChain, ↓eListR1, ↓eLenSet, ↓eRev, ↓eInR, ↓eApp, ↓ePop, ↓eValue, ↓xDrop, ↓xRet, ↓xSet, ↓xCall, ↓xCallV, ↓sRaise, ↓eCallVL, ↓eLam3, startNF, Bool.not_true, Bool.not_false, Bool.false_eq_true, ↓reduceIte, Bool.not_not])
      refine bsel_i (fun h2 => ?_) fun h2 => ?_
      · have hne : it ds os (i : Nat) (j + 1) ≠ (i : Nat) := by simpa [nx, it] using h2
        have hlt : j + 1 < per n ds os (i : Nat) := by
          rcases Nat.lt_or_ge (j + 1) (per n ds os (i : Nat)) with c | c
          · exact c
          · exact absurd (by rw [show j + 1 = per n ds os (i : Nat) by omega]; exact k3) hne
        rw [sWrap_eq]
        (try simp only [startN, List.map_cons, List.map_nil, List.length_cons, List.length_nil, Nat.reduceAdd, Nat.reduceSub, Nat.zero_add, Nat.sub_self, List.replicate_succ, List.replicate_zero, List.reduceReplicate, List.cons_append, List.nil_append, List.append_nil, ↓sRet, ↓sRetN, ↓sSeq, ↓sNil, ↓sIf, ↓sSet, ↓sPar, ↓sPar3, ↓sAsg, ↓sDrop, ↓sSetL, ↓eAnd, ↓eOr, ↓eNot, ↓eIf, ↓eNeg, ↓eCall, ↓eCallK, ↓eCallV, ↓lCons, ↓lNil, ↓eVar, ↓eC, ↓eTup, ↓eLst, ↓eLstC, ↓eOp, ↓eSl, ↓oNo, ↓oPart, ↓eBits, ↓tBool, ↓tAndA, ↓tOrA, ↓tNotA, ↓List.getElem?_cons_zero, ↓List.getElem?_cons_succ, ↓List.set_cons_zero, ↓List.set_cons_succ, ↓rInt, ↓rInt0, ↓rAddA, ↓rEqA, ↓rIsA, ↓rMax2A, ↓rMin2A, ↓rIntA, ↓rAbsA, bsel_true, bsel_false, wipeN, gNm, tYesA, ↓isNon, ↓isBlOf, ↓isI, ↓isB, ↓isS, ↓isT, ↓isL, Bool.or_false, Bool.or_true, Bool.false_or, Bool.true_or, ↓wList, ↓eLc, ↓rLenA, ↓sFor, ↓sWhile, ↓wRng1, ↓wRng2, ↓wTup, ↓wEnum, ↓eChain, ↓eListR1, ↓eLenSet, ↓eRev, ↓eInR, ↓eApp, ↓ePop, ↓eValue, ↓xDrop, ↓xRet, ↓xSet, ↓xCall, ↓xCallV, ↓sRaise, ↓eCallVL, ↓eLam3, startNF, Bool.not_true, Bool.not_false, Bool.false_eq_true, ↓reduceIte, Bool.not_not])
        refine ⟨⟨q, _, rfl, sup_same⟩, ⟨_, rfl⟩, _, _, lstr_sup, orb_last .., _, _, rfl, atI_int bj.1 (by rw [o.len]; exact bj.2), ds, _, rfl, rfl, it_mem d o bj, q, _, rfl, sup_same, (by rw [List.length_map, orb_len]; omega), n - (j + 1), by omega, j + 1, (by first | trivial | rfl), by omega, ?_, (by first | trivial | rfl)⟩
        rw [sup_sup, orb_succ ds os _ (j + 1), List.map_append]
        rfl
      · have heq : it ds os (i : Nat) (j + 1) = (i : Nat) := by simpa [nx, it] using h2
        have hper : j + 1 = per n ds os (i : Nat) := by
          rcases Nat.lt_or_ge (j + 1) (per n ds os (i : Nat)) with c | c
          · exact absurd heq (k4 (j + 1) (by omega) c)
          · omega
        rw [hper]
        have erg : orb ds os (i : Nat) (per n ds os (i : Nat)) = rg n ds os (i : Nat) := rfl
        rw [erg]
        have lrg := rg_len n ds os (i : Nat)
        (try simp only [startN, List.map_cons, List.map_nil, List.length_cons, List.length_nil, Nat.reduceAdd, Nat.reduceSub, Nat.zero_add, Nat.sub_self, List.replicate_succ, List.replicate_zero, List.reduceReplicate, List.cons_append, List.nil_append, List.append_nil, ↓sRet, ↓sRetN, ↓sSeq, ↓sNil, ↓sIf, ↓sSet, ↓sPar, ↓sPar3, ↓sAsg, ↓sDrop, ↓sSetL, ↓eAnd, ↓eOr, ↓eNot, ↓eIf, ↓eNeg, ↓eCall, ↓eCallK, ↓eCallV, ↓lCons, ↓lNil, ↓eVar, ↓eC, ↓eTup, ↓eLst, ↓eLstC, ↓eOp, ↓eSl, ↓oNo, ↓oPart, ↓eBits, ↓tBool, ↓tAndA, ↓tOrA, ↓tNotA, ↓List.getElem?_cons_zero, ↓List.getElem?_cons_succ, ↓List.set_cons_zero, ↓List.set_cons_succ, ↓rInt, ↓rInt0, ↓rAddA, ↓rEqA, ↓rIsA, ↓rMax2A, ↓rMin2A, ↓rIntA, ↓rAbsA, bsel_true, bsel_false, wipeN, gNm, tYesA, ↓isNon, ↓isBlOf, ↓isI, ↓isB, ↓isS, ↓isT, ↓isL, Bool.or_false, Bool.or_true, Bool.false_or, Bool.true_or, ↓wList, ↓eLc, ↓rLenA, ↓sFor, ↓sWhile, ↓wRng1, ↓wRng2, ↓wTup, ↓wEnum, ↓eChain, ↓eListR1, ↓eLenSet, ↓eRev, ↓eInR, ↓eApp, ↓ePop, ↓eValue, ↓xDrop, ↓xRet, ↓xSet, ↓xCall, ↓xCallV, ↓sRaise, ↓eCallVL, ↓eLam3, startNF, Bool.not_true, Bool.not_false, Bool.false_eq_true, ↓reduceIte, Bool.not_not])
        refine ⟨_, _, rfl, lstv_sup, (by rw [PySem.sizeLine_eq, List.length_map, List.length_map]; omega), ?_⟩
        (try simp only [startN, List.map_cons, List.map_nil, List.length_cons, List.length_nil, Nat.reduceAdd, Nat.reduceSub, Nat.zero_add, Nat.sub_self, List.replicate_succ, List.replicate_zero, List.reduceReplicate, List.cons_append, List.nil_append, List.append_nil, ↓sRet, ↓sRetN, ↓sSeq, ↓sNil, ↓sIf, ↓sSet, ↓sPar, ↓sPar3, ↓sAsg, ↓sDrop, ↓sSetL, ↓eAnd, ↓eOr, ↓eNot, ↓eIf, ↓eNeg, ↓eCall, ↓eCallK, ↓eCallV, ↓lCons, ↓lNil, ↓eVar, ↓eC, ↓eTup, ↓eLst, ↓eLstC, ↓eOp, ↓eSl, ↓oNo, ↓oPart, ↓eBits, ↓tBool, ↓tAndA, ↓tOrA, ↓tNotA, ↓List.getElem?_cons_zero, ↓List.getElem?_cons_succ, ↓List.set_cons_zero, ↓List.set_cons_succ, ↓rInt, ↓rInt0, ↓rAddA, ↓rEqA, ↓rIsA, ↓rMax2A, ↓rMin2A, ↓rIntA, ↓rAbsA, bsel_true, bsel_false, wipeN, gNm, tYesA, ↓isNon, ↓isBlOf, ↓isI, ↓isB, ↓isS, ↓isT, ↓isL, Bool.or_false, Bool.or_true, Bool.false_or, Bool.true_or, ↓wList, ↓eLc, ↓rLenA, ↓sFor, ↓sWhile, ↓wRng1, ↓wRng2, ↓wTup, ↓wEnum, ↓eChain, ↓eListR1, ↓eLenSet, ↓eRev, ↓eInR, ↓eApp, ↓ePop, ↓eValue, ↓xDrop, ↓xRet, ↓xSet, ↓xCall, ↓xCallV, ↓sRaise, ↓eCallVL, ↓eLam3, startNF, Bool.not_true, Bool.not_false, Bool.false_eq_true, ↓reduceIte, Bool.not_not])
        refine ⟨_, lstr_sup, ?_⟩
        (try simp only [startN, List.map_cons, List.map_nil, List.length_cons, List.length_nil, Nat.reduceAdd, Nat.reduceSub, Nat.zero_add, Nat.sub_self, List.replicate_succ, List.replicate_zero, List.reduceReplicate, List.cons_append, List.nil_append, List.append_nil, ↓sRet, ↓sRetN, ↓sSeq, ↓sNil, ↓sIf, ↓sSet, ↓sPar, ↓sPar3, ↓sAsg, ↓sDrop, ↓sSetL, ↓eAnd, ↓eOr, ↓eNot, ↓eIf, ↓eNeg, ↓eCall, ↓eCallK, ↓eCallV, ↓lCons, ↓lNil, ↓eVar, ↓eC, ↓eTup, ↓eLst, ↓eLstC, ↓eOp, ↓eSl, ↓oNo, ↓oPart, ↓eBits, ↓tBool, ↓tAndA, ↓tOrA, ↓tNotA, ↓List.getElem?_cons_zero, ↓List.getElem?_cons_succ, ↓List.set_cons_zero, ↓List.set_cons_succ, ↓rInt, ↓rInt0, ↓rAddA, ↓rEqA, ↓rIsA, ↓rMax2A, ↓rMin2A, ↓rIntA, ↓rAbsA, bsel_true, bsel_false, wipeN, gNm, tYesA, ↓isNon, ↓isBlOf, ↓isI, ↓isB, ↓isS, ↓isT, ↓isL, Bool.or_false, Bool.or_true, Bool.false_or, Bool.true_or, ↓wList, ↓eLc, ↓rLenA, ↓sFor, ↓sWhile, ↓wRng1, ↓wRng2, ↓wTup, ↓wEnum, ↓eChain, ↓eListR1, ↓eLenSet, ↓eRev, ↓eInR, ↓eApp, ↓ePop, ↓eValue, ↓xDrop, ↓xRet, ↓xSet, ↓xCall, ↓xCallV, ↓sRaise, ↓eCallVL, ↓eLam3, startNF, Bool.not_true, Bool.not_false, Bool.false_eq_true, ↓reduceIte, Bool.not_not])
        rw [rgs_new hn]
        refine bsel_i (fun h3 => ?_) fun h3 => ?_
        · have h31 : 1 < per n ds os (i : Nat) := by
            have := of_decide_eq_true h3
            rw [List.length_map] at this
            omega
          rw [if_pos h31]
          refine ⟨⟨p, _, rfl, by rw [sup_ne (Ne.symm hqp), sup_same]⟩, p, _, rfl, by rw [sup_ne (Ne.symm hqp), sup_same], (by simp only [ringsA, List.length_map]; omega), f1 q _, _, _, melt_push hp hq, ⟨_, _, rfl, .inl rfl, _, _, rfl, .inl rfl, _, _, rfl, .inl rfl, _, _, rfl, .inl rfl, _, _, rfl, .inl rfl, _, _, rfl, .inl rfl, rfl⟩, ?_, some (.int (i : Nat)), some (.ref q), ?_⟩
          · simp only [ringsA, List.map_append, List.map_cons, List.map_nil]
          · rw [List.map_append]
        · have h31 : ¬ 1 < per n ds os (i : Nat) := by
            have := of_decide_eq_false h3
            rw [List.length_map] at this
            omega
          rw [if_neg h31]
          refine ⟨f1 q _, _, _, melt_drop hq, ⟨_, _, rfl, .inl rfl, _, _, rfl, .inl rfl, _, _, rfl, .inl rfl, _, _, rfl, .inl rfl, _, _, rfl, .inl rfl, _, _, rfl, .inl rfl, rfl⟩, (by first | trivial | rfl), some (.int (i : Nat)), some (.ref q), ?_⟩
          rw [List.map_append]
    · have hm : (i : Int) ∈ (rgs n ds os i).2 := by simpa using h
      rw [rgs_old hm]
      exact ⟨(by first | trivial | rfl), _, _, rfl⟩
  · rintro nv S' ⟨rfl, v4, v5, rfl⟩
    rw [rngA_len]
    exact k p hp
/-! ### _law_between -/
abbrev s__law_between : Stmt := topS 52
theorem sc__law_between : FnScope ["deal", "other", "found", "seen", "person", "ring", "turn", "later"] ["deal", "other"] (defScope s__law_between) := ⟨rfl, rfl, rfl, by decide +kernel, rfl, by decide +kernel, by decide +kernel⟩
theorem bd__law_between (kV doc pm : Value) (an : Option Addr) (cdv ct : Value) (us : List Value) (hl : us.length = (["deal", "other"] : List Str).length) : bindArgs (PySem.W.fnOf "_law_between" "_law_between" (defArgs s__law_between) (defBody s__law_between) (defScope s__law_between) .none kV doc pm an cdv ct) ⟨us, []⟩ = pure ((["deal", "other"] : List Str).zip us) :=
  match us, hl with | [_, _], _ => rfl
def sp_between : SpA := fun as S P => ∃ (n : Nat) (ds os : List Int), as = [.lst (ds.map .int), .lst (os.map .int)] ∧ n ≤ 1000 ∧ Dl n ds ∧ Dl n os ∧ P (.lst (ringsA (rgs n ds os n).1)) S
--len by rintro as S P ⟨_, _, _, rfl, _⟩; rfl
theorem got__law_between {P : Program} {w : World} {K : PySem.W.Frag} {mg : Str → Option Value} {base : Heap} {f__law_between : Addr} (B : Bi mg) (D : Def K mg "_law_between" s__law_between f__law_between) :
    Got P w K mg base (0 + 1) ["deal", "other"] "_law_between" s__law_between f__law_between sp_between := by
  refine got_of D sc__law_between (by rintro as S P ⟨_, _, _, rfl, _⟩; rfl) (bd__law_between) (fun cdv A0 outer s0_ H E hr => ⟨_, (sb_cons (sa_par 2 3 sc__law_between.nd (la_cons (ea_lst la_nil) (la_cons (ea_lst la_nil) la_nil)))
      (sb_cons (sa_for PassesOwn.never (ia_rng1 B.range_ (la_cons (ea_callB cx_len B.len_ (la_cons (ea_var 0) la_nil)) la_nil)) (ga_name 4 sc__law_between.nd) (sb_wrap (sb_one (sa_if (tt_cmp (oa_notIn (Lay.Room.units65 hr)) (ea_var 4) (ea_var 3)) (sb_cons (sa_set 5 sc__law_between.nd (ea_lstC (la_cons (ea_var 4) la_nil)))
      (sb_cons (sa_for PassesOwn.never (ia_rng1 B.range_ (la_cons (ea_callB cx_len B.len_ (la_cons (ea_var 0) la_nil)) la_nil)) (ga_name 6 sc__law_between.nd) (sb_wrap (sb_cons (sa_set 7 sc__law_between.nd (ea_index (ea_var 0) (ea_ix (ea_var 1) (ea_ix (ea_var 5) (ea_neg ea_int)))))
      (sb_one (sa_if (tt_cmp (oa_ne hr.units) (ea_var 7) (ea_var 4)) (sb_one (sa_expr (ea_append (ea_var 5) (ea_var 7)))) sb_nil)))))
      (sb_cons (sa_set 3 sc__law_between.nd (ea_op oa_add (ea_var 3) (ea_var 5)))
      (sb_cons (sa_set 2 sc__law_between.nd (ea_op oa_add (ea_var 2) (ea_if (tt_cmp oa_gt (ea_callB cx_len B.len_ (la_cons (ea_var 5) la_nil)) ea_int) (ea_lst (la_cons (ea_var 5) la_nil)) (ea_lst la_nil)))) sb_melt)))) sb_nil))))
      (sb_one (sa_ret (ea_var 2))))), fun as S P h => ?_⟩)
  obtain ⟨n, ds, os, rfl, hn, d, o, k⟩ := h
  (try simp only [startN, List.map_cons, List.map_nil, List.length_cons, List.length_nil, Nat.reduceAdd, Nat.reduceSub, Nat.zero_add, Nat.sub_self, List.replicate_succ, List.replicate_zero, List.reduceReplicate, List.cons_append, List.nil_append, List.append_nil, ↓sRet, ↓sRetN, ↓sSeq, ↓sNil, ↓sIf, ↓sSet, ↓sPar, ↓sPar3, ↓sAsg, ↓sDrop, ↓sSetL, ↓eAnd, ↓eOr, ↓eNot, ↓eIf, ↓eNeg, ↓eCall, ↓eCallK, ↓eCallV, ↓lCons, ↓lNil, ↓eVar, ↓eC, ↓eTup, ↓eLst, ↓eLstC, ↓eOp, ↓eSl, ↓oNo, ↓oPart, ↓eBits, ↓tBool, ↓tAndA, ↓tOrA, ↓tNotA, ↓List.getElem?_cons_zero, ↓List.getElem?_cons_succ, ↓List.set_cons_zero, ↓List.set_cons_succ, ↓rInt, ↓rInt0, ↓rAddA, ↓rEqA, ↓rIsA, ↓rMax2A, ↓rMin2A, ↓rIntA, ↓rAbsA, bsel_true, bsel_false, wipeN, gNm, tYesA, ↓isNon, ↓isBlOf, ↓isI, ↓isB, ↓isS, ↓isT, ↓isL, Bool.or_false, Bool.or_true, Bool.false_or, Bool.true_or, ↓wList, ↓eLc, ↓rLenA, ↓sFor, ↓sWhile, ↓wRng1, ↓wRng2, ↓wTup, ↓wEnum, ↓eChain, ↓eListR1, ↓eLenSet, ↓eRev, ↓eInR, ↓eApp, ↓ePop, ↓eValue, ↓xDrop, ↓xRet, ↓xSet, ↓xCall, ↓xCallV, ↓sRaise, ↓eCallVL, ↓eLam3, startNF, Bool.not_true, Bool.not_false, Bool.false_eq_true, ↓reduceIte, Bool.not_not])
  refine ⟨_, rfl, ?_⟩
  simp only [List.length_map, Int.toNat_natCast, d.len]
  refine ⟨⟨by omega, by omega⟩, fun i nv S' => S' = S ∧ ∃ v4 v5 v6 v7, nv = [some (.lst (ds.map .int)), some (.lst (os.map .int)), some (.lst (ringsA (rgs n ds os i).1)), some (.lst ((rgs n ds os i).2.map .int)), v4, v5, v6, v7], ⟨rfl, _, _, _, _, rfl⟩, fun _ _ _ _ _ => trivial, ?_, ?_⟩
  · rintro i y nv S' hy ⟨rfl, v4, v5, v6, v7, rfl⟩
    obtain ⟨hi, rfl⟩ := rngA_at hy
    have hb : 0 ≤ ((i : Nat) : Int) ∧ ((i : Nat) : Int) < (n : Int) := by omega
    rw [sWrap_eq]
    simp only [Int.zero_add]
    obtain ⟨l1, l2⟩ := rgs_len d o (i := i) (by omega)
    (try simp only [startN, List.map_cons, List.map_nil, List.length_cons, List.length_nil, Nat.reduceAdd, Nat.reduceSub, Nat.zero_add, Nat.sub_self, List.replicate_succ, List.replicate_zero, List.reduceReplicate, List.cons_append, List.nil_append, List.append_nil, ↓sRet, ↓sRetN, ↓sSeq, ↓sNil, ↓sIf, ↓sSet, ↓sPar, ↓sPar3, ↓sAsg, ↓sDrop, ↓sSetL, ↓eAnd, ↓eOr, ↓eNot, ↓eIf, ↓eNeg, ↓eCall, ↓eCallK, ↓eCallV, ↓lCons, ↓lNil, ↓eVar, ↓eC, ↓eTup, ↓eLst, ↓eLstC, ↓eOp, ↓eSl, ↓oNo, ↓oPart, ↓eBits, ↓tBool, ↓tAndA, ↓tOrA, ↓tNotA, ↓List.getElem?_cons_zero, ↓List.getElem?_cons_succ, ↓List.set_cons_zero, ↓List.set_cons_succ, ↓rInt, ↓rInt0, ↓rAddA, ↓rEqA, ↓rIsA, ↓rMax2A, ↓rMin2A, ↓rIntA, ↓rAbsA, bsel_true, bsel_false, wipeN, gNm, tYesA, ↓isNon, ↓isBlOf, ↓isI, ↓isB, ↓isS, ↓isT, ↓isL, Bool.or_false, Bool.or_true, Bool.false_or, Bool.true_or, ↓wList, ↓eLc, ↓rLenA, ↓sFor, ↓sWhile, ↓wRng1, ↓wRng2, ↓wTup, ↓wEnum, ↓eChain, ↓eListR1, ↓eLenSet, ↓eRev, ↓eInR, ↓eApp, ↓ePop, ↓eValue, ↓xDrop, ↓xRet, ↓xSet, ↓xCall, ↓xCallV, ↓sRaise, ↓eCallVL, ↓eLam3, startNF, Bool.not_true, Bool.not_false, Bool.false_eq_true, ↓reduceIte, Bool.not_not])
    refine rIn_ints rfl ?_
    (try simp only [startN, List.map_cons, List.map_nil, List.length_cons, List.length_nil, Nat.reduceAdd, Nat.reduceSub, Nat.zero_add, Nat.sub_self, List.replicate_succ, List.replicate_zero, List.reduceReplicate, List.cons_append, List.nil_append, List.append_nil, ↓sRet, ↓sRetN, ↓sSeq, ↓sNil, ↓sIf, ↓sSet, ↓sPar, ↓sPar3, ↓sAsg, ↓sDrop, ↓sSetL, ↓eAnd, ↓eOr, ↓eNot, ↓eIf, ↓eNeg, ↓eCall, ↓eCallK, ↓eCallV, ↓lCons, ↓lNil, ↓eVar, ↓eC, ↓eTup, ↓eLst, ↓eLstC, ↓eOp, ↓eSl, ↓oNo, ↓oPart, ↓eBits, ↓tBool, ↓tAndA, ↓tOrA, ↓tNotA, ↓List.getElem?_cons_zero, ↓List.getElem?_cons_succ, ↓List.set_cons_zero, ↓List.set_cons_succ, ↓rInt, ↓rInt0, ↓rAddA, ↓rEqA, ↓rIsA, ↓rMax2A, ↓rMin2A, ↓rIntA, ↓rAbsA, bsel_true, bsel_false, wipeN, gNm, tYesA, ↓isNon, ↓isBlOf, ↓isI, ↓isB, ↓isS, ↓isT, ↓isL, Bool.or_false, Bool.or_true, Bool.false_or, Bool.true_or, ↓wList, ↓eLc, ↓rLenA, ↓sFor, ↓sWhile, ↓wRng1, ↓wRng2, ↓wTup, ↓wEnum, ↓eChain, ↓eListR1, ↓eLenSet, ↓eRev, ↓eInR, ↓eApp, ↓ePop, ↓eValue, ↓xDrop, ↓xRet, ↓xSet, ↓xCall, ↓xCallV, ↓sRaise, ↓eCallVL, ↓eLam3, startNF, Bool.not_true, Bool.not_false, Bool.false_eq_true, ↓reduceIte, Bool.not_not])
    refine bsel_i (fun h => ?_) fun h => ?_
    · have hn2 : (i : Int) ∉ (rgs n ds os i).2 := by simpa using h
      intro q hq
      obtain ⟨k1, k2, k3, k4⟩ := per_ok d o hb
      (try simp only [startN, List.map_cons, List.map_nil, List.length_cons, List.length_nil, Nat.reduceAdd, Nat.reduceSub, Nat.zero_add, Nat.sub_self, List.replicate_succ, List.replicate_zero, List.reduceReplicate, List.cons_append, List.nil_append, List.append_nil, ↓sRet, ↓sRetN, ↓sSeq, ↓sNil, ↓sIf, ↓sSet, ↓sPar, ↓sPar3, ↓sAsg, ↓sDrop, ↓sSetL, ↓eAnd, ↓eOr, ↓eNot, ↓eIf, ↓eNeg, ↓eCall, ↓eCallK, ↓eCallV, ↓lCons, ↓lNil, ↓eVar, ↓eC, ↓eTup, ↓eLst, ↓eLstC, ↓eOp, ↓eSl, ↓oNo, ↓oPart, ↓eBits, ↓tBool, ↓tAndA, ↓tOrA, ↓tNotA, ↓List.getElem?_cons_zero, ↓List.getElem?_cons_succ, ↓List.set_cons_zero, ↓List.set_cons_succ, ↓rInt, ↓rInt0, ↓rAddA, ↓rEqA, ↓rIsA, ↓rMax2A, ↓rMin2A, ↓rIntA, ↓rAbsA, bsel_true, bsel_false, wipeN, gNm, tYesA, ↓isNon, ↓isBlOf, ↓isI, ↓isB, ↓isS, ↓isT, ↓isL, Bool.or_false, Bool.or_true, Bool.false_or, Bool.true_or, ↓wList, ↓eLc, ↓rLenA, ↓sFor, ↓sWhile, ↓wRng1, ↓wRng2, ↓wTup, ↓wEnum, ↓eChain, ↓eListR1, ↓eLenSet, ↓eRev, ↓eInR, ↓eApp, ↓ePop, ↓eValue, ↓xDrop, ↓xRet, ↓xSet, ↓xCall, ↓xCallV, ↓sRaise, ↓eCallVL, ↓eLam3, startNF, Bool.not_true, Bool.not_false, Bool.false_eq_true, ↓reduceIte, Bool.not_not])
      refine ⟨_, rfl, ?_⟩
      simp only [List.length_map, Int.toNat_natCast, d.len]
      refine ⟨⟨by omega, by omega⟩, fun t nv S2 => S2 = sup S' q (.lst ((orb ds os (i : Nat) (min (t + 1) (per n ds os (i : Nat)))).map .int)) ∧ ∃ v6 v7, nv = [some (.lst (ds.map .int)), some (.lst (os.map .int)), some (.lst (ringsA (rgs n ds os i).1)), some (.lst ((rgs n ds os i).2.map .int)), some (.int (i : Nat)), some (.ref q), v6, v7], ⟨?_, _, _, rfl⟩, fun _ _ _ _ _ => trivial, ?_, ?_⟩
      · rw [Nat.min_eq_left (by omega)]
        rfl
      · rintro t y nv S2 hy2 ⟨rfl, v6', v7', rfl⟩
        obtain ⟨j, hj⟩ : ∃ j, min (t + 1) (per n ds os (i : Nat)) = j + 1 := ⟨min (t + 1) (per n ds os (i : Nat)) - 1, by omega⟩
        have bj := it_bd d o hb j
        rw [sWrap_eq, hj]
        (try simp only [startN, List.map_cons, List.map_nil, List.length_cons, List.length_nil, Nat.reduceAdd, Nat.reduceSub, Nat.zero_add, Nat.sub_self, List.replicate_succ, List.replicate_zero, List.reduceReplicate, List.cons_append, List.nil_append, List.append_nil, ↓sRet, ↓sRetN, ↓sSeq, ↓sNil, ↓sIf, ↓sSet, ↓sPar, ↓sPar3, ↓sAsg, ↓sDrop, ↓sSetL, ↓eAnd, ↓eOr, ↓eNot, ↓eIf, ↓eNeg, ↓eCall, ↓eCallK, ↓eCallV, ↓lCons, ↓lNil, ↓eVar, ↓eC, ↓eTup, ↓eLst, ↓eLstC, ↓eOp, ↓eSl, ↓oNo, ↓oPart, ↓eBits, ↓tBool, ↓tAndA, ↓tOrA, ↓tNotA, ↓List.getElem?_cons_zero, ↓List.getElem?_cons_succ, ↓List.set_cons_zero, ↓List.set_cons_succ, ↓rInt, ↓rInt0, ↓rAddA, ↓rEqA, ↓rIsA, ↓rMax2A, ↓rMin2A, ↓rIntA, ↓rAbsA, bsel_true, bsel_false, wipeN, gNm, tYesA, ↓isNon, ↓isBlOf, ↓isI, ↓isB, ↓isS, ↓isT, ↓isL, Bool.or_false, Bool.or_true, Bool.false_or, Bool.true_or, ↓wList, ↓eLc, ↓rLenA, ↓sFor, ↓sWhile, ↓wRng1, ↓wRng2, ↓wTup, ↓wEnum, ↓eChain, ↓eListR1, ↓eLenSet, ↓eRev, ↓eInR, ↓eApp, ↓ePop, ↓eValue, ↓xDrop, ↓xRet, ↓xSet, ↓xCall, ↓xCallV, ↓sRaise, ↓eCallVL, ↓eLam3, startNF, Bool.not_true, Bool.not_false, Bool.false_eq_true, ↓reduceIte, Bool.not_not])
        refine ⟨⟨_, rfl⟩, _, _, lstr_sup, orb_last .., _, _, rfl, atI_int bj.1 (by rw [o.len]; exact bj.2), ds, _, rfl, rfl, it_mem d o bj, ?_⟩
        show bsel _ _ _
        (try simp only [startN, List.map_cons, List.map_nil, List.length_cons, List.length_nil, Nat.reduceAdd, Nat.reduceSub, Nat.zero_add, Nat.sub_self, List.replicate_succ, List.replicate_zero, List.reduceReplicate, List.cons_append, List.nil_append, List.append_nil, ↓sRet, ↓sRetN, ↓sSeq, ↓sNil, ↓sIf, ↓sSet, ↓sPar, ↓sPar3, ↓sAsg, ↓sDrop, ↓sSetL, ↓eAnd, ↓eOr, ↓eNot, ↓eIf, ↓eNeg, ↓eCall, ↓eCallK, ↓eCallV, ↓lCons, ↓lNil, ↓eVar, ↓eC, ↓eTup, ↓eLst, ↓eLstC, ↓eOp, ↓eSl, ↓oNo, ↓oPart, ↓eBits, ↓tBool, ↓tAndA, ↓tOrA, ↓tNotA, ↓List.getElem?_cons_zero, ↓List.getElem?_cons_succ, ↓List.set_cons_zero, ↓List.set_cons_succ, ↓rInt, ↓rInt0, ↓rAddA, ↓rEqA, ↓rIsA, ↓rMax2A, ↓rMin2A, ↓rIntA, ↓rAbsA, bsel_true, bsel_false, wipeN, gNm, tYesA, ↓isNon, ↓isBlOf, ↓isI, ↓isB, ↓isS, ↓isT, ↓isL, Bool.or_false, Bool.or_true, Bool.false_or, Bool.true_or, ↓wList, ↓eLc, ↓rLenA, ↓sFor, ↓sWhile, ↓wRng1, ↓wRng2, ↓wTup, ↓wEnum, ↓eChain, ↓eListR1, ↓eLenSet, ↓eRev, ↓eInR, ↓eApp, ↓ePop, ↓eValue, ↓xDrop, ↓xRet, ↓xSet, ↓xCall, ↓xCallV, ↓sRaise, ↓eCallVL, ↓eLam3, startNF, Bool.not_true, Bool.not_false, Bool.false_eq_true, ↓reduceIte, Bool.not_not])
        refine bsel_i (fun h2 => ?_) fun h2 => ?_
        · have hne : it ds os (i : Nat) (j + 1) ≠ (i : Nat) := by simpa [nx, it] using h2
          have hlt : j + 1 < per n ds os (i : Nat) := by
            rcases Nat.lt_or_ge (j + 1) (per n ds os (i : Nat)) with c | c
            · exact c
            · exact absurd (by rw [show j + 1 = per n ds os (i : Nat) by omega]; exact k3) hne
          (try simp only [startN, List.map_cons, List.map_nil, List.length_cons, List.length_nil, Nat.reduceAdd, Nat.reduceSub, Nat.zero_add, Nat.sub_self, List.replicate_succ, List.replicate_zero, List.reduceReplicate, List.cons_append, List.nil_append, List.append_nil, ↓sRet, ↓sRetN, ↓sSeq, ↓sNil, ↓sIf, ↓sSet, ↓sPar, ↓sPar3, ↓sAsg, ↓sDrop, ↓sSetL, ↓eAnd, ↓eOr, ↓eNot, ↓eIf, ↓eNeg, ↓eCall, ↓eCallK, ↓eCallV, ↓lCons, ↓lNil, ↓eVar, ↓eC, ↓eTup, ↓eLst, ↓eLstC, ↓eOp, ↓eSl, ↓oNo, ↓oPart, ↓eBits, ↓tBool, ↓tAndA, ↓tOrA, ↓tNotA, ↓List.getElem?_cons_zero, ↓List.getElem?_cons_succ, ↓List.set_cons_zero, ↓List.set_cons_succ, ↓rInt, ↓rInt0, ↓rAddA, ↓rEqA, ↓rIsA, ↓rMax2A, ↓rMin2A, ↓rIntA, ↓rAbsA, bsel_true, bsel_false, wipeN, gNm, tYesA, ↓isNon, ↓isBlOf, ↓isI, ↓isB, ↓isS, ↓isT, ↓isL, Bool.or_false, Bool.or_true, Bool.false_or, Bool.true_or, ↓wList, ↓eLc, ↓rLenA, ↓sFor, ↓sWhile, ↓wRng1, ↓wRng2, ↓wTup, ↓wEnum, ↓eChain, ↓eListR1, ↓eLenSet, ↓eRev, ↓eInR, ↓eApp, ↓ePop, ↓eValue, ↓xDrop, ↓xRet, ↓xSet, ↓xCall, ↓xCallV, ↓sRaise, ↓eCallVL, ↓eLam3, startNF, Bool.not_true, Bool.not_false, Bool.false_eq_true, ↓reduceIte, Bool.not_not])
          refine ⟨⟨q, _, rfl, sup_same⟩, q, _, rfl, sup_same, (by rw [List.length_map, orb_len]; omega), ?_, _, _, rfl⟩
          rw [sup_sup, show min (t + 1 + 1) (per n ds os (i : Nat)) = (j + 1) + 1 by omega, orb_succ ds os _ (j + 1), List.map_append]
          rfl
        · have heq : it ds os (i : Nat) (j + 1) = (i : Nat) := by simpa [nx, it] using h2
          have hper : j + 1 = per n ds os (i : Nat) := by
            rcases Nat.lt_or_ge (j + 1) (per n ds os (i : Nat)) with c | c
            · exact absurd heq (k4 (j + 1) (by omega) c)
            · omega
          (try simp only [startN, List.map_cons, List.map_nil, List.length_cons, List.length_nil, Nat.reduceAdd, Nat.reduceSub, Nat.zero_add, Nat.sub_self, List.replicate_succ, List.replicate_zero, List.reduceReplicate, List.cons_append, List.nil_append, List.append_nil, ↓sRet, ↓sRetN, ↓sSeq, ↓sNil, ↓sIf, ↓sSet, ↓sPar, ↓sPar3, ↓sAsg, ↓sDrop, ↓sSetL, ↓eAnd, ↓eOr, ↓eNot, ↓eIf, ↓eNeg, ↓eCall, ↓eCallK, ↓eCallV, ↓lCons, ↓lNil, ↓eVar, ↓eC, ↓eTup, ↓eLst, ↓eLstC, ↓eOp, ↓eSl, ↓oNo, ↓oPart, ↓eBits, ↓tBool, ↓tAndA, ↓tOrA, ↓tNotA, ↓List.getElem?_cons_zero, ↓List.getElem?_cons_succ, ↓List.set_cons_zero, ↓List.set_cons_succ, ↓rInt, ↓rInt0, ↓rAddA, ↓rEqA, ↓rIsA, ↓rMax2A, ↓rMin2A, ↓rIntA, ↓rAbsA, bsel_true, bsel_false, wipeN, gNm, tYesA, ↓isNon, ↓isBlOf, ↓isI, ↓isB, ↓isS, ↓isT, ↓isL, Bool.or_false, Bool.or_true, Bool.false_or, Bool.true_or, ↓wList, ↓eLc, ↓rLenA, ↓sFor, ↓sWhile, ↓wRng1, ↓wRng2, ↓wTup, ↓wEnum, ↓eChain, ↓eListR1, ↓eLenSet, ↓eRev, ↓eInR, ↓eApp, ↓ePop, ↓eValue, ↓xDrop, ↓xRet, ↓xSet, ↓xCall, ↓xCallV, ↓sRaise, ↓eCallVL, ↓eLam3, startNF, Bool.not_true, Bool.not_false, Bool.false_eq_true, ↓reduceIte, Bool.not_not])
          refine ⟨?_, _, _, rfl⟩
          rw [show min (t + 1 + 1) (per n ds os (i : Nat)) = j + 1 by omega]
      · rintro nv S2 ⟨rfl, v6', v7', rfl⟩
        rw [rngA_len, Nat.min_eq_right (by omega)]
        have erg : orb ds os (i : Nat) (per n ds os (i : Nat)) = rg n ds os (i : Nat) := rfl
        rw [erg]
        have lrg := rg_len n ds os (i : Nat)
        (try simp only [startN, List.map_cons, List.map_nil, List.length_cons, List.length_nil, Nat.reduceAdd, Nat.reduceSub, Nat.zero_add, Nat.sub_self, List.replicate_succ, List.replicate_zero, List.reduceReplicate, List.cons_append, List.nil_append, List.append_nil, ↓sRet, ↓sRetN, ↓sSeq, ↓sNil, ↓sIf, ↓sSet, ↓sPar, ↓sPar3, ↓sAsg, ↓sDrop, ↓sSetL, ↓eAnd, ↓eOr, ↓eNot, ↓eIf, ↓eNeg, ↓eCall, ↓eCallK, ↓eCallV, ↓lCons, ↓lNil, ↓eVar, ↓eC, ↓eTup, ↓eLst, ↓eLstC, ↓eOp, ↓eSl, ↓oNo, ↓oPart, ↓eBits, ↓tBool, ↓tAndA, ↓tOrA, ↓tNotA, ↓List.getElem?_cons_zero, ↓List.getElem?_cons_succ, ↓List.set_cons_zero, ↓List.set_cons_succ, ↓rInt, ↓rInt0, ↓rAddA, ↓rEqA, ↓rIsA, ↓rMax2A, ↓rMin2A, ↓rIntA, ↓rAbsA, bsel_true, bsel_false, wipeN, gNm, tYesA, ↓isNon, ↓isBlOf, ↓isI, ↓isB, ↓isS, ↓isT, ↓isL, Bool.or_false, Bool.or_true, Bool.false_or, Bool.true_or, ↓wList, ↓eLc, ↓rLenA, ↓sFor, ↓sWhile, ↓wRng1, ↓wRng2, ↓wTup, ↓wEnum, ↓eChain, ↓eListR1, ↓eLenSet, ↓eRev, ↓eInR, ↓eApp, ↓ePop, ↓eValue, ↓xDrop, ↓xRet, ↓xSet, ↓xCall, ↓xCallV, ↓sRaise, ↓eCallVL, ↓eLam3, startNF, Bool.not_true, Bool.not_false, Bool.false_eq_true, ↓reduceIte, Bool.not_not])
        refine ⟨_, _, rfl, lstv_sup, (by rw [PySem.sizeLine_eq, List.length_map, List.length_map]; omega), ?_⟩
        (try simp only [startN, List.map_cons, List.map_nil, List.length_cons, List.length_nil, Nat.reduceAdd, Nat.reduceSub, Nat.zero_add, Nat.sub_self, List.replicate_succ, List.replicate_zero, List.reduceReplicate, List.cons_append, List.nil_append, List.append_nil, ↓sRet, ↓sRetN, ↓sSeq, ↓sNil, ↓sIf, ↓sSet, ↓sPar, ↓sPar3, ↓sAsg, ↓sDrop, ↓sSetL, ↓eAnd, ↓eOr, ↓eNot, ↓eIf, ↓eNeg, ↓eCall, ↓eCallK, ↓eCallV, ↓lCons, ↓lNil, ↓eVar, ↓eC, ↓eTup, ↓eLst, ↓eLstC, ↓eOp, ↓eSl, ↓oNo, ↓oPart, ↓eBits, ↓tBool, ↓tAndA, ↓tOrA, ↓tNotA, ↓List.getElem?_cons_zero, ↓List.getElem?_cons_succ, ↓List.set_cons_zero, ↓List.set_cons_succ, ↓rInt, ↓rInt0, ↓rAddA, ↓rEqA, ↓rIsA, ↓rMax2A, ↓rMin2A, ↓rIntA, ↓rAbsA, bsel_true, bsel_false, wipeN, gNm, tYesA, ↓isNon, ↓isBlOf, ↓isI, ↓isB, ↓isS, ↓isT, ↓isL, Bool.or_false, Bool.or_true, Bool.false_or, Bool.true_or, ↓wList, ↓eLc, ↓rLenA, ↓sFor, ↓sWhile, ↓wRng1, ↓wRng2, ↓wTup, ↓wEnum, ↓eChain, ↓eListR1, ↓eLenSet, ↓eRev, ↓eInR, ↓eApp, ↓ePop, ↓eValue, ↓xDrop, ↓xRet, ↓xSet, ↓xCall, ↓xCallV, ↓sRaise, ↓eCallVL, ↓eLam3, startNF, Bool.not_true, Bool.not_false, Bool.false_eq_true, ↓reduceIte, Bool.not_not])
        refine ⟨_, lstr_sup, ?_⟩
        (try simp only [startN, List.map_cons, List.map_nil, List.length_cons, List.length_nil, Nat.reduceAdd, Nat.reduceSub, Nat.zero_add, Nat.sub_self, List.replicate_succ, List.replicate_zero, List.reduceReplicate, List.cons_append, List.nil_append, List.append_nil, ↓sRet, ↓sRetN, ↓sSeq, ↓sNil, ↓sIf, ↓sSet, ↓sPar, ↓sPar3, ↓sAsg, ↓sDrop, ↓sSetL, ↓eAnd, ↓eOr, ↓eNot, ↓eIf, ↓eNeg, ↓eCall, ↓eCallK, ↓eCallV, ↓lCons, ↓lNil, ↓eVar, ↓eC, ↓eTup, ↓eLst, ↓eLstC, ↓eOp, ↓eSl, ↓oNo, ↓oPart, ↓eBits, ↓tBool, ↓tAndA, ↓tOrA, ↓tNotA, ↓List.getElem?_cons_zero, ↓List.getElem?_cons_succ, ↓List.set_cons_zero, ↓List.set_cons_succ, ↓rInt, ↓rInt0, ↓rAddA, ↓rEqA, ↓rIsA, ↓rMax2A, ↓rMin2A, ↓rIntA, ↓rAbsA, bsel_true, bsel_false, wipeN, gNm, tYesA, ↓isNon, ↓isBlOf, ↓isI, ↓isB, ↓isS, ↓isT, ↓isL, Bool.or_false, Bool.or_true, Bool.false_or, Bool.true_or, ↓wList, ↓eLc, ↓rLenA, ↓sFor, ↓sWhile, ↓wRng1, ↓wRng2, ↓wTup, ↓wEnum, ↓eChain, ↓eListR1, ↓eLenSet, ↓eRev, ↓eInR, ↓eApp, ↓ePop, ↓eValue, ↓xDrop, ↓xRet, ↓xSet, ↓xCall, ↓xCallV, ↓sRaise, ↓eCallVL, ↓eLam3, startNF, Bool.not_true, Bool.not_false, Bool.false_eq_true, ↓reduceIte, Bool.not_not])
        rw [rgs_new hn2]
        refine bsel_i (fun h3 => ?_) fun h3 => ?_
        · have h31 : 1 < per n ds os (i : Nat) := by
            have := of_decide_eq_true h3
            rw [List.length_map] at this
            omega
          rw [if_pos h31]
          refine ⟨_, _, rfl, rfl, (by rw [PySem.sizeLine_eq]; simp only [ringsA, List.length_map, List.length_cons, List.length_nil]; omega), f1 q _, _, _, melt_drop hq, ⟨_, _, rfl, .inl rfl, _, _, rfl, .inl rfl, some (.lst (ringsA (rgs n ds os i).1 ++ [.lst ((rg n ds os (i : Nat)).map .int)])), _, rfl, .inr (.inr ?_), _, _, rfl, .inl rfl, _, _, rfl, .inl rfl, _, _, rfl, .inl rfl, _, _, rfl, .inl rfl, _, _, rfl, .inl rfl, rfl⟩, (by first | trivial | rfl), some (.int (i : Nat)), some (.ref q), v6', v7', ?_⟩
          · simp only [Option.map_some, unfA, unfs_app, unfs_rings, unfAs]
            simp [f1]
          · rw [List.map_append]
            simp only [ringsA, List.map_append, List.map_cons, List.map_nil]
        · have h31 : ¬ 1 < per n ds os (i : Nat) := by
            have := of_decide_eq_false h3
            rw [List.length_map] at this
            omega
          rw [if_neg h31]
          refine ⟨_, _, rfl, rfl, (by rw [PySem.sizeLine_eq]; simp only [ringsA, List.length_map, List.length_cons, List.length_nil]; omega), f1 q _, _, _, melt_drop hq, ⟨_, _, rfl, .inl rfl, _, _, rfl, .inl rfl, _, _, rfl, .inl rfl, _, _, rfl, .inl rfl, _, _, rfl, .inl rfl, _, _, rfl, .inl rfl, _, _, rfl, .inl rfl, _, _, rfl, .inl rfl, rfl⟩, (by first | trivial | rfl), some (.int (i : Nat)), some (.ref q), v6', v7', ?_⟩
          rw [List.map_append, List.append_nil]
    · have hm : (i : Int) ∈ (rgs n ds os i).2 := by simpa using h
      rw [rgs_old hm]
      exact ⟨(by first | trivial | rfl), _, _, _, _, rfl⟩
  · rintro nv S' ⟨rfl, v4, v5, v6, v7, rfl⟩
    rw [rngA_len]
    (try simp only [startN, List.map_cons, List.map_nil, List.length_cons, List.length_nil, Nat.reduceAdd, Nat.reduceSub, Nat.zero_add, Nat.sub_self, List.replicate_succ, List.replicate_zero, List.reduceReplicate, List.cons_append, List.nil_append, List.append_nil, ↓sRet, ↓sRetN, ↓sSeq, ↓sNil, ↓sIf, ↓sSet, ↓sPar, ↓sPar3, ↓sAsg, ↓sDrop, ↓sSetL, ↓eAnd, ↓eOr, ↓eNot, ↓eIf, ↓eNeg, ↓eCall, ↓eCallK, ↓eCallV, ↓lCons, ↓lNil, ↓eVar, ↓eC, ↓eTup, ↓eLst, ↓eLstC, ↓eOp, ↓eSl, ↓oNo, ↓oPart, ↓eBits, ↓tBool, ↓tAndA, ↓tOrA, ↓tNotA, ↓List.getElem?_cons_zero, ↓List.getElem?_cons_succ, ↓List.set_cons_zero, ↓List.set_cons_succ, ↓rInt, ↓rInt0, ↓rAddA, ↓rEqA, ↓rIsA, ↓rMax2A, ↓rMin2A, ↓rIntA, ↓rAbsA, bsel_true, bsel_false, wipeN, gNm, tYesA, ↓isNon, ↓isBlOf, ↓isI, ↓isB, ↓isS, ↓isT, ↓isL, Bool.or_false, Bool.or_true, Bool.false_or, Bool.true_or, ↓wList, ↓eLc, ↓rLenA, ↓sFor, ↓sWhile, ↓wRng1, ↓wRng2, ↓wTup, ↓wEnum, ↓eChain, ↓eListR1, ↓eLenSet, ↓eRev, ↓eInR, ↓eApp, ↓ePop, ↓eValue, ↓xDrop, ↓xRet, ↓xSet, ↓xCall, ↓xCallV, ↓sRaise, ↓eCallVL, ↓eLam3, startNF, Bool.not_true, Bool.not_false, Bool.false_eq_true, ↓reduceIte, Bool.not_not])
    exact k
/-! ### rings_between -/
abbrev s_rings_between : Stmt := topS 26
theorem sc_rings_between : FnScope ["worths", "deal", "other_deal"] ["worths", "deal", "other_deal"] (defScope s_rings_between) := ⟨rfl, rfl, rfl, by decide +kernel, rfl, by decide +kernel, by decide +kernel⟩
theorem bd_rings_between (kV doc pm : Value) (an : Option Addr) (cdv ct : Value) (us : List Value) (hl : us.length = (["worths", "deal", "other_deal"] : List Str).length) : bindArgs (PySem.W.fnOf "rings_between" "rings_between" (defArgs s_rings_between) (defBody s_rings_between) (defScope s_rings_between) .none kV doc pm an cdv ct) ⟨us, []⟩ = pure ((["worths", "deal", "other_deal"] : List Str).zip us) :=
  match us, hl with | [_, _, _], _ => rfl
def sp_rbet (C D : Addr) : SpX := fun as S P PE => ∃ w x y, as = [w, x, y] ∧ gd 7 w = true ∧ gd 6 x = true ∧ gd 6 y = true ∧
  bsel (sqW w) (∃ ws, w = .lst ws ∧ bsel (dealA ws.length x) (∃ ds : List Int, x = .lst (ds.map .int) ∧ bsel (dealA ws.length y) (∃ os : List Int, y = .lst (os.map .int) ∧ ∀ p, S p = none → P (.ref p) (sup S p (.lst (ringsA (rgs ws.length ds os ws.length).1)))) (PE D y S)) (PE D x S)) (PE C w S)
--len by rintro as S P PE ⟨_, _, _, rfl, _⟩; rfl
theorem got_rings_between {P : Program} {w : World} {K : PySem.W.Frag} {mg : Str → Option Value} {base : Heap} {f_InvalidDeal f_InvalidWorths f_check_deal f_check_square f_cycles_between f_rings_between : Addr} (B : Bi mg) (D : Def K mg "rings_between" s_rings_between f_rings_between) (G_cycles_between : Got P w K mg base 1 ["deal", "other_deal"] "cycles_between" s_cycles_between f_cycles_between sp_cycles0) (G_check_square : GotX P w K mg base 5 ["worths"] "check_square" s_check_square f_check_square (sp_chk 7 sqW f_InvalidWorths)) (G_check_deal : GotX P w K mg base 5 ["size", "deal"] "check_deal" s_check_deal f_check_deal (sp_chkd f_InvalidDeal)) :
    GotX P w K mg base (5 + 1) ["worths", "deal", "other_deal"] "rings_between" s_rings_between f_rings_between (sp_rbet f_InvalidWorths f_InvalidDeal) := by
  refine gotx_of D sc_rings_between (by rintro as S P PE ⟨_, _, _, rfl, _⟩; rfl) (bd_rings_between) (fun cdv A0 outer s0_ H E hr tk hpo => ⟨_, (bx_cons (sx_expr (ex_call tk G_check_square (hr.mono (by omega)) (la_cons (ea_var 0) la_nil)))
      (bx_cons (sx_expr (ex_call tk G_check_deal (hr.mono (by omega)) (la_cons (ea_callB cx_len B.len_ (la_cons (ea_var 0) la_nil)) (la_cons (ea_var 1) la_nil))))
      (bx_cons (sx_expr (ex_call tk G_check_deal (hr.mono (by omega)) (la_cons (ea_callB cx_len B.len_ (la_cons (ea_var 0) la_nil)) (la_cons (ea_var 2) la_nil))))
      (bx_one (sx_of (sa_ret (ea_call G_cycles_between (hr.mono (by omega)) (la_cons (ea_var 1) (la_cons (ea_var 2) la_nil))))))))), fun as S P PE h => ?_⟩)
  obtain ⟨w, x, y, rfl, hk, hx, hy, k⟩ := h
  (try simp only [startN, List.map_cons, List.map_nil, List.length_cons, List.length_nil, Nat.reduceAdd, Nat.reduceSub, Nat.zero_add, Nat.sub_self, List.replicate_succ, List.replicate_zero, List.reduceReplicate, List.cons_append, List.nil_append, List.append_nil, ↓sRet, ↓sRetN, ↓sSeq, ↓sNil, ↓sIf, ↓sSet, ↓sPar, ↓sPar3, ↓sAsg, ↓sDrop, ↓sSetL, ↓eAnd, ↓eOr, ↓eNot, ↓eIf, ↓eNeg, ↓eCall, ↓eCallK, ↓eCallV, ↓lCons, ↓lNil, ↓eVar, ↓eC, ↓eTup, ↓eLst, ↓eLstC, ↓eOp, ↓eSl, ↓oNo, ↓oPart, ↓eBits, ↓tBool, ↓tAndA, ↓tOrA, ↓tNotA, ↓List.getElem?_cons_zero, ↓List.getElem?_cons_succ, ↓List.set_cons_zero, ↓List.set_cons_succ, ↓rInt, ↓rInt0, ↓rAddA, ↓rEqA, ↓rIsA, ↓rMax2A, ↓rMin2A, ↓rIntA, ↓rAbsA, bsel_true, bsel_false, wipeN, gNm, tYesA, ↓isNon, ↓isBlOf, ↓isI, ↓isB, ↓isS, ↓isT, ↓isL, Bool.or_false, Bool.or_true, Bool.false_or, Bool.true_or, ↓wList, ↓eLc, ↓rLenA, ↓sFor, ↓sWhile, ↓wRng1, ↓wRng2, ↓wTup, ↓wEnum, ↓eChain, ↓eListR1, ↓eLenSet, ↓eRev, ↓eInR, ↓eApp, ↓ePop, ↓eValue, ↓xDrop, ↓xRet, ↓xSet, ↓xCall, ↓xCallV, ↓sRaise, ↓eCallVL, ↓eLam3, startNF, Bool.not_true, Bool.not_false, Bool.false_eq_true, ↓reduceIte, Bool.not_not])
  refine ⟨w, rfl, hk, ?_⟩
  cases e : sqW w with
  | false => rw [e] at k; (try simp only [startN, List.map_cons, List.map_nil, List.length_cons, List.length_nil, Nat.reduceAdd, Nat.reduceSub, Nat.zero_add, Nat.sub_self, List.replicate_succ, List.replicate_zero, List.reduceReplicate, List.cons_append, List.nil_append, List.append_nil, ↓sRet, ↓sRetN, ↓sSeq, ↓sNil, ↓sIf, ↓sSet, ↓sPar, ↓sPar3, ↓sAsg, ↓sDrop, ↓sSetL, ↓eAnd, ↓eOr, ↓eNot, ↓eIf, ↓eNeg, ↓eCall, ↓eCallK, ↓eCallV, ↓lCons, ↓lNil, ↓eVar, ↓eC, ↓eTup, ↓eLst, ↓eLstC, ↓eOp, ↓eSl, ↓oNo, ↓oPart, ↓eBits, ↓tBool, ↓tAndA, ↓tOrA, ↓tNotA, ↓List.getElem?_cons_zero, ↓List.getElem?_cons_succ, ↓List.set_cons_zero, ↓List.set_cons_succ, ↓rInt, ↓rInt0, ↓rAddA, ↓rEqA, ↓rIsA, ↓rMax2A, ↓rMin2A, ↓rIntA, ↓rAbsA, bsel_true, bsel_false, wipeN, gNm, tYesA, ↓isNon, ↓isBlOf, ↓isI, ↓isB, ↓isS, ↓isT, ↓isL, Bool.or_false, Bool.or_true, Bool.false_or, Bool.true_or, ↓wList, ↓eLc, ↓rLenA, ↓sFor, ↓sWhile, ↓wRng1, ↓wRng2, ↓wTup, ↓wEnum, ↓eChain, ↓eListR1, ↓eLenSet, ↓eRev, ↓eInR, ↓eApp, ↓ePop, ↓eValue, ↓xDrop, ↓xRet, ↓xSet, ↓xCall, ↓xCallV, ↓sRaise, ↓eCallVL, ↓eLam3, startNF, Bool.not_true, Bool.not_false, Bool.false_eq_true, ↓reduceIte, Bool.not_not]); exact k
  | true =>
    rw [e] at k
    obtain ⟨ws, rfl, k⟩ := k
    have hl := sq_len e
    (try simp only [startN, List.map_cons, List.map_nil, List.length_cons, List.length_nil, Nat.reduceAdd, Nat.reduceSub, Nat.zero_add, Nat.sub_self, List.replicate_succ, List.replicate_zero, List.reduceReplicate, List.cons_append, List.nil_append, List.append_nil, ↓sRet, ↓sRetN, ↓sSeq, ↓sNil, ↓sIf, ↓sSet, ↓sPar, ↓sPar3, ↓sAsg, ↓sDrop, ↓sSetL, ↓eAnd, ↓eOr, ↓eNot, ↓eIf, ↓eNeg, ↓eCall, ↓eCallK, ↓eCallV, ↓lCons, ↓lNil, ↓eVar, ↓eC, ↓eTup, ↓eLst, ↓eLstC, ↓eOp, ↓eSl, ↓oNo, ↓oPart, ↓eBits, ↓tBool, ↓tAndA, ↓tOrA, ↓tNotA, ↓List.getElem?_cons_zero, ↓List.getElem?_cons_succ, ↓List.set_cons_zero, ↓List.set_cons_succ, ↓rInt, ↓rInt0, ↓rAddA, ↓rEqA, ↓rIsA, ↓rMax2A, ↓rMin2A, ↓rIntA, ↓rAbsA, bsel_true, bsel_false, wipeN, gNm, tYesA, ↓isNon, ↓isBlOf, ↓isI, ↓isB, ↓isS, ↓isT, ↓isL, Bool.or_false, Bool.or_true, Bool.false_or, Bool.true_or, ↓wList, ↓eLc, ↓rLenA, ↓sFor, ↓sWhile, ↓wRng1, ↓wRng2, ↓wTup, ↓wEnum, ↓eChain, ↓eListR1, ↓eLenSet, ↓eRev, ↓eInR, ↓eApp, ↓ePop, ↓eValue, ↓xDrop, ↓xRet, ↓xSet, ↓xCall, ↓xCallV, ↓sRaise, ↓eCallVL, ↓eLam3, startNF, Bool.not_true, Bool.not_false, Bool.false_eq_true, ↓reduceIte, Bool.not_not])
    refine ⟨ws, rfl, x, ws.length, rfl, by omega, hx, ?_⟩
    cases e2 : dealA ws.length x with
    | false => rw [e2] at k; (try simp only [startN, List.map_cons, List.map_nil, List.length_cons, List.length_nil, Nat.reduceAdd, Nat.reduceSub, Nat.zero_add, Nat.sub_self, List.replicate_succ, List.replicate_zero, List.reduceReplicate, List.cons_append, List.nil_append, List.append_nil, ↓sRet, ↓sRetN, ↓sSeq, ↓sNil, ↓sIf, ↓sSet, ↓sPar, ↓sPar3, ↓sAsg, ↓sDrop, ↓sSetL, ↓eAnd, ↓eOr, ↓eNot, ↓eIf, ↓eNeg, ↓eCall, ↓eCallK, ↓eCallV, ↓lCons, ↓lNil, ↓eVar, ↓eC, ↓eTup, ↓eLst, ↓eLstC, ↓eOp, ↓eSl, ↓oNo, ↓oPart, ↓eBits, ↓tBool, ↓tAndA, ↓tOrA, ↓tNotA, ↓List.getElem?_cons_zero, ↓List.getElem?_cons_succ, ↓List.set_cons_zero, ↓List.set_cons_succ, ↓rInt, ↓rInt0, ↓rAddA, ↓rEqA, ↓rIsA, ↓rMax2A, ↓rMin2A, ↓rIntA, ↓rAbsA, bsel_true, bsel_false, wipeN, gNm, tYesA, ↓isNon, ↓isBlOf, ↓isI, ↓isB, ↓isS, ↓isT, ↓isL, Bool.or_false, Bool.or_true, Bool.false_or, Bool.true_or, ↓wList, ↓eLc, ↓rLenA, ↓sFor, ↓sWhile, ↓wRng1, ↓wRng2, ↓wTup, ↓wEnum, ↓eChain, ↓eListR1, ↓eLenSet, ↓eRev, ↓eInR, ↓eApp, ↓ePop, ↓eValue, ↓xDrop, ↓xRet, ↓xSet, ↓xCall, ↓xCallV, ↓sRaise, ↓eCallVL, ↓eLam3, startNF, Bool.not_true, Bool.not_false, Bool.false_eq_true, ↓reduceIte, Bool.not_not]); exact k
    | true =>
      rw [e2] at k
      obtain ⟨ds, rfl, k⟩ := k
      (try simp only [startN, List.map_cons, List.map_nil, List.length_cons, List.length_nil, Nat.reduceAdd, Nat.reduceSub, Nat.zero_add, Nat.sub_self, List.replicate_succ, List.replicate_zero, List.reduceReplicate, List.cons_append, List.nil_append, List.append_nil, ↓sRet, ↓sRetN, ↓sSeq, ↓sNil, ↓sIf, ↓sSet, ↓sPar, ↓sPar3, ↓sAsg, ↓sDrop, ↓sSetL, ↓eAnd, ↓eOr, ↓eNot, ↓eIf, ↓eNeg, ↓eCall, ↓eCallK, ↓eCallV, ↓lCons, ↓lNil, ↓eVar, ↓eC, ↓eTup, ↓eLst, ↓eLstC, ↓eOp, ↓eSl, ↓oNo, ↓oPart, ↓eBits, ↓tBool, ↓tAndA, ↓tOrA, ↓tNotA, ↓List.getElem?_cons_zero, ↓List.getElem?_cons_succ, ↓List.set_cons_zero, ↓List.set_cons_succ, ↓rInt, ↓rInt0, ↓rAddA, ↓rEqA, ↓rIsA, ↓rMax2A, ↓rMin2A, ↓rIntA, ↓rAbsA, bsel_true, bsel_false, wipeN, gNm, tYesA, ↓isNon, ↓isBlOf, ↓isI, ↓isB, ↓isS, ↓isT, ↓isL, Bool.or_false, Bool.or_true, Bool.false_or, Bool.true_or, ↓wList, ↓eLc, ↓rLenA, ↓sFor, ↓sWhile, ↓wRng1, ↓wRng2, ↓wTup, ↓wEnum, ↓eChain, ↓eListR1, ↓eLenSet, ↓eRev, ↓eInR, ↓eApp, ↓ePop, ↓eValue, ↓xDrop, ↓xRet, ↓xSet, ↓xCall, ↓xCallV, ↓sRaise, ↓eCallVL, ↓eLam3, startNF, Bool.not_true, Bool.not_false, Bool.false_eq_true, ↓reduceIte, Bool.not_not])
      refine ⟨ws, rfl, y, ws.length, rfl, by omega, hy, ?_⟩
      cases e3 : dealA ws.length y with
      | false => rw [e3] at k; (try simp only [startN, List.map_cons, List.map_nil, List.length_cons, List.length_nil, Nat.reduceAdd, Nat.reduceSub, Nat.zero_add, Nat.sub_self, List.replicate_succ, List.replicate_zero, List.reduceReplicate, List.cons_append, List.nil_append, List.append_nil, ↓sRet, ↓sRetN, ↓sSeq, ↓sNil, ↓sIf, ↓sSet, ↓sPar, ↓sPar3, ↓sAsg, ↓sDrop, ↓sSetL, ↓eAnd, ↓eOr, ↓eNot, ↓eIf, ↓eNeg, ↓eCall, ↓eCallK, ↓eCallV, ↓lCons, ↓lNil, ↓eVar, ↓eC, ↓eTup, ↓eLst, ↓eLstC, ↓eOp, ↓eSl, ↓oNo, ↓oPart, ↓eBits, ↓tBool, ↓tAndA, ↓tOrA, ↓tNotA, ↓List.getElem?_cons_zero, ↓List.getElem?_cons_succ, ↓List.set_cons_zero, ↓List.set_cons_succ, ↓rInt, ↓rInt0, ↓rAddA, ↓rEqA, ↓rIsA, ↓rMax2A, ↓rMin2A, ↓rIntA, ↓rAbsA, bsel_true, bsel_false, wipeN, gNm, tYesA, ↓isNon, ↓isBlOf, ↓isI, ↓isB, ↓isS, ↓isT, ↓isL, Bool.or_false, Bool.or_true, Bool.false_or, Bool.true_or, ↓wList, ↓eLc, ↓rLenA, ↓sFor, ↓sWhile, ↓wRng1, ↓wRng2, ↓wTup, ↓wEnum, ↓eChain, ↓eListR1, ↓eLenSet, ↓eRev, ↓eInR, ↓eApp, ↓ePop, ↓eValue, ↓xDrop, ↓xRet, ↓xSet, ↓xCall, ↓xCallV, ↓sRaise, ↓eCallVL, ↓eLam3, startNF, Bool.not_true, Bool.not_false, Bool.false_eq_true, ↓reduceIte, Bool.not_not]); exact k
      | true =>
        rw [e3] at k
        obtain ⟨os, rfl, k⟩ := k
        (try simp only [startN, List.map_cons, List.map_nil, List.length_cons, List.length_nil, Nat.reduceAdd, Nat.reduceSub, Nat.zero_add, Nat.sub_self, List.replicate_succ, List.replicate_zero, List.reduceReplicate, List.cons_append, List.nil_append, List.append_nil, ↓sRet, ↓sRetN, ↓sSeq, ↓sNil, ↓sIf, ↓sSet, ↓sPar, ↓sPar3, ↓sAsg, ↓sDrop, ↓sSetL, ↓eAnd, ↓eOr, ↓eNot, ↓eIf, ↓eNeg, ↓eCall, ↓eCallK, ↓eCallV, ↓lCons, ↓lNil, ↓eVar, ↓eC, ↓eTup, ↓eLst, ↓eLstC, ↓eOp, ↓eSl, ↓oNo, ↓oPart, ↓eBits, ↓tBool, ↓tAndA, ↓tOrA, ↓tNotA, ↓List.getElem?_cons_zero, ↓List.getElem?_cons_succ, ↓List.set_cons_zero, ↓List.set_cons_succ, ↓rInt, ↓rInt0, ↓rAddA, ↓rEqA, ↓rIsA, ↓rMax2A, ↓rMin2A, ↓rIntA, ↓rAbsA, bsel_true, bsel_false, wipeN, gNm, tYesA, ↓isNon, ↓isBlOf, ↓isI, ↓isB, ↓isS, ↓isT, ↓isL, Bool.or_false, Bool.or_true, Bool.false_or, Bool.true_or, ↓wList, ↓eLc, ↓rLenA, ↓sFor, ↓sWhile, ↓wRng1, ↓wRng2, ↓wTup, ↓wEnum, ↓eChain, ↓eListR1, ↓eLenSet, ↓eRev, ↓eInR, ↓eApp, ↓ePop, ↓eValue, ↓xDrop, ↓xRet, ↓xSet, ↓xCall, ↓xCallV, ↓sRaise, ↓eCallVL, ↓eLam3, startNF, Bool.not_true, Bool.not_false, Bool.false_eq_true, ↓reduceIte, Bool.not_not])
        exact ⟨ws.length, ds, os, rfl, by omega, deal_dl e2, deal_dl e3, k⟩
/-- .. of what is right, nothing raised -/
def sp_ring3C (C D R : Addr) (G : List A → List Int → List Int → (A → Sto → Prop) → Sto → Prop) : SpA := fun as S Q => sp_ring3 C D R G as S Q fun _ _ _ => False
def sp_rbetC (C D : Addr) : SpA := fun as S Q => sp_rbet C D as S Q fun _ _ _ => False
def sp_isringC (C : Addr) : SpA := fun as S Q => sp_isring C as S Q fun _ _ _ => False
def sp_handed : SpA := fun as S P => ∃ (n : Nat) (ds rs : List Int), as = [.lst (ds.map .int), .lst (rs.map .int)] ∧ n ≤ 1000 ∧ ds.length = n ∧ Rg n rs ∧ P (.lst ((handA ds rs).map .int)) S
theorem handed_got {P : Program} {w : World} {K : PySem.W.Frag} {mg : Str → Option Value} {base : Heap} {x : Str} {k : Nat} {ps : List Str} {st : Stmt} {f : Addr} (G : Got P w K mg base k ps x st f sp_handed0) : Got P w K mg base k ps x st f sp_handed :=
  G.thaw.imp fun as S Q ⟨n, ds, rs, e, h1, h2, h3, k⟩ => ⟨Q, ⟨n, ds, rs, e, h1, h2, h3, fun p hp => ⟨S, p, _, rfl, hp, rfl, k⟩⟩, fun _ _ h => h⟩
/-- _law_same, asked of lists of the store too -/
def F_same (n : Nat) : List A → (A → Prop) → Prop := fun as Q => ∃ t d : A, as = [t, d] ∧ nr t = true ∧ nr d = true ∧ dle n d = true ∧ ∀ b : Bool, (b = true ↔ t = d) → Q (.bl b)
theorem same_got {P : Program} {w : World} {K : PySem.W.Frag} {mg : Str → Option Value} {base : Heap} {x : Str} {k n : Nat} {ps : List Str} {st : Stmt} {f : Addr} (G : Got P w K mg base k ps x st f (sp__law_same n)) : Got P w K mg base k ps x st f (resSp (F_same n)) :=
  Got.res (F := F_same n) G fun as p q h ⟨t, d, h1, h2, h3, h4, h5⟩ => ⟨t, d, h1, h2, h3, h4, fun b hb => h _ (h5 b hb)⟩
def keeps (S S' : Sto) : Prop := ∀ b c, S b = some c → S' b = some c
structure Okk (S S' : Sto) : Prop where
  kp : keeps S S'
  nl : noLam S'
theorem Okk.put {S S' : Sto} {p : Addr} {xs : List A} (h : Okk S S') (hp : S' p = none) : Okk S (sup S' p (.lst xs)) := ⟨fun b c e => by
  have q := h.kp b c e
  rw [sup_ne]
  · exact q
  · exact fun z => (by rw [z, hp] at q; cases q), noLam_sup h.nl trivial⟩
theorem Okk.set {S S' : Sto} {p : Addr} {xs : List A} (h : Okk S S') (hp : S p = none) : Okk S (sup S' p (.lst xs)) := ⟨fun b c e => by
  rw [sup_ne]
  · exact h.kp b c e
  · exact fun z => (by rw [z, hp] at e; cases e), noLam_sup h.nl trivial⟩
structure CaseR (n : Nat) (ws : List A) (ds os : List Int) : Prop where
  m1 : 2 ≤ n
  m2 : n ≤ 12
  sq : sqW (.lst ws) = true
  wl : ws.length = n
  dl : dealA n (.lst (ds.map .int)) = true
  ol : dealA n (.lst (os.map .int)) = true
theorem setAll_mem : ∀ (l : List (Nat × Int)) (f : List Int) (x : Int), x ∈ setAll l f → x ∈ f ∨ ∃ p ∈ l, x = p.2
  | [], f, x, h => .inl h
  | p :: l, f, x, h => by
    rcases setAll_mem l (f.set p.1 p.2) x h with h | ⟨q, hq, e⟩
    · rcases List.mem_or_eq_of_mem_set h with h | h
      · exact .inl h
      · exact .inr ⟨p, List.mem_cons_self, h⟩
    · exact .inr ⟨q, List.mem_cons_of_mem _ hq, e⟩
theorem hand_bd {n : Nat} {ds rs : List Int} (d : Dl n ds) (R : Rg n rs) : ∀ x ∈ handA ds rs, 0 ≤ x ∧ x < (n : Int) := fun x hx => by
  rcases setAll_mem _ _ x hx with h | ⟨p, hp, e⟩
  · exact d.bd x h
  · obtain ⟨i, hi, rfl⟩ := List.mem_map.mp hp
    have b := R.bd _ (Lay.getD_mem (List.mem_range.mp hi))
    rw [e]
    exact d.at_ b.1 b.2
theorem gd_rings {f : List (List Int)} (h : ∀ r ∈ f, r.length ≤ 1000) (hl : f.length ≤ 1000) : gd 3 (.lst (ringsA f)) = true := by
  refine gd_lst_of (fun x hx => ?_) (by simp only [ringsA, List.length_map]; omega)
  obtain ⟨r, hr, rfl⟩ := List.mem_map.mp hx
  have := h r hr
  exact gd_lst_of gd_ints (by rw [List.length_map]; omega)
theorem rgs_self {n : Nat} {ds : List Int} (d : Dl n ds) : (rgs n ds ds n).1 = [] := by
  have R := rgs_ok d d n (Nat.le_refl _)
  cases e : (rgs n ds ds n).1 with
  | nil => rfl
  | cons r f =>
    exfalso
    obtain ⟨R1, L, h2, _⟩ := R.rg r (by rw [e]; exact List.mem_cons_self)
    have h0 := L 0 (by omega)
    have hb := R1.bd _ (prv_mem (i := 0) (by omega))
    have q := nx_at d d hb
    have q2 := d.inj (nx_bd d d hb) hb q
    rw [q2] at h0
    unfold prv at h0
    rw [if_pos rfl] at h0
    have nd := List.pairwise_iff_getElem.mp (List.nodup_iff_pairwise_ne.mp R1.nd) 0 (r.length - 1) (by omega) (by omega) (by omega)
    rw [List.getD_eq_getElem?_getD, List.getD_eq_getElem?_getD, List.getElem?_eq_getElem (by omega), List.getElem?_eq_getElem (by omega)] at h0
    exact nd h0
theorem take_rg {n k : Nat} {rs : List Int} (h : dealA n (.lst (rs.map .int)) = true) : Rg n (rs.take k) := by
  have d := deal_dl h
  exact ⟨d.nd.sublist (List.take_sublist _ _), fun x hx => d.bd x ((List.take_subset _ _) hx)⟩
def kinds : List Str := ["InvalidDeal", "InvalidRing", "InvalidWorths"]
/-- a call of a held def that may raise -/
def sp__law_callX (T : TabX) : SpX := fun as S P PE => ∃ (f : Addr) (xs : List A) (sp : SpX), as = [.ref f, .lst xs] ∧ 1 ≤ xs.length ∧ xs.length ≤ 6 ∧ T f = some sp ∧ sp xs S P PE
/-- what it raises, caught -/
def sp_mark (T : TabX) (Te : TabE) : SpA := fun as S P => ∃ (f : Addr) (xs : List A) (sp : SpX), as = [.ref f, .lst xs] ∧ 1 ≤ xs.length ∧ xs.length ≤ 6 ∧ T f = some sp ∧
  sp xs S (fun _ S' => P .non S') fun C v S' => isErr Te C ∧ ∀ a dx, S' a = none → P (.ref a) (sup S' a (.exc C dx v))
def sp_markX (T : TabX) (Te : TabE) : SpX := fun as S P _ => sp_mark T Te as S P
/-- the kind of what was caught -/
def sp_kind (Te : TabE) : SpA := fun as S P => ∃ (a C dx : Addr) (v : A) (x : Str), as = [.ref a, .str x] ∧ S a = some (.exc C dx v) ∧ Te C = some x ∧ x ∈ kinds ∧ P (.bl true) S
/-! ### _law_call -/
abbrev s__law_call : Stmt := topS 37
theorem sc__law_call : FnScope ["deed", "args"] ["deed", "args"] (defScope s__law_call) := ⟨rfl, rfl, rfl, by decide +kernel, rfl, by decide +kernel, by decide +kernel⟩
theorem bd__law_call (kV doc pm : Value) (an : Option Addr) (cdv ct : Value) (us : List Value) (hl : us.length = (["deed", "args"] : List Str).length) : bindArgs (PySem.W.fnOf "_law_call" "_law_call" (defArgs s__law_call) (defBody s__law_call) (defScope s__law_call) .none kV doc pm an cdv ct) ⟨us, []⟩ = pure ((["deed", "args"] : List Str).zip us) :=
  match us, hl with | [_, _], _ => rfl
--len by rintro as S P PE ⟨_, _, _, rfl, _⟩; rfl
--table Tx X is_ring=sp_isring f_InvalidWorths|ring_gain=sp_ring3 f_InvalidWorths f_InvalidDeal f_InvalidRing g_gain|handed_on=sp_ring3 f_InvalidWorths f_InvalidDeal f_InvalidRing g_hand|rings_between=sp_rbet f_InvalidWorths f_InvalidDeal
theorem got__law_call {P : Program} {w : World} {K : PySem.W.Frag} {mg : Str → Option Value} {base : Heap} {f__law_call : Addr} {T : TabX} (B : Bi mg) (D : Def K mg "_law_call" s__law_call f__law_call) (HT : HeldX P w K mg base 6 T) :
    GotX P w K mg base (6 + 1) ["deed", "args"] "_law_call" s__law_call f__law_call (sp__law_callX T) := by
  refine gotx_of D sc__law_call (by rintro as S P PE ⟨_, _, _, rfl, _⟩; rfl) (bd__law_call) (fun cdv A0 outer s0_ H E hr tk hpo => ⟨_, (bx_cons (sx_if (tt_cmp (oa_eq hr.units) (ea_callB cx_len B.len_ (la_cons (ea_var 1) la_nil)) ea_int) (bx_one (sx_ret (ex_callV 0 tk HT (hr.mono (by omega)) (la_cons (ea_ix (ea_var 1) ea_int) la_nil)))) bx_nil)
      (bx_cons (sx_if (tt_cmp (oa_eq hr.units) (ea_callB cx_len B.len_ (la_cons (ea_var 1) la_nil)) ea_int) (bx_one (sx_ret (ex_callV 0 tk HT (hr.mono (by omega)) (la_cons (ea_ix (ea_var 1) ea_int) (la_cons (ea_ix (ea_var 1) ea_int) la_nil))))) bx_nil)
      (bx_cons (sx_if (tt_cmp (oa_eq hr.units) (ea_callB cx_len B.len_ (la_cons (ea_var 1) la_nil)) ea_int) (bx_one (sx_ret (ex_callV 0 tk HT (hr.mono (by omega)) (la_cons (ea_ix (ea_var 1) ea_int) (la_cons (ea_ix (ea_var 1) ea_int) (la_cons (ea_ix (ea_var 1) ea_int) la_nil)))))) bx_nil)
      (bx_cons (sx_if (tt_cmp (oa_eq hr.units) (ea_callB cx_len B.len_ (la_cons (ea_var 1) la_nil)) ea_int) (bx_one (sx_ret (ex_callV 0 tk HT (hr.mono (by omega)) (la_cons (ea_ix (ea_var 1) ea_int) (la_cons (ea_ix (ea_var 1) ea_int) (la_cons (ea_ix (ea_var 1) ea_int) (la_cons (ea_ix (ea_var 1) ea_int) la_nil))))))) bx_nil)
      (bx_cons (sx_if (tt_cmp (oa_eq hr.units) (ea_callB cx_len B.len_ (la_cons (ea_var 1) la_nil)) ea_int) (bx_one (sx_ret (ex_callV 0 tk HT (hr.mono (by omega)) (la_cons (ea_ix (ea_var 1) ea_int) (la_cons (ea_ix (ea_var 1) ea_int) (la_cons (ea_ix (ea_var 1) ea_int) (la_cons (ea_ix (ea_var 1) ea_int) (la_cons (ea_ix (ea_var 1) ea_int) la_nil)))))))) bx_nil)
      (bx_one (sx_ret (ex_callV 0 tk HT (hr.mono (by omega)) (la_cons (ea_ix (ea_var 1) ea_int) (la_cons (ea_ix (ea_var 1) ea_int) (la_cons (ea_ix (ea_var 1) ea_int) (la_cons (ea_ix (ea_var 1) ea_int) (la_cons (ea_ix (ea_var 1) ea_int) (la_cons (ea_ix (ea_var 1) ea_int) la_nil)))))))))))))), fun as S P PE h => ?_⟩)
  obtain ⟨f, xs, sp, rfl, h1, h6, hT, k⟩ := h
  match xs, h1, h6 with
  | [a], _, _ =>
    (try simp only [startN, List.map_cons, List.map_nil, List.length_cons, List.length_nil, Nat.reduceAdd, Nat.reduceSub, Nat.zero_add, Nat.sub_self, List.replicate_succ, List.replicate_zero, List.reduceReplicate, List.cons_append, List.nil_append, List.append_nil, ↓sRet, ↓sRetN, ↓sSeq, ↓sNil, ↓sIf, ↓sSet, ↓sPar, ↓sPar3, ↓sAsg, ↓sDrop, ↓sSetL, ↓eAnd, ↓eOr, ↓eNot, ↓eIf, ↓eNeg, ↓eCall, ↓eCallK, ↓eCallV, ↓lCons, ↓lNil, ↓eVar, ↓eC, ↓eTup, ↓eLst, ↓eLstC, ↓eOp, ↓eSl, ↓oNo, ↓oPart, ↓eBits, ↓tBool, ↓tAndA, ↓tOrA, ↓tNotA, ↓List.getElem?_cons_zero, ↓List.getElem?_cons_succ, ↓List.set_cons_zero, ↓List.set_cons_succ, ↓rInt, ↓rInt0, ↓rAddA, ↓rEqA, ↓rIsA, ↓rMax2A, ↓rMin2A, ↓rIntA, ↓rAbsA, bsel_true, bsel_false, wipeN, gNm, tYesA, ↓isNon, ↓isBlOf, ↓isI, ↓isB, ↓isS, ↓isT, ↓isL, Bool.or_false, Bool.or_true, Bool.false_or, Bool.true_or, ↓wList, ↓eLc, ↓rLenA, ↓sFor, ↓sWhile, ↓wRng1, ↓wRng2, ↓wTup, ↓wEnum, ↓eChain, ↓eListR1, ↓eLenSet, ↓eRev, ↓eInR, ↓eApp, ↓ePop, ↓eValue, ↓xDrop, ↓xRet, ↓xSet, ↓xCall, ↓xCallV, ↓sRaise, ↓eCallVL, ↓eLam3, startNF, Bool.not_true, Bool.not_false, Bool.false_eq_true, ↓reduceIte, Bool.not_not])
    exact ⟨_, rfl, bsel_t rfl ⟨sp, hT, _, _, rfl, rfl, k⟩⟩
  | [a, b], _, _ =>
    (try simp only [startN, List.map_cons, List.map_nil, List.length_cons, List.length_nil, Nat.reduceAdd, Nat.reduceSub, Nat.zero_add, Nat.sub_self, List.replicate_succ, List.replicate_zero, List.reduceReplicate, List.cons_append, List.nil_append, List.append_nil, ↓sRet, ↓sRetN, ↓sSeq, ↓sNil, ↓sIf, ↓sSet, ↓sPar, ↓sPar3, ↓sAsg, ↓sDrop, ↓sSetL, ↓eAnd, ↓eOr, ↓eNot, ↓eIf, ↓eNeg, ↓eCall, ↓eCallK, ↓eCallV, ↓lCons, ↓lNil, ↓eVar, ↓eC, ↓eTup, ↓eLst, ↓eLstC, ↓eOp, ↓eSl, ↓oNo, ↓oPart, ↓eBits, ↓tBool, ↓tAndA, ↓tOrA, ↓tNotA, ↓List.getElem?_cons_zero, ↓List.getElem?_cons_succ, ↓List.set_cons_zero, ↓List.set_cons_succ, ↓rInt, ↓rInt0, ↓rAddA, ↓rEqA, ↓rIsA, ↓rMax2A, ↓rMin2A, ↓rIntA, ↓rAbsA, bsel_true, bsel_false, wipeN, gNm, tYesA, ↓isNon, ↓isBlOf, ↓isI, ↓isB, ↓isS, ↓isT, ↓isL, Bool.or_false, Bool.or_true, Bool.false_or, Bool.true_or, ↓wList, ↓eLc, ↓rLenA, ↓sFor, ↓sWhile, ↓wRng1, ↓wRng2, ↓wTup, ↓wEnum, ↓eChain, ↓eListR1, ↓eLenSet, ↓eRev, ↓eInR, ↓eApp, ↓ePop, ↓eValue, ↓xDrop, ↓xRet, ↓xSet, ↓xCall, ↓xCallV, ↓sRaise, ↓eCallVL, ↓eLam3, startNF, Bool.not_true, Bool.not_false, Bool.false_eq_true, ↓reduceIte, Bool.not_not])
    exact ⟨_, rfl, bsel_f rfl ⟨_, rfl, bsel_t rfl ⟨sp, hT, _, _, rfl, rfl, _, _, rfl, rfl, k⟩⟩⟩
  | [a, b, c], _, _ =>
    (try simp only [startN, List.map_cons, List.map_nil, List.length_cons, List.length_nil, Nat.reduceAdd, Nat.reduceSub, Nat.zero_add, Nat.sub_self, List.replicate_succ, List.replicate_zero, List.reduceReplicate, List.cons_append, List.nil_append, List.append_nil, ↓sRet, ↓sRetN, ↓sSeq, ↓sNil, ↓sIf, ↓sSet, ↓sPar, ↓sPar3, ↓sAsg, ↓sDrop, ↓sSetL, ↓eAnd, ↓eOr, ↓eNot, ↓eIf, ↓eNeg, ↓eCall, ↓eCallK, ↓eCallV, ↓lCons, ↓lNil, ↓eVar, ↓eC, ↓eTup, ↓eLst, ↓eLstC, ↓eOp, ↓eSl, ↓oNo, ↓oPart, ↓eBits, ↓tBool, ↓tAndA, ↓tOrA, ↓tNotA, ↓List.getElem?_cons_zero, ↓List.getElem?_cons_succ, ↓List.set_cons_zero, ↓List.set_cons_succ, ↓rInt, ↓rInt0, ↓rAddA, ↓rEqA, ↓rIsA, ↓rMax2A, ↓rMin2A, ↓rIntA, ↓rAbsA, bsel_true, bsel_false, wipeN, gNm, tYesA, ↓isNon, ↓isBlOf, ↓isI, ↓isB, ↓isS, ↓isT, ↓isL, Bool.or_false, Bool.or_true, Bool.false_or, Bool.true_or, ↓wList, ↓eLc, ↓rLenA, ↓sFor, ↓sWhile, ↓wRng1, ↓wRng2, ↓wTup, ↓wEnum, ↓eChain, ↓eListR1, ↓eLenSet, ↓eRev, ↓eInR, ↓eApp, ↓ePop, ↓eValue, ↓xDrop, ↓xRet, ↓xSet, ↓xCall, ↓xCallV, ↓sRaise, ↓eCallVL, ↓eLam3, startNF, Bool.not_true, Bool.not_false, Bool.false_eq_true, ↓reduceIte, Bool.not_not])
    exact ⟨_, rfl, bsel_f rfl ⟨_, rfl, bsel_f rfl ⟨_, rfl, bsel_t rfl ⟨sp, hT, _, _, rfl, rfl, _, _, rfl, rfl, _, _, rfl, rfl, k⟩⟩⟩⟩
  | [a, b, c, d], _, _ =>
    (try simp only [startN, List.map_cons, List.map_nil, List.length_cons, List.length_nil, Nat.reduceAdd, Nat.reduceSub, Nat.zero_add, Nat.sub_self, List.replicate_succ, List.replicate_zero, List.reduceReplicate, List.cons_append, List.nil_append, List.append_nil, ↓sRet, ↓sRetN, ↓sSeq, ↓sNil, ↓sIf, ↓sSet, ↓sPar, ↓sPar3, ↓sAsg, ↓sDrop, ↓sSetL, ↓eAnd, ↓eOr, ↓eNot, ↓eIf, ↓eNeg, ↓eCall, ↓eCallK, ↓eCallV, ↓lCons, ↓lNil, ↓eVar, ↓eC, ↓eTup, ↓eLst, ↓eLstC, ↓eOp, ↓eSl, ↓oNo, ↓oPart, ↓eBits, ↓tBool, ↓tAndA, ↓tOrA, ↓tNotA, ↓List.getElem?_cons_zero, ↓List.getElem?_cons_succ, ↓List.set_cons_zero, ↓List.set_cons_succ, ↓rInt, ↓rInt0, ↓rAddA, ↓rEqA, ↓rIsA, ↓rMax2A, ↓rMin2A, ↓rIntA, ↓rAbsA, bsel_true, bsel_false, wipeN, gNm, tYesA, ↓isNon, ↓isBlOf, ↓isI, ↓isB, ↓isS, ↓isT, ↓isL, Bool.or_false, Bool.or_true, Bool.false_or, Bool.true_or, ↓wList, ↓eLc, ↓rLenA, ↓sFor, ↓sWhile, ↓wRng1, ↓wRng2, ↓wTup, ↓wEnum, ↓eChain, ↓eListR1, ↓eLenSet, ↓eRev, ↓eInR, ↓eApp, ↓ePop, ↓eValue, ↓xDrop, ↓xRet, ↓xSet, ↓xCall, ↓xCallV, ↓sRaise, ↓eCallVL, ↓eLam3, startNF, Bool.not_true, Bool.not_false, Bool.false_eq_true, ↓reduceIte, Bool.not_not])
    exact ⟨_, rfl, bsel_f rfl ⟨_, rfl, bsel_f rfl ⟨_, rfl, bsel_f rfl ⟨_, rfl, bsel_t rfl ⟨sp, hT, _, _, rfl, rfl, _, _, rfl, rfl, _, _, rfl, rfl, _, _, rfl, rfl, k⟩⟩⟩⟩⟩
  | [a, b, c, d, e], _, _ =>
    (try simp only [startN, List.map_cons, List.map_nil, List.length_cons, List.length_nil, Nat.reduceAdd, Nat.reduceSub, Nat.zero_add, Nat.sub_self, List.replicate_succ, List.replicate_zero, List.reduceReplicate, List.cons_append, List.nil_append, List.append_nil, ↓sRet, ↓sRetN, ↓sSeq, ↓sNil, ↓sIf, ↓sSet, ↓sPar, ↓sPar3, ↓sAsg, ↓sDrop, ↓sSetL, ↓eAnd, ↓eOr, ↓eNot, ↓eIf, ↓eNeg, ↓eCall, ↓eCallK, ↓eCallV, ↓lCons, ↓lNil, ↓eVar, ↓eC, ↓eTup, ↓eLst, ↓eLstC, ↓eOp, ↓eSl, ↓oNo, ↓oPart, ↓eBits, ↓tBool, ↓tAndA, ↓tOrA, ↓tNotA, ↓List.getElem?_cons_zero, ↓List.getElem?_cons_succ, ↓List.set_cons_zero, ↓List.set_cons_succ, ↓rInt, ↓rInt0, ↓rAddA, ↓rEqA, ↓rIsA, ↓rMax2A, ↓rMin2A, ↓rIntA, ↓rAbsA, bsel_true, bsel_false, wipeN, gNm, tYesA, ↓isNon, ↓isBlOf, ↓isI, ↓isB, ↓isS, ↓isT, ↓isL, Bool.or_false, Bool.or_true, Bool.false_or, Bool.true_or, ↓wList, ↓eLc, ↓rLenA, ↓sFor, ↓sWhile, ↓wRng1, ↓wRng2, ↓wTup, ↓wEnum, ↓eChain, ↓eListR1, ↓eLenSet, ↓eRev, ↓eInR, ↓eApp, ↓ePop, ↓eValue, ↓xDrop, ↓xRet, ↓xSet, ↓xCall, ↓xCallV, ↓sRaise, ↓eCallVL, ↓eLam3, startNF, Bool.not_true, Bool.not_false, Bool.false_eq_true, ↓reduceIte, Bool.not_not])
    exact ⟨_, rfl, bsel_f rfl ⟨_, rfl, bsel_f rfl ⟨_, rfl, bsel_f rfl ⟨_, rfl, bsel_f rfl ⟨_, rfl, bsel_t rfl ⟨sp, hT, _, _, rfl, rfl, _, _, rfl, rfl, _, _, rfl, rfl, _, _, rfl, rfl, _, _, rfl, rfl, k⟩⟩⟩⟩⟩⟩
  | [a, b, c, d, e, g], _, _ =>
    (try simp only [startN, List.map_cons, List.map_nil, List.length_cons, List.length_nil, Nat.reduceAdd, Nat.reduceSub, Nat.zero_add, Nat.sub_self, List.replicate_succ, List.replicate_zero, List.reduceReplicate, List.cons_append, List.nil_append, List.append_nil, ↓sRet, ↓sRetN, ↓sSeq, ↓sNil, ↓sIf, ↓sSet, ↓sPar, ↓sPar3, ↓sAsg, ↓sDrop, ↓sSetL, ↓eAnd, ↓eOr, ↓eNot, ↓eIf, ↓eNeg, ↓eCall, ↓eCallK, ↓eCallV, ↓lCons, ↓lNil, ↓eVar, ↓eC, ↓eTup, ↓eLst, ↓eLstC, ↓eOp, ↓eSl, ↓oNo, ↓oPart, ↓eBits, ↓tBool, ↓tAndA, ↓tOrA, ↓tNotA, ↓List.getElem?_cons_zero, ↓List.getElem?_cons_succ, ↓List.set_cons_zero, ↓List.set_cons_succ, ↓rInt, ↓rInt0, ↓rAddA, ↓rEqA, ↓rIsA, ↓rMax2A, ↓rMin2A, ↓rIntA, ↓rAbsA, bsel_true, bsel_false, wipeN, gNm, tYesA, ↓isNon, ↓isBlOf, ↓isI, ↓isB, ↓isS, ↓isT, ↓isL, Bool.or_false, Bool.or_true, Bool.false_or, Bool.true_or, ↓wList, ↓eLc, ↓rLenA, ↓sFor, ↓sWhile, ↓wRng1, ↓wRng2, ↓wTup, ↓wEnum, ↓eChain, ↓eListR1, ↓eLenSet, ↓eRev, ↓eInR, ↓eApp, ↓ePop, ↓eValue, ↓xDrop, ↓xRet, ↓xSet, ↓xCall, ↓xCallV, ↓sRaise, ↓eCallVL, ↓eLam3, startNF, Bool.not_true, Bool.not_false, Bool.false_eq_true, ↓reduceIte, Bool.not_not])
    exact ⟨_, rfl, bsel_f rfl ⟨_, rfl, bsel_f rfl ⟨_, rfl, bsel_f rfl ⟨_, rfl, bsel_f rfl ⟨_, rfl, bsel_f rfl ⟨sp, hT, _, _, rfl, rfl, _, _, rfl, rfl, _, _, rfl, rfl, _, _, rfl, rfl, _, _, rfl, rfl, _, _, rfl, rfl, k⟩⟩⟩⟩⟩⟩
/-! ### _law_is_kind -/
abbrev s__law_is_kind : Stmt := topS 50
theorem sc__law_is_kind : FnScope ["mark", "kind"] ["mark", "kind"] (defScope s__law_is_kind) := ⟨rfl, rfl, rfl, by decide +kernel, rfl, by decide +kernel, by decide +kernel⟩
theorem bd__law_is_kind (kV doc pm : Value) (an : Option Addr) (cdv ct : Value) (us : List Value) (hl : us.length = (["mark", "kind"] : List Str).length) : bindArgs (PySem.W.fnOf "_law_is_kind" "_law_is_kind" (defArgs s__law_is_kind) (defBody s__law_is_kind) (defScope s__law_is_kind) .none kV doc pm an cdv ct) ⟨us, []⟩ = pure ((["mark", "kind"] : List Str).zip us) :=
  match us, hl with | [_, _], _ => rfl
--hyp (T_InvalidDeal : Te f_InvalidDeal = some "InvalidDeal")
--hyp (T_InvalidRing : Te f_InvalidRing = some "InvalidRing")
--hyp (T_InvalidWorths : Te f_InvalidWorths = some "InvalidWorths")
--len by rintro as S P ⟨_, _, _, _, _, rfl, _⟩; rfl
theorem got__law_is_kind {P : Program} {w : World} {K : PySem.W.Frag} {mg : Str → Option Value} {base : Heap} {f_InvalidDeal f_InvalidRing f_InvalidWorths f_RentError f__law_is_kind : Addr} {Te : TabE} (B : Bi mg) (D : Def K mg "_law_is_kind" s__law_is_kind f__law_is_kind) (T_InvalidDeal : Te f_InvalidDeal = some "InvalidDeal") (T_InvalidRing : Te f_InvalidRing = some "InvalidRing") (T_InvalidWorths : Te f_InvalidWorths = some "InvalidWorths") (M_InvalidDeal : mg "InvalidDeal" = some (.ref f_InvalidDeal)) (M_InvalidRing : mg "InvalidRing" = some (.ref f_InvalidRing)) (M_InvalidWorths : mg "InvalidWorths" = some (.ref f_InvalidWorths)) (ET : ErrT P K mg f_RentError Te) :
    Got P w K mg base (0 + 1) ["mark", "kind"] "_law_is_kind" s__law_is_kind f__law_is_kind (sp_kind Te) := by
  refine got_of D sc__law_is_kind (by rintro as S P ⟨_, _, _, _, _, rfl, _⟩; rfl) (bd__law_is_kind) (fun cdv A0 outer s0_ H E hr => ⟨_, (sb_cons (sa_if (tt_cmp (oa_eq hr.units) (ea_var 1) ea_str) (sb_one (sa_ret (ea_callB (cx_isE ET) B.isinstance_ (la_cons (ea_var 0) (la_cons (ea_gfn M_InvalidDeal) la_nil))))) sb_nil)
      (sb_cons (sa_if (tt_cmp (oa_eq hr.units) (ea_var 1) ea_str) (sb_one (sa_ret (ea_callB (cx_isE ET) B.isinstance_ (la_cons (ea_var 0) (la_cons (ea_gfn M_InvalidRing) la_nil))))) sb_nil)
      (sb_cons (sa_if (tt_cmp (oa_eq hr.units) (ea_var 1) ea_str) (sb_one (sa_ret (ea_callB (cx_isE ET) B.isinstance_ (la_cons (ea_var 0) (la_cons (ea_gfn M_InvalidWorths) la_nil))))) sb_nil)
      (sb_one (sa_ret ea_bl))))), fun as S P h => ?_⟩)
  obtain ⟨a, C, dx, v, x, rfl, ha, hC, hx, k⟩ := h
  (try simp only [startN, List.map_cons, List.map_nil, List.length_cons, List.length_nil, Nat.reduceAdd, Nat.reduceSub, Nat.zero_add, Nat.sub_self, List.replicate_succ, List.replicate_zero, List.reduceReplicate, List.cons_append, List.nil_append, List.append_nil, ↓sRet, ↓sRetN, ↓sSeq, ↓sNil, ↓sIf, ↓sSet, ↓sPar, ↓sPar3, ↓sAsg, ↓sDrop, ↓sSetL, ↓eAnd, ↓eOr, ↓eNot, ↓eIf, ↓eNeg, ↓eCall, ↓eCallK, ↓eCallV, ↓lCons, ↓lNil, ↓eVar, ↓eC, ↓eTup, ↓eLst, ↓eLstC, ↓eOp, ↓eSl, ↓oNo, ↓oPart, ↓eBits, ↓tBool, ↓tAndA, ↓tOrA, ↓tNotA, ↓List.getElem?_cons_zero, ↓List.getElem?_cons_succ, ↓List.set_cons_zero, ↓List.set_cons_succ, ↓rInt, ↓rInt0, ↓rAddA, ↓rEqA, ↓rIsA, ↓rMax2A, ↓rMin2A, ↓rIntA, ↓rAbsA, bsel_true, bsel_false, wipeN, gNm, tYesA, ↓isNon, ↓isBlOf, ↓isI, ↓isB, ↓isS, ↓isT, ↓isL, Bool.or_false, Bool.or_true, Bool.false_or, Bool.true_or, ↓wList, ↓eLc, ↓rLenA, ↓sFor, ↓sWhile, ↓wRng1, ↓wRng2, ↓wTup, ↓wEnum, ↓eChain, ↓eListR1, ↓eLenSet, ↓eRev, ↓eInR, ↓eApp, ↓ePop, ↓eValue, ↓xDrop, ↓xRet, ↓xSet, ↓xCall, ↓xCallV, ↓sRaise, ↓eCallVL, ↓eLam3, startNF, Bool.not_true, Bool.not_false, Bool.false_eq_true, ↓reduceIte, Bool.not_not])
  simp only [kinds, List.mem_cons, List.not_mem_nil, or_false] at hx
  rcases hx with rfl | rfl | rfl
  · refine (bsel_t (by decide) ?_)
    simp only [rIsEA, ha]
    exact ⟨_, _, hC, T_InvalidDeal, k⟩
  · refine (bsel_f (by decide) (bsel_t (by decide) ?_))
    simp only [rIsEA, ha]
    exact ⟨_, _, hC, T_InvalidRing, k⟩
  · refine (bsel_f (by decide) (bsel_f (by decide) (bsel_t (by decide) ?_)))
    simp only [rIsEA, ha]
    exact ⟨_, _, hC, T_InvalidWorths, k⟩
/-! ### _law_mark -/
abbrev s__law_mark : Stmt := topS 38
theorem sc__law_mark : FnScope ["deed", "args", "mark", "e"] ["deed", "args"] (defScope s__law_mark) := ⟨rfl, rfl, rfl, by decide +kernel, rfl, by decide +kernel, by decide +kernel⟩
theorem bd__law_mark (kV doc pm : Value) (an : Option Addr) (cdv ct : Value) (us : List Value) (hl : us.length = (["deed", "args"] : List Str).length) : bindArgs (PySem.W.fnOf "_law_mark" "_law_mark" (defArgs s__law_mark) (defBody s__law_mark) (defScope s__law_mark) .none kV doc pm an cdv ct) ⟨us, []⟩ = pure ((["deed", "args"] : List Str).zip us) :=
  match us, hl with | [_, _], _ => rfl
--len by rintro as S P PE ⟨_, _, _, rfl, _⟩; rfl
theorem got__law_mark {P : Program} {w : World} {K : PySem.W.Frag} {mg : Str → Option Value} {base : Heap} {f_RentError f__law_call f__law_mark : Addr} {T : TabX} {Te : TabE} (B : Bi mg) (D : Def K mg "_law_mark" s__law_mark f__law_mark) (G__law_call : GotX P w K mg base 7 ["deed", "args"] "_law_call" s__law_call f__law_call (sp__law_callX T)) (ET : ErrT P K mg f_RentError Te) :
    GotX P w K mg base (7 + 1) ["deed", "args"] "_law_mark" s__law_mark f__law_mark (sp_markX T Te) := by
  refine gotx_of D sc__law_mark (by rintro as S P PE ⟨_, _, _, rfl, _⟩; rfl) (bd__law_mark) (fun cdv A0 outer s0_ H E hr tk hpo => ⟨_, (bx_cons (sx_of (sa_set 2 sc__law_mark.nd ea_non))
      (bx_cons (sx_try (i := 3) ET tk sc__law_mark.nd (fun W' pn' xe' tk' po' => (bx_one (sx_expr (ex_call tk' G__law_call (hr.mono (by omega)) (la_cons (ea_var 0) (la_cons (ea_var 1) la_nil)))))) (fun _ _ => (sb_one (sa_set 2 sc__law_mark.nd (ea_var 3)))))
      (bx_one (sx_of (sa_ret (ea_var 2)))))), fun as S P PE h => ?_⟩)
  obtain ⟨f, xs, sp, rfl, h1, h6, hT, k⟩ := h
  (try simp only [startN, List.map_cons, List.map_nil, List.length_cons, List.length_nil, Nat.reduceAdd, Nat.reduceSub, Nat.zero_add, Nat.sub_self, List.replicate_succ, List.replicate_zero, List.reduceReplicate, List.cons_append, List.nil_append, List.append_nil, ↓sRet, ↓sRetN, ↓sSeq, ↓sNil, ↓sIf, ↓sSet, ↓sPar, ↓sPar3, ↓sAsg, ↓sDrop, ↓sSetL, ↓eAnd, ↓eOr, ↓eNot, ↓eIf, ↓eNeg, ↓eCall, ↓eCallK, ↓eCallV, ↓lCons, ↓lNil, ↓eVar, ↓eC, ↓eTup, ↓eLst, ↓eLstC, ↓eOp, ↓eSl, ↓oNo, ↓oPart, ↓eBits, ↓tBool, ↓tAndA, ↓tOrA, ↓tNotA, ↓List.getElem?_cons_zero, ↓List.getElem?_cons_succ, ↓List.set_cons_zero, ↓List.set_cons_succ, ↓rInt, ↓rInt0, ↓rAddA, ↓rEqA, ↓rIsA, ↓rMax2A, ↓rMin2A, ↓rIntA, ↓rAbsA, bsel_true, bsel_false, wipeN, gNm, tYesA, ↓isNon, ↓isBlOf, ↓isI, ↓isB, ↓isS, ↓isT, ↓isL, Bool.or_false, Bool.or_true, Bool.false_or, Bool.true_or, ↓wList, ↓eLc, ↓rLenA, ↓sFor, ↓sWhile, ↓wRng1, ↓wRng2, ↓wTup, ↓wEnum, ↓eChain, ↓eListR1, ↓eLenSet, ↓eRev, ↓eInR, ↓eApp, ↓ePop, ↓eValue, ↓xDrop, ↓xRet, ↓xSet, ↓xCall, ↓xCallV, ↓sRaise, ↓eCallVL, ↓eLam3, startNF, Bool.not_true, Bool.not_false, Bool.false_eq_true, ↓reduceIte, Bool.not_not])
  exact ⟨f, xs, sp, rfl, h1, h6, hT, k⟩
/-- what a def raises, told of: the store may have grown by what was caught, which is forgotten -/
def sp_raised0 (T : TabX) (Te : TabE) : SpA := fun as S P => ∃ (f : Addr) (xs : List A) (x : Str) (v : A) (sp : SpX), as = [.ref f, .lst xs, .str x, v] ∧ 1 ≤ xs.length ∧ xs.length ≤ 6 ∧ T f = some sp ∧ x ∈ kinds ∧ gd 7 v = true ∧
  ∀ Q QE, (∀ C, isErr Te C → Te C = some x → QE C v S) → sp xs S Q QE
def sp_raised (T : TabX) (Te : TabE) : SpA := fun as S P => sp_raised0 T Te as S P ∧ ∀ a C dx v, S a = none → P (.bl true) (sup S a (.exc C dx v))
/-! ### _law_raised -/
abbrev s__law_raised : Stmt := topS 39
theorem sc__law_raised : FnScope ["deed", "args", "kind", "value", "mark"] ["deed", "args", "kind", "value"] (defScope s__law_raised) := ⟨rfl, rfl, rfl, by decide +kernel, rfl, by decide +kernel, by decide +kernel⟩
theorem bd__law_raised (kV doc pm : Value) (an : Option Addr) (cdv ct : Value) (us : List Value) (hl : us.length = (["deed", "args", "kind", "value"] : List Str).length) : bindArgs (PySem.W.fnOf "_law_raised" "_law_raised" (defArgs s__law_raised) (defBody s__law_raised) (defScope s__law_raised) .none kV doc pm an cdv ct) ⟨us, []⟩ = pure ((["deed", "args", "kind", "value"] : List Str).zip us) :=
  match us, hl with | [_, _, _, _], _ => rfl
--have have G__law_mark := G__law_mark.calm (sp' := sp_mark _ _) (fun as S Q h => h)
--len by rintro as S P ⟨⟨_, _, _, _, _, rfl, _⟩, _⟩; rfl
theorem got__law_raised {P : Program} {w : World} {K : PySem.W.Frag} {mg : Str → Option Value} {base : Heap} {f_RentError f__law_is_kind f__law_mark f__law_raised f__law_same : Addr} {T : TabX} {Te : TabE} (B : Bi mg) (D : Def K mg "_law_raised" s__law_raised f__law_raised) (G__law_same : Got P w K mg base 8 ["told", "due"] "_law_same" s__law_same f__law_same (sp__law_same 8)) (G__law_is_kind : Got P w K mg base 1 ["mark", "kind"] "_law_is_kind" s__law_is_kind f__law_is_kind (sp_kind Te)) (G__law_mark : Got P w K mg base 8 ["deed", "args"] "_law_mark" s__law_mark f__law_mark (sp_mark T Te)) (ET : ErrT P K mg f_RentError Te) :
    Got P w K mg base (8 + 1) ["deed", "args", "kind", "value"] "_law_raised" s__law_raised f__law_raised (sp_raised T Te) := by
  refine got_of D sc__law_raised (by rintro as S P ⟨⟨_, _, _, _, _, rfl, _⟩, _⟩; rfl) (bd__law_raised) (fun cdv A0 outer s0_ H E hr => ⟨_, (sb_cons (sa_set 4 sc__law_raised.nd (ea_call G__law_mark (hr.mono (by omega)) (la_cons (ea_var 0) (la_cons (ea_var 1) la_nil))))
      (sb_one (sa_ret (ea_and (ea_cmp oa_isNot (ea_var 4) ea_non) (ea_and (ea_call G__law_is_kind (hr.mono (by omega)) (la_cons (ea_var 4) (la_cons (ea_var 2) la_nil))) (ea_one (ea_call G__law_same (hr.mono (by omega)) (la_cons (ea_value ET (ea_var 4)) (la_cons (ea_var 3) la_nil))))))))), fun as S P h => ?_⟩)
  obtain ⟨⟨f, xs, x, v, sp, rfl, h1, h6, hT, hx, hv, q⟩, k⟩ := h
  (try simp only [startN, List.map_cons, List.map_nil, List.length_cons, List.length_nil, Nat.reduceAdd, Nat.reduceSub, Nat.zero_add, Nat.sub_self, List.replicate_succ, List.replicate_zero, List.reduceReplicate, List.cons_append, List.nil_append, List.append_nil, ↓sRet, ↓sRetN, ↓sSeq, ↓sNil, ↓sIf, ↓sSet, ↓sPar, ↓sPar3, ↓sAsg, ↓sDrop, ↓sSetL, ↓eAnd, ↓eOr, ↓eNot, ↓eIf, ↓eNeg, ↓eCall, ↓eCallK, ↓eCallV, ↓lCons, ↓lNil, ↓eVar, ↓eC, ↓eTup, ↓eLst, ↓eLstC, ↓eOp, ↓eSl, ↓oNo, ↓oPart, ↓eBits, ↓tBool, ↓tAndA, ↓tOrA, ↓tNotA, ↓List.getElem?_cons_zero, ↓List.getElem?_cons_succ, ↓List.set_cons_zero, ↓List.set_cons_succ, ↓rInt, ↓rInt0, ↓rAddA, ↓rEqA, ↓rIsA, ↓rMax2A, ↓rMin2A, ↓rIntA, ↓rAbsA, bsel_true, bsel_false, wipeN, gNm, tYesA, ↓isNon, ↓isBlOf, ↓isI, ↓isB, ↓isS, ↓isT, ↓isL, Bool.or_false, Bool.or_true, Bool.false_or, Bool.true_or, ↓wList, ↓eLc, ↓rLenA, ↓sFor, ↓sWhile, ↓wRng1, ↓wRng2, ↓wTup, ↓wEnum, ↓eChain, ↓eListR1, ↓eLenSet, ↓eRev, ↓eInR, ↓eApp, ↓ePop, ↓eValue, ↓xDrop, ↓xRet, ↓xSet, ↓xCall, ↓xCallV, ↓sRaise, ↓eCallVL, ↓eLam3, startNF, Bool.not_true, Bool.not_false, Bool.false_eq_true, ↓reduceIte, Bool.not_not])
  refine ⟨f, xs, sp, rfl, h1, h6, hT, q _ _ fun C hE hC => ⟨hE, fun a dx ha => ?_⟩⟩
  (try simp only [startN, List.map_cons, List.map_nil, List.length_cons, List.length_nil, Nat.reduceAdd, Nat.reduceSub, Nat.zero_add, Nat.sub_self, List.replicate_succ, List.replicate_zero, List.reduceReplicate, List.cons_append, List.nil_append, List.append_nil, ↓sRet, ↓sRetN, ↓sSeq, ↓sNil, ↓sIf, ↓sSet, ↓sPar, ↓sPar3, ↓sAsg, ↓sDrop, ↓sSetL, ↓eAnd, ↓eOr, ↓eNot, ↓eIf, ↓eNeg, ↓eCall, ↓eCallK, ↓eCallV, ↓lCons, ↓lNil, ↓eVar, ↓eC, ↓eTup, ↓eLst, ↓eLstC, ↓eOp, ↓eSl, ↓oNo, ↓oPart, ↓eBits, ↓tBool, ↓tAndA, ↓tOrA, ↓tNotA, ↓List.getElem?_cons_zero, ↓List.getElem?_cons_succ, ↓List.set_cons_zero, ↓List.set_cons_succ, ↓rInt, ↓rInt0, ↓rAddA, ↓rEqA, ↓rIsA, ↓rMax2A, ↓rMin2A, ↓rIntA, ↓rAbsA, bsel_true, bsel_false, wipeN, gNm, tYesA, ↓isNon, ↓isBlOf, ↓isI, ↓isB, ↓isS, ↓isT, ↓isL, Bool.or_false, Bool.or_true, Bool.false_or, Bool.true_or, ↓wList, ↓eLc, ↓rLenA, ↓sFor, ↓sWhile, ↓wRng1, ↓wRng2, ↓wTup, ↓wEnum, ↓eChain, ↓eListR1, ↓eLenSet, ↓eRev, ↓eInR, ↓eApp, ↓ePop, ↓eValue, ↓xDrop, ↓xRet, ↓xSet, ↓xCall, ↓xCallV, ↓sRaise, ↓eCallVL, ↓eLam3, startNF, Bool.not_true, Bool.not_false, Bool.false_eq_true, ↓reduceIte, Bool.not_not])
  refine ⟨a, C, dx, v, x, rfl, sup_same, hC, hx, ?_⟩
  (try simp only [startN, List.map_cons, List.map_nil, List.length_cons, List.length_nil, Nat.reduceAdd, Nat.reduceSub, Nat.zero_add, Nat.sub_self, List.replicate_succ, List.replicate_zero, List.reduceReplicate, List.cons_append, List.nil_append, List.append_nil, ↓sRet, ↓sRetN, ↓sSeq, ↓sNil, ↓sIf, ↓sSet, ↓sPar, ↓sPar3, ↓sAsg, ↓sDrop, ↓sSetL, ↓eAnd, ↓eOr, ↓eNot, ↓eIf, ↓eNeg, ↓eCall, ↓eCallK, ↓eCallV, ↓lCons, ↓lNil, ↓eVar, ↓eC, ↓eTup, ↓eLst, ↓eLstC, ↓eOp, ↓eSl, ↓oNo, ↓oPart, ↓eBits, ↓tBool, ↓tAndA, ↓tOrA, ↓tNotA, ↓List.getElem?_cons_zero, ↓List.getElem?_cons_succ, ↓List.set_cons_zero, ↓List.set_cons_succ, ↓rInt, ↓rInt0, ↓rAddA, ↓rEqA, ↓rIsA, ↓rMax2A, ↓rMin2A, ↓rIntA, ↓rAbsA, bsel_true, bsel_false, wipeN, gNm, tYesA, ↓isNon, ↓isBlOf, ↓isI, ↓isB, ↓isS, ↓isT, ↓isL, Bool.or_false, Bool.or_true, Bool.false_or, Bool.true_or, ↓wList, ↓eLc, ↓rLenA, ↓sFor, ↓sWhile, ↓wRng1, ↓wRng2, ↓wTup, ↓wEnum, ↓eChain, ↓eListR1, ↓eLenSet, ↓eRev, ↓eInR, ↓eApp, ↓ePop, ↓eValue, ↓xDrop, ↓xRet, ↓xSet, ↓xCall, ↓xCallV, ↓sRaise, ↓eCallVL, ↓eLam3, startNF, Bool.not_true, Bool.not_false, Bool.false_eq_true, ↓reduceIte, Bool.not_not])
  rw [sup_same]
  refine ⟨hE, v, v, rfl, gd_nr hv, gd_nr hv, gd_dle (gd_mono hv (by decide)), fun b hb => ?_⟩
  rw [hb.mpr rfl]
  exact k a C dx v ha
def sp__law_raised (T : TabX) (Te : TabE) : SpA := fun as S P => sp_raised0 T Te as S P ∧ P (.bl true) S
theorem raised_got {T : TabX} {Te : TabE} {P : Program} {w : World} {K : PySem.W.Frag} {mg : Str → Option Value} {base : Heap} {x : Str} {k : Nat} {ps : List Str} {st : Stmt} {f : Addr} (G : Got P w K mg base k ps x st f (sp_raised T Te)) : Got P w K mg base k ps x st f (sp__law_raised T Te) :=
  G.forget.imp fun as S Q ⟨h, k⟩ => ⟨Q, ⟨(by
    obtain ⟨f, xs, x, v, sp, e, h1, h6, hT, hx, hv, q⟩ := h
    exact ⟨f, xs, x, v, sp, e, h1, h6, hT, hx, hv, q⟩), fun a C dx v ha => ⟨S, fun b c hb => by
      have : b ≠ a := fun z => by rw [z, ha] at hb; cases hb
      rw [sup_ne this]
      exact hb, k⟩⟩, fun _ _ h => h⟩
/-- a def refuses a thing at a place, with blanks behind it and without -/
def sp__law_refused (T : TabX) (Te : TabE) : SpA := fun as S P => ∃ (f : Addr) (xs : List A) (i : Nat) (x : Str) (v : A) (sp : SpX), as = [.ref f, .lst xs, .int (i : Int), .str x, v] ∧ i < xs.length ∧ xs.length ≤ 6 ∧ T f = some sp ∧ x ∈ kinds ∧ gd 7 v = true ∧
  (∀ Q QE, (∀ C, isErr Te C → Te C = some x → QE C v S) → sp (xs.take i ++ [v] ++ List.replicate (xs.length - (i + 1)) .non) S Q QE) ∧
  (∀ Q QE, (∀ C, isErr Te C → Te C = some x → QE C v S) → sp (xs.take i ++ [v] ++ xs.drop (i + 1)) S Q QE) ∧ P (.bl true) S
/-! ### _law_refused -/
abbrev s__law_refused : Stmt := topS 40
theorem sc__law_refused : FnScope ["deed", "args", "at", "kind", "wrong", "blank", "thing"] ["deed", "args", "at", "kind", "wrong"] (defScope s__law_refused) := ⟨rfl, rfl, rfl, by decide +kernel, rfl, by decide +kernel, by decide +kernel⟩
theorem bd__law_refused (kV doc pm : Value) (an : Option Addr) (cdv ct : Value) (us : List Value) (hl : us.length = (["deed", "args", "at", "kind", "wrong"] : List Str).length) : bindArgs (PySem.W.fnOf "_law_refused" "_law_refused" (defArgs s__law_refused) (defBody s__law_refused) (defScope s__law_refused) .none kV doc pm an cdv ct) ⟨us, []⟩ = pure ((["deed", "args", "at", "kind", "wrong"] : List Str).zip us) :=
  match us, hl with | [_, _, _, _, _], _ => rfl
--have have G__law_raised := raised_got G__law_raised
--len by rintro as S P ⟨_, _, _, _, _, _, rfl, _⟩; rfl
theorem got__law_refused {P : Program} {w : World} {K : PySem.W.Frag} {mg : Str → Option Value} {base : Heap} {f__law_raised f__law_refused : Addr} {T : TabX} {Te : TabE} (B : Bi mg) (D : Def K mg "_law_refused" s__law_refused f__law_refused) (G__law_raised : Got P w K mg base 9 ["deed", "args", "kind", "value"] "_law_raised" s__law_raised f__law_raised (sp__law_raised T Te)) :
    Got P w K mg base (9 + 1) ["deed", "args", "at", "kind", "wrong"] "_law_refused" s__law_refused f__law_refused (sp__law_refused T Te) := by
  refine got_of D sc__law_refused (by rintro as S P ⟨_, _, _, _, _, _, rfl, _⟩; rfl) (bd__law_refused) (fun cdv A0 outer s0_ H E hr => ⟨_, (sb_cons (sa_set 5 sc__law_refused.nd (ea_op oa_add (ea_op oa_add (ea_sl (ea_var 1) oa_no (oa_part (ea_var 2))) (ea_lst (la_cons (ea_var 4) la_nil))) (ea_lc [("thing", 6)] sc__law_refused.nd (ia_list (ea_sl (ea_var 1) (oa_part (ea_op oa_add (ea_var 2) ea_int)) oa_no)) (by kernel_rfl) (fun _ _ _ _ _ => (ga_name 6 sc__law_refused.nd)) (fun _ _ _ _ _ => tsa_nil) (fun _ _ _ _ _ => ea_non))))
      (sb_cons (sa_if (tt_not (tt_val (ea_call G__law_raised (hr.mono (by omega)) (la_cons (ea_var 0) (la_cons (ea_var 5) (la_cons (ea_var 3) (la_cons (ea_var 4) la_nil))))))) (sb_one (sa_ret ea_bl)) sb_nil)
      (sb_one (sa_ret (ea_call G__law_raised (hr.mono (by omega)) (la_cons (ea_var 0) (la_cons (ea_op oa_add (ea_op oa_add (ea_sl (ea_var 1) oa_no (oa_part (ea_var 2))) (ea_lst (la_cons (ea_var 4) la_nil))) (ea_sl (ea_var 1) (oa_part (ea_op oa_add (ea_var 2) ea_int)) oa_no)) (la_cons (ea_var 3) (la_cons (ea_var 4) la_nil))))))))), fun as S P h => ?_⟩)
  obtain ⟨f, xs, i, x, v, sp, rfl, hi, h6, hT, hx, hv, q1, q2, k⟩ := h
  (try simp only [startN, List.map_cons, List.map_nil, List.length_cons, List.length_nil, Nat.reduceAdd, Nat.reduceSub, Nat.zero_add, Nat.sub_self, List.replicate_succ, List.replicate_zero, List.reduceReplicate, List.cons_append, List.nil_append, List.append_nil, ↓sRet, ↓sRetN, ↓sSeq, ↓sNil, ↓sIf, ↓sSet, ↓sPar, ↓sPar3, ↓sAsg, ↓sDrop, ↓sSetL, ↓eAnd, ↓eOr, ↓eNot, ↓eIf, ↓eNeg, ↓eCall, ↓eCallK, ↓eCallV, ↓lCons, ↓lNil, ↓eVar, ↓eC, ↓eTup, ↓eLst, ↓eLstC, ↓eOp, ↓eSl, ↓oNo, ↓oPart, ↓eBits, ↓tBool, ↓tAndA, ↓tOrA, ↓tNotA, ↓List.getElem?_cons_zero, ↓List.getElem?_cons_succ, ↓List.set_cons_zero, ↓List.set_cons_succ, ↓rInt, ↓rInt0, ↓rAddA, ↓rEqA, ↓rIsA, ↓rMax2A, ↓rMin2A, ↓rIntA, ↓rAbsA, bsel_true, bsel_false, wipeN, gNm, tYesA, ↓isNon, ↓isBlOf, ↓isI, ↓isB, ↓isS, ↓isT, ↓isL, Bool.or_false, Bool.or_true, Bool.false_or, Bool.true_or, ↓wList, ↓eLc, ↓rLenA, ↓sFor, ↓sWhile, ↓wRng1, ↓wRng2, ↓wTup, ↓wEnum, ↓eChain, ↓eListR1, ↓eLenSet, ↓eRev, ↓eInR, ↓eApp, ↓ePop, ↓eValue, ↓xDrop, ↓xRet, ↓xSet, ↓xCall, ↓xCallV, ↓sRaise, ↓eCallVL, ↓eLam3, startNF, Bool.not_true, Bool.not_false, Bool.false_eq_true, ↓reduceIte, Bool.not_not])
  refine ⟨xs, rfl, ?_⟩
  rw [cut_take (by omega)]
  refine ⟨_, _, rfl, rfl, (by rw [PySem.sizeLine_eq]; simp only [List.length_cons, List.length_nil, List.length_drop, List.length_take, List.length_append, List.length_replicate]; omega), xs, rfl, xs.drop (i + 1), by rw [cut_drop hi]; rfl, by rw [List.length_drop]; omega, fun j acc S' => S' = S ∧ acc = List.replicate j .non, ⟨rfl, rfl⟩, fun _ _ _ _ _ => by rw [cut_drop hi]; rfl, ?_, ?_⟩
  · rintro j y acc S' hy ⟨rfl, rfl⟩
    exact ⟨rfl, List.replicate_succ'.symm⟩
  · rintro acc S' ⟨rfl, rfl⟩
    rw [List.length_drop]
    refine ⟨_, _, rfl, rfl, (by rw [PySem.sizeLine_eq]; simp only [List.length_cons, List.length_nil, List.length_drop, List.length_take, List.length_append, List.length_replicate]; omega), ⟨f, _, x, v, sp, rfl, (by simp only [List.length_cons, List.length_nil, List.length_drop, List.length_take, List.length_append, List.length_replicate]; omega), (by simp only [List.length_cons, List.length_nil, List.length_drop, List.length_take, List.length_append, List.length_replicate]; omega), hT, hx, hv, q1⟩, ?_⟩
    (try simp only [startN, List.map_cons, List.map_nil, List.length_cons, List.length_nil, Nat.reduceAdd, Nat.reduceSub, Nat.zero_add, Nat.sub_self, List.replicate_succ, List.replicate_zero, List.reduceReplicate, List.cons_append, List.nil_append, List.append_nil, ↓sRet, ↓sRetN, ↓sSeq, ↓sNil, ↓sIf, ↓sSet, ↓sPar, ↓sPar3, ↓sAsg, ↓sDrop, ↓sSetL, ↓eAnd, ↓eOr, ↓eNot, ↓eIf, ↓eNeg, ↓eCall, ↓eCallK, ↓eCallV, ↓lCons, ↓lNil, ↓eVar, ↓eC, ↓eTup, ↓eLst, ↓eLstC, ↓eOp, ↓eSl, ↓oNo, ↓oPart, ↓eBits, ↓tBool, ↓tAndA, ↓tOrA, ↓tNotA, ↓List.getElem?_cons_zero, ↓List.getElem?_cons_succ, ↓List.set_cons_zero, ↓List.set_cons_succ, ↓rInt, ↓rInt0, ↓rAddA, ↓rEqA, ↓rIsA, ↓rMax2A, ↓rMin2A, ↓rIntA, ↓rAbsA, bsel_true, bsel_false, wipeN, gNm, tYesA, ↓isNon, ↓isBlOf, ↓isI, ↓isB, ↓isS, ↓isT, ↓isL, Bool.or_false, Bool.or_true, Bool.false_or, Bool.true_or, ↓wList, ↓eLc, ↓rLenA, ↓sFor, ↓sWhile, ↓wRng1, ↓wRng2, ↓wTup, ↓wEnum, ↓eChain, ↓eListR1, ↓eLenSet, ↓eRev, ↓eInR, ↓eApp, ↓ePop, ↓eValue, ↓xDrop, ↓xRet, ↓xSet, ↓xCall, ↓xCallV, ↓sRaise, ↓eCallVL, ↓eLam3, startNF, Bool.not_true, Bool.not_false, Bool.false_eq_true, ↓reduceIte, Bool.not_not])
    refine ⟨xs, rfl, ?_⟩
    rw [cut_take (by omega)]
    refine ⟨_, _, rfl, rfl, (by rw [PySem.sizeLine_eq]; simp only [List.length_cons, List.length_nil, List.length_drop, List.length_take, List.length_append, List.length_replicate]; omega), xs, rfl, ?_⟩
    rw [cut_drop hi]
    exact ⟨_, _, rfl, rfl, (by rw [PySem.sizeLine_eq]; simp only [List.length_cons, List.length_nil, List.length_drop, List.length_take, List.length_append, List.length_replicate]; omega), ⟨f, _, x, v, sp, rfl, (by simp only [List.length_cons, List.length_nil, List.length_drop, List.length_take, List.length_append, List.length_replicate]; omega), (by simp only [List.length_cons, List.length_nil, List.length_drop, List.length_take, List.length_append, List.length_replicate]; omega), hT, hx, hv, q2⟩, k⟩
/-- the refusals, of one held def and its arguments -/
def refOk (T : TabX) (Te : TabE) (i : Nat) (x : Str) (vs : List A) (S : Sto) (d : A) : Prop := ∃ (f : Addr) (xs : List A) (sp : SpX), d = .tup [.ref f, .lst xs] ∧ i < xs.length ∧ xs.length ≤ 6 ∧ T f = some sp ∧ ∀ v ∈ vs, gd 7 v = true ∧
  (∀ Q QE, (∀ C, isErr Te C → Te C = some x → QE C v S) → sp (xs.take i ++ [v] ++ List.replicate (xs.length - (i + 1)) .non) S Q QE) ∧
  (∀ Q QE, (∀ C, isErr Te C → Te C = some x → QE C v S) → sp (xs.take i ++ [v] ++ xs.drop (i + 1)) S Q QE)
def sp__law_all_refused (T : TabX) (Te : TabE) : SpA := fun as S P => ∃ (ds vs : List A) (i : Nat) (x : Str), as = [.lst ds, .int (i : Int), .str x, .lst vs] ∧ x ∈ kinds ∧ vs.length ≤ 1000 ∧ (∀ d ∈ ds, refOk T Te i x vs S d) ∧ P (.bl true) S
/-! ### _law_all_refused -/
abbrev s__law_all_refused : Stmt := topS 41
theorem sc__law_all_refused : FnScope ["deeds", "at", "kind", "wrongs", "deed", "args", "wrong"] ["deeds", "at", "kind", "wrongs"] (defScope s__law_all_refused) := ⟨rfl, rfl, rfl, by decide +kernel, rfl, by decide +kernel, by decide +kernel⟩
theorem bd__law_all_refused (kV doc pm : Value) (an : Option Addr) (cdv ct : Value) (us : List Value) (hl : us.length = (["deeds", "at", "kind", "wrongs"] : List Str).length) : bindArgs (PySem.W.fnOf "_law_all_refused" "_law_all_refused" (defArgs s__law_all_refused) (defBody s__law_all_refused) (defScope s__law_all_refused) .none kV doc pm an cdv ct) ⟨us, []⟩ = pure ((["deeds", "at", "kind", "wrongs"] : List Str).zip us) :=
  match us, hl with | [_, _, _, _], _ => rfl
--len by rintro as S P ⟨_, _, _, _, rfl, _⟩; rfl
theorem got__law_all_refused {P : Program} {w : World} {K : PySem.W.Frag} {mg : Str → Option Value} {base : Heap} {f__law_all_refused f__law_refused : Addr} {T : TabX} {Te : TabE} (B : Bi mg) (D : Def K mg "_law_all_refused" s__law_all_refused f__law_all_refused) (G__law_refused : Got P w K mg base 10 ["deed", "args", "at", "kind", "wrong"] "_law_refused" s__law_refused f__law_refused (sp__law_refused T Te)) :
    Got P w K mg base (10 + 1) ["deeds", "at", "kind", "wrongs"] "_law_all_refused" s__law_all_refused f__law_all_refused (sp__law_all_refused T Te) := by
  refine got_of D sc__law_all_refused (by rintro as S P ⟨_, _, _, _, rfl, _⟩; rfl) (bd__law_all_refused) (fun cdv A0 outer s0_ H E hr => ⟨_, (sb_cons (sa_for PassesOwn.never (ia_list (ea_var 0)) (ga_tup 2 (gsa_cons (ga_name 4 sc__law_all_refused.nd) (gsa_cons (ga_name 5 sc__law_all_refused.nd) gsa_nil))) (sb_one (sa_if (tt_cmp (oa_ne hr.units) (ea_lc [("wrong", 6)] sc__law_all_refused.nd (ia_list (ea_var 3)) (by kernel_rfl) (fun _ _ _ _ _ => (ga_name 6 sc__law_all_refused.nd)) (fun _ _ _ _ _ => (tsa_one (tt_not (tt_val (ea_call G__law_refused (hr.mono (by omega)) (la_cons (ea_var 4) (la_cons (ea_var 5) (la_cons (ea_var 1) (la_cons (ea_var 2) (la_cons (ea_var 6) la_nil)))))))))) (fun _ _ _ _ _ => (ea_var 6))) (ea_lst la_nil)) (sb_one (sa_ret ea_bl)) sb_nil)))
      (sb_one (sa_ret ea_bl))), fun as S P h => ?_⟩)
  obtain ⟨ds, vs, i, x, rfl, hx, hv, hd, k⟩ := h
  (try simp only [startN, List.map_cons, List.map_nil, List.length_cons, List.length_nil, Nat.reduceAdd, Nat.reduceSub, Nat.zero_add, Nat.sub_self, List.replicate_succ, List.replicate_zero, List.reduceReplicate, List.cons_append, List.nil_append, List.append_nil, ↓sRet, ↓sRetN, ↓sSeq, ↓sNil, ↓sIf, ↓sSet, ↓sPar, ↓sPar3, ↓sAsg, ↓sDrop, ↓sSetL, ↓eAnd, ↓eOr, ↓eNot, ↓eIf, ↓eNeg, ↓eCall, ↓eCallK, ↓eCallV, ↓lCons, ↓lNil, ↓eVar, ↓eC, ↓eTup, ↓eLst, ↓eLstC, ↓eOp, ↓eSl, ↓oNo, ↓oPart, ↓eBits, ↓tBool, ↓tAndA, ↓tOrA, ↓tNotA, ↓List.getElem?_cons_zero, ↓List.getElem?_cons_succ, ↓List.set_cons_zero, ↓List.set_cons_succ, ↓rInt, ↓rInt0, ↓rAddA, ↓rEqA, ↓rIsA, ↓rMax2A, ↓rMin2A, ↓rIntA, ↓rAbsA, bsel_true, bsel_false, wipeN, gNm, tYesA, ↓isNon, ↓isBlOf, ↓isI, ↓isB, ↓isS, ↓isT, ↓isL, Bool.or_false, Bool.or_true, Bool.false_or, Bool.true_or, ↓wList, ↓eLc, ↓rLenA, ↓sFor, ↓sWhile, ↓wRng1, ↓wRng2, ↓wTup, ↓wEnum, ↓eChain, ↓eListR1, ↓eLenSet, ↓eRev, ↓eInR, ↓eApp, ↓ePop, ↓eValue, ↓xDrop, ↓xRet, ↓xSet, ↓xCall, ↓xCallV, ↓sRaise, ↓eCallVL, ↓eLam3, startNF, Bool.not_true, Bool.not_false, Bool.false_eq_true, ↓reduceIte, Bool.not_not])
  refine ⟨ds, rfl, fun j nv S' => S' = S ∧ ∃ v1 v2 v3, nv = [some (.lst ds), some (.int (i : Int)), some (.str x), some (.lst vs), v1, v2, v3], ⟨rfl, _, _, _, rfl⟩, fun _ _ _ _ _ => rfl, ?_, ?_⟩
  · rintro j d nv S' hj ⟨rfl, v1, v2, v3, rfl⟩
    obtain ⟨f, xs, sp, rfl, hi, h6, hT, hq⟩ := hd d (List.mem_of_getElem? hj)
    refine ⟨rfl, ?_⟩
    simp only [gsCons, gsNil, gNm]
    (try simp only [startN, List.map_cons, List.map_nil, List.length_cons, List.length_nil, Nat.reduceAdd, Nat.reduceSub, Nat.zero_add, Nat.sub_self, List.replicate_succ, List.replicate_zero, List.reduceReplicate, List.cons_append, List.nil_append, List.append_nil, ↓sRet, ↓sRetN, ↓sSeq, ↓sNil, ↓sIf, ↓sSet, ↓sPar, ↓sPar3, ↓sAsg, ↓sDrop, ↓sSetL, ↓eAnd, ↓eOr, ↓eNot, ↓eIf, ↓eNeg, ↓eCall, ↓eCallK, ↓eCallV, ↓lCons, ↓lNil, ↓eVar, ↓eC, ↓eTup, ↓eLst, ↓eLstC, ↓eOp, ↓eSl, ↓oNo, ↓oPart, ↓eBits, ↓tBool, ↓tAndA, ↓tOrA, ↓tNotA, ↓List.getElem?_cons_zero, ↓List.getElem?_cons_succ, ↓List.set_cons_zero, ↓List.set_cons_succ, ↓rInt, ↓rInt0, ↓rAddA, ↓rEqA, ↓rIsA, ↓rMax2A, ↓rMin2A, ↓rIntA, ↓rAbsA, bsel_true, bsel_false, wipeN, gNm, tYesA, ↓isNon, ↓isBlOf, ↓isI, ↓isB, ↓isS, ↓isT, ↓isL, Bool.or_false, Bool.or_true, Bool.false_or, Bool.true_or, ↓wList, ↓eLc, ↓rLenA, ↓sFor, ↓sWhile, ↓wRng1, ↓wRng2, ↓wTup, ↓wEnum, ↓eChain, ↓eListR1, ↓eLenSet, ↓eRev, ↓eInR, ↓eApp, ↓ePop, ↓eValue, ↓xDrop, ↓xRet, ↓xSet, ↓xCall, ↓xCallV, ↓sRaise, ↓eCallVL, ↓eLam3, startNF, Bool.not_true, Bool.not_false, Bool.false_eq_true, ↓reduceIte, Bool.not_not])
    refine ⟨vs, rfl, by omega, fun j acc S'' => S'' = S' ∧ acc = [], ⟨rfl, rfl⟩, fun _ _ _ _ _ => rfl, ?_, ?_⟩
    · rintro j v acc S'' hj ⟨rfl, rfl⟩
      obtain ⟨g, q1, q2⟩ := hq v (List.mem_of_getElem? hj)
      (try simp only [startN, List.map_cons, List.map_nil, List.length_cons, List.length_nil, Nat.reduceAdd, Nat.reduceSub, Nat.zero_add, Nat.sub_self, List.replicate_succ, List.replicate_zero, List.reduceReplicate, List.cons_append, List.nil_append, List.append_nil, ↓sRet, ↓sRetN, ↓sSeq, ↓sNil, ↓sIf, ↓sSet, ↓sPar, ↓sPar3, ↓sAsg, ↓sDrop, ↓sSetL, ↓eAnd, ↓eOr, ↓eNot, ↓eIf, ↓eNeg, ↓eCall, ↓eCallK, ↓eCallV, ↓lCons, ↓lNil, ↓eVar, ↓eC, ↓eTup, ↓eLst, ↓eLstC, ↓eOp, ↓eSl, ↓oNo, ↓oPart, ↓eBits, ↓tBool, ↓tAndA, ↓tOrA, ↓tNotA, ↓List.getElem?_cons_zero, ↓List.getElem?_cons_succ, ↓List.set_cons_zero, ↓List.set_cons_succ, ↓rInt, ↓rInt0, ↓rAddA, ↓rEqA, ↓rIsA, ↓rMax2A, ↓rMin2A, ↓rIntA, ↓rAbsA, bsel_true, bsel_false, wipeN, gNm, tYesA, ↓isNon, ↓isBlOf, ↓isI, ↓isB, ↓isS, ↓isT, ↓isL, Bool.or_false, Bool.or_true, Bool.false_or, Bool.true_or, ↓wList, ↓eLc, ↓rLenA, ↓sFor, ↓sWhile, ↓wRng1, ↓wRng2, ↓wTup, ↓wEnum, ↓eChain, ↓eListR1, ↓eLenSet, ↓eRev, ↓eInR, ↓eApp, ↓ePop, ↓eValue, ↓xDrop, ↓xRet, ↓xSet, ↓xCall, ↓xCallV, ↓sRaise, ↓eCallVL, ↓eLam3, startNF, Bool.not_true, Bool.not_false, Bool.false_eq_true, ↓reduceIte, Bool.not_not])
      exact ⟨f, xs, i, x, v, sp, rfl, hi, h6, hT, hx, g, q1, q2, rfl, trivial⟩
    · rintro acc S'' ⟨rfl, rfl⟩
      refine rEqD_gd (n := 1) (gds_of fun _ h => by cases h) (by decide) ?_
      (try simp only [startN, List.map_cons, List.map_nil, List.length_cons, List.length_nil, Nat.reduceAdd, Nat.reduceSub, Nat.zero_add, Nat.sub_self, List.replicate_succ, List.replicate_zero, List.reduceReplicate, List.cons_append, List.nil_append, List.append_nil, ↓sRet, ↓sRetN, ↓sSeq, ↓sNil, ↓sIf, ↓sSet, ↓sPar, ↓sPar3, ↓sAsg, ↓sDrop, ↓sSetL, ↓eAnd, ↓eOr, ↓eNot, ↓eIf, ↓eNeg, ↓eCall, ↓eCallK, ↓eCallV, ↓lCons, ↓lNil, ↓eVar, ↓eC, ↓eTup, ↓eLst, ↓eLstC, ↓eOp, ↓eSl, ↓oNo, ↓oPart, ↓eBits, ↓tBool, ↓tAndA, ↓tOrA, ↓tNotA, ↓List.getElem?_cons_zero, ↓List.getElem?_cons_succ, ↓List.set_cons_zero, ↓List.set_cons_succ, ↓rInt, ↓rInt0, ↓rAddA, ↓rEqA, ↓rIsA, ↓rMax2A, ↓rMin2A, ↓rIntA, ↓rAbsA, bsel_true, bsel_false, wipeN, gNm, tYesA, ↓isNon, ↓isBlOf, ↓isI, ↓isB, ↓isS, ↓isT, ↓isL, Bool.or_false, Bool.or_true, Bool.false_or, Bool.true_or, ↓wList, ↓eLc, ↓rLenA, ↓sFor, ↓sWhile, ↓wRng1, ↓wRng2, ↓wTup, ↓wEnum, ↓eChain, ↓eListR1, ↓eLenSet, ↓eRev, ↓eInR, ↓eApp, ↓ePop, ↓eValue, ↓xDrop, ↓xRet, ↓xSet, ↓xCall, ↓xCallV, ↓sRaise, ↓eCallVL, ↓eLam3, startNF, Bool.not_true, Bool.not_false, Bool.false_eq_true, ↓reduceIte, Bool.not_not])
      exact ⟨trivial, _, _, _, rfl⟩
  · rintro nv S' ⟨rfl, v1, v2, v3, rfl⟩
    exact k
/-- a call of a held def that does not raise -/
def sp__law_callC (T : TabX) : SpA := fun as S P => sp__law_callX T as S P fun _ _ _ => False
/-- what is told of a value and what is due are one truth value -/
def told1 (T : TabX) (f : Addr) (xs : List A) (S : Sto) (v : A) (b : Bool) : Prop := ∃ sp, T f = some sp ∧ ∀ Q QE, Q (.bl b) S → sp (xs ++ [v]) S Q QE
def due1 (P : Program) (w : World) (K : PySem.W.Frag) (mg : Str → Option Value) (base : Heap) (T : Tab) (d : Addr) (S : Sto) (v : A) (b : Bool) : Prop := (∃ sp, T d = some sp ∧ ∀ Q, Q (.bl b) S → sp [v] S Q) ∨
  ∃ L ws lsp, S d = some (.lam L ws) ∧ LamOk P w K mg base 6 L lsp ∧ L.ps.length = 1 ∧ ∀ Q : A → Prop, Q (.bl b) → lsp ws [v] S Q
def sp_judged (P : Program) (w : World) (K : PySem.W.Frag) (mg : Str → Option Value) (base : Heap) (T : Tab) (Tx : TabX) : SpA := fun as S Q => ∃ (f d : Addr) (xs vs : List A), as = [.ref f, .lst xs, .lst vs, .ref d] ∧ xs.length ≤ 5 ∧ (∀ v ∈ vs, ∃ b : Bool, told1 Tx f xs S v b ∧ due1 P w K mg base T d S v b) ∧ Q (.bl true) S
/-! ### _law_judged -/
abbrev s__law_judged : Stmt := topS 42
theorem sc__law_judged : FnScope ["deed", "args", "values", "due", "value"] ["deed", "args", "values", "due"] (defScope s__law_judged) := ⟨rfl, rfl, rfl, by decide +kernel, rfl, by decide +kernel, by decide +kernel⟩
theorem bd__law_judged (kV doc pm : Value) (an : Option Addr) (cdv ct : Value) (us : List Value) (hl : us.length = (["deed", "args", "values", "due"] : List Str).length) : bindArgs (PySem.W.fnOf "_law_judged" "_law_judged" (defArgs s__law_judged) (defBody s__law_judged) (defScope s__law_judged) .none kV doc pm an cdv ct) ⟨us, []⟩ = pure ((["deed", "args", "values", "due"] : List Str).zip us) :=
  match us, hl with | [_, _, _, _], _ => rfl
--have have G__law_call := G__law_call.calm (sp' := sp__law_callC _) (fun as S Q h => h)
--len by rintro as S P ⟨_, _, _, _, rfl, _⟩; rfl
--table T A -
theorem got__law_judged {P : Program} {w : World} {K : PySem.W.Frag} {mg : Str → Option Value} {base : Heap} {f__law_call f__law_judged f__law_same : Addr} {T : Tab} {Tx : TabX} (B : Bi mg) (D : Def K mg "_law_judged" s__law_judged f__law_judged) (G__law_same : Got P w K mg base 8 ["told", "due"] "_law_same" s__law_same f__law_same (sp__law_same 8)) (G__law_call : Got P w K mg base 7 ["deed", "args"] "_law_call" s__law_call f__law_call (sp__law_callC Tx)) (HT : Held' P w K mg base 6 T) :
    Got P w K mg base (8 + 1) ["deed", "args", "values", "due"] "_law_judged" s__law_judged f__law_judged (sp_judged P w K mg base T Tx) := by
  refine got_of D sc__law_judged (by rintro as S P ⟨_, _, _, _, rfl, _⟩; rfl) (bd__law_judged) (fun cdv A0 outer s0_ H E hr => ⟨_, (sb_cons (sa_for PassesOwn.never (ia_list (ea_var 2)) (ga_name 4 sc__law_judged.nd) (sb_one (sa_if (tt_not (tt_val (ea_call G__law_same (hr.mono (by omega)) (la_cons (ea_call G__law_call (hr.mono (by omega)) (la_cons (ea_var 0) (la_cons (ea_op oa_add (ea_var 1) (ea_lst (la_cons (ea_var 4) la_nil))) la_nil))) (la_cons (ea_callVL 3 HT (hr.mono (by omega)) (la_cons (ea_var 4) la_nil)) la_nil))))) (sb_one (sa_ret ea_bl)) sb_nil)))
      (sb_one (sa_ret ea_bl))), fun as S P h => ?_⟩)
  obtain ⟨f, d, xs, vs, rfl, h5, hv, k⟩ := h
  (try simp only [startN, List.map_cons, List.map_nil, List.length_cons, List.length_nil, Nat.reduceAdd, Nat.reduceSub, Nat.zero_add, Nat.sub_self, List.replicate_succ, List.replicate_zero, List.reduceReplicate, List.cons_append, List.nil_append, List.append_nil, ↓sRet, ↓sRetN, ↓sSeq, ↓sNil, ↓sIf, ↓sSet, ↓sPar, ↓sPar3, ↓sAsg, ↓sDrop, ↓sSetL, ↓eAnd, ↓eOr, ↓eNot, ↓eIf, ↓eNeg, ↓eCall, ↓eCallK, ↓eCallV, ↓lCons, ↓lNil, ↓eVar, ↓eC, ↓eTup, ↓eLst, ↓eLstC, ↓eOp, ↓eSl, ↓oNo, ↓oPart, ↓eBits, ↓tBool, ↓tAndA, ↓tOrA, ↓tNotA, ↓List.getElem?_cons_zero, ↓List.getElem?_cons_succ, ↓List.set_cons_zero, ↓List.set_cons_succ, ↓rInt, ↓rInt0, ↓rAddA, ↓rEqA, ↓rIsA, ↓rMax2A, ↓rMin2A, ↓rIntA, ↓rAbsA, bsel_true, bsel_false, wipeN, gNm, tYesA, ↓isNon, ↓isBlOf, ↓isI, ↓isB, ↓isS, ↓isT, ↓isL, Bool.or_false, Bool.or_true, Bool.false_or, Bool.true_or, ↓wList, ↓eLc, ↓rLenA, ↓sFor, ↓sWhile, ↓wRng1, ↓wRng2, ↓wTup, ↓wEnum, ↓eChain, ↓eListR1, ↓eLenSet, ↓eRev, ↓eInR, ↓eApp, ↓ePop, ↓eValue, ↓xDrop, ↓xRet, ↓xSet, ↓xCall, ↓xCallV, ↓sRaise, ↓eCallVL, ↓eLam3, startNF, Bool.not_true, Bool.not_false, Bool.false_eq_true, ↓reduceIte, Bool.not_not])
  refine ⟨vs, rfl, fun j nv S' => S' = S ∧ ∃ v1, nv = [some (.ref f), some (.lst xs), some (.lst vs), some (.ref d), v1], ⟨rfl, _, rfl⟩, fun _ _ _ _ _ => rfl, ?_, ?_⟩
  · rintro j v nv S' hj ⟨rfl, v1, rfl⟩
    obtain ⟨b, ⟨sp, hT, q⟩, hd⟩ := hv v (List.mem_of_getElem? hj)
    simp only [gsCons, gsNil, gNm]
    (try simp only [startN, List.map_cons, List.map_nil, List.length_cons, List.length_nil, Nat.reduceAdd, Nat.reduceSub, Nat.zero_add, Nat.sub_self, List.replicate_succ, List.replicate_zero, List.reduceReplicate, List.cons_append, List.nil_append, List.append_nil, ↓sRet, ↓sRetN, ↓sSeq, ↓sNil, ↓sIf, ↓sSet, ↓sPar, ↓sPar3, ↓sAsg, ↓sDrop, ↓sSetL, ↓eAnd, ↓eOr, ↓eNot, ↓eIf, ↓eNeg, ↓eCall, ↓eCallK, ↓eCallV, ↓lCons, ↓lNil, ↓eVar, ↓eC, ↓eTup, ↓eLst, ↓eLstC, ↓eOp, ↓eSl, ↓oNo, ↓oPart, ↓eBits, ↓tBool, ↓tAndA, ↓tOrA, ↓tNotA, ↓List.getElem?_cons_zero, ↓List.getElem?_cons_succ, ↓List.set_cons_zero, ↓List.set_cons_succ, ↓rInt, ↓rInt0, ↓rAddA, ↓rEqA, ↓rIsA, ↓rMax2A, ↓rMin2A, ↓rIntA, ↓rAbsA, bsel_true, bsel_false, wipeN, gNm, tYesA, ↓isNon, ↓isBlOf, ↓isI, ↓isB, ↓isS, ↓isT, ↓isL, Bool.or_false, Bool.or_true, Bool.false_or, Bool.true_or, ↓wList, ↓eLc, ↓rLenA, ↓sFor, ↓sWhile, ↓wRng1, ↓wRng2, ↓wTup, ↓wEnum, ↓eChain, ↓eListR1, ↓eLenSet, ↓eRev, ↓eInR, ↓eApp, ↓ePop, ↓eValue, ↓xDrop, ↓xRet, ↓xSet, ↓xCall, ↓xCallV, ↓sRaise, ↓eCallVL, ↓eLam3, startNF, Bool.not_true, Bool.not_false, Bool.false_eq_true, ↓reduceIte, Bool.not_not])
    refine ⟨xs, [v], rfl, rfl, (by rw [PySem.sizeLine_eq]; simp only [List.length_cons, List.length_nil]; omega), f, xs ++ [v], sp, rfl, (by simp only [List.length_append, List.length_cons, List.length_nil]; omega), (by simp only [List.length_append, List.length_cons, List.length_nil]; omega), hT, q _ _ ?_⟩
    rcases hd with ⟨sp2, hT2, q2⟩ | ⟨L, ws, lsp, hS, hL, hp, q2⟩
    · refine .inl ⟨sp2, hT2, q2 _ ?_⟩
      refine ⟨_, _, rfl, rfl, rfl, rfl, fun c hc => ?_⟩
      rw [hc.mpr rfl]
      exact ⟨rfl, _, rfl⟩
    · refine .inr ⟨L, ws, lsp, hS, hL, hS, hp.symm, q2 _ ?_⟩
      refine ⟨_, _, rfl, rfl, rfl, rfl, fun c hc => ?_⟩
      rw [hc.mpr rfl]
      exact ⟨rfl, _, rfl⟩
  · rintro nv S' ⟨rfl, v1, rfl⟩
    exact k
def lamLast (q : Str) (fr ps : List Str) : Stmt → LamD
  | .If (.UnaryOp _ (.Call _ args _ _) _) _ _ _ => match args with
    | [_, _, _, .Lambda p b s _] => ⟨q, p, b, s, fr, ps⟩
    | _ => ⟨q, ⟨[], [], none, [], [], none, []⟩, .Name "" ⟨0, 0, 0, 0⟩, default, fr, ps⟩
  | _ => ⟨q, ⟨[], [], none, [], [], none, []⟩, .Name "" ⟨0, 0, 0, 0⟩, default, fr, ps⟩
theorem sq_gd {ws : List A} (h : sqW (.lst ws) = true) : gd 3 (.lst ws) = true := by
  have hl := sq_len h
  refine gd_lst_of (fun r hr => ?_) (by omega)
  obtain ⟨i, hi, e⟩ := List.getElem_of_mem hr
  obtain ⟨xs, rfl, h1, h2⟩ := sq_row h (List.getElem?_eq_some_iff.mpr ⟨hi, e⟩)
  refine gd_lst_of (fun x hx => ?_) (by omega)
  obtain ⟨v, rfl⟩ := h2 x hx
  rfl

theorem upI_sorted (n : Nat) : (upI 0 n).Pairwise (· ≤ ·) := by
  unfold upI
  rw [List.pairwise_map]
  exact List.pairwise_le_range.imp fun h => by omega
theorem deal_perm {m : Nat} {ys : List A} (h : ys.Perm (rngA 0 (m : Int).toNat)) : ∃ ds : List Int, ys = ds.map .int ∧ dealA m (.lst (ds.map .int)) = true := by
  rw [rngA_up, Int.toNat_natCast] at h
  obtain ⟨ds, hp, rfl⟩ : ∃ ds : List Int, ds.Perm (upI 0 m) ∧ ys = ds.map .int := by
    have toI : ∀ zs : List A, (∀ z ∈ zs, ∃ i, z = .int i) → ∃ ds : List Int, zs = ds.map .int := by
      intro zs
      induction zs with
      | nil => exact fun _ => ⟨[], rfl⟩
      | cons z zs ih =>
        intro h
        obtain ⟨i, rfl⟩ := h z List.mem_cons_self
        obtain ⟨ds, rfl⟩ := ih fun z hz => h z (List.mem_cons_of_mem _ hz)
        exact ⟨i :: ds, rfl⟩
    obtain ⟨ds, rfl⟩ := toI ys fun z hz => by
      obtain ⟨i, _, e⟩ := List.mem_map.mp (h.subset hz)
      exact ⟨i, e.symm⟩
    refine ⟨ds, ?_, rfl⟩
    have q := h.map fun a => match a with
      | .int i => i
      | _ => 0
    simpa [List.map_map, Function.comp_def] using q
  have hl : ds.length = m := by rw [hp.length_eq]; unfold upI; rw [List.length_map, List.length_range]
  have hb : ∀ x ∈ ds, 0 ≤ x ∧ x < (ds.length : Int) := fun x hx => by
    have q := hp.subset hx
    unfold upI at q
    obtain ⟨j, hj, rfl⟩ := List.mem_map.mp q
    have := List.mem_range.mp hj
    omega
  refine ⟨ds, rfl, ?_⟩
  have hd := (deal_iff hp.symm (upI_sorted m) hb).mp (by rw [hl])
  simp only [dealA, Bool.and_eq_true, decide_eq_true_eq, List.length_map, List.all_eq_true, intsA_map]
  refine ⟨⟨hl, fun x hx => ?_⟩, by rw [hd, hl]⟩
  obtain ⟨z, hz, rfl⟩ := List.mem_map.mp hx
  have := hb z hz
  simp only [belA, Bool.and_eq_true, decide_eq_true_eq]
  omega

theorem cut_n {xs : List A} {i : Nat} : cutA xs none (some (i : Int)) = xs.take i := by
  by_cases h : i ≤ xs.length
  · exact cut_take h
  · unfold cutA
    rw [HT.sIx_none, HT.sIx_nat, Nat.min_eq_right (by omega), List.drop_zero, Nat.sub_zero, List.take_of_length_le (Nat.le_refl _), List.take_of_length_le (by omega)]
theorem sq_rows {ws : List A} (h : sqW (.lst ws) = true) : ∀ r ∈ ws, ∃ xs, r = .lst xs ∧ xs.length = ws.length ∧ xs.all wthA = true := by
  unfold sqW at h
  split at h
  · rename_i m xs e2 e3
    cases e3
    rw [Bool.and_eq_true, decide_eq_true_eq, List.all_eq_true] at h
    intro r hr
    have q := h.1 r hr
    cases r with
    | lst ys =>
      simp only [rowA, Bool.and_eq_true, decide_eq_true_eq] at q
      exact ⟨ys, rfl, by omega, q.2⟩
    | _ => cases q
  · cases h
theorem rep_mem {n : Nat} {x p : A} (h : p ∈ (List.replicate n [x]).flatten) : p = x := by
  obtain ⟨l, h1, h2⟩ := List.mem_flatten.mp h
  rw [List.eq_of_mem_replicate h1] at h2
  exact List.mem_singleton.mp h2
theorem rep_len {n : Nat} {x : A} : (List.replicate n [x]).flatten.length = n := by
  rw [List.length_flatten, List.map_replicate, List.sum_replicate_nat]
  simp
theorem rep_gd {n k : Nat} {x : A} (h : gd k x = true) (hn : n ≤ 1000000) : gd (k + 1) (.lst (List.replicate n [x]).flatten) = true := gd_lst_of (fun p hp => by rw [rep_mem hp]; exact h) (by rw [rep_len]; exact hn)
def lam__law_case_right_0 : LamD := lamLast "_law_case_right.<locals>.<lambda>" ["size"] ["value"] ((defBody (topS 53)).getD 12 (.Pass ⟨0, 0, 0, 0⟩))
def okR (v : A) : Prop := gd 6 v = true ∧ ∀ xs, v = .lst xs → xs.length ≤ 1000
def lsp_ring : LSp := fun ws as S P => ∃ (m : Nat) (v : A), ws = [.int (m : Int)] ∧ as = [v] ∧ okR v ∧ P (.bl (ringA m v))
theorem lam_ring {P : Program} {w : World} {K : PySem.W.Frag} {mg : Str → Option Value} {base : Heap} {k : Nat} (hk : k ≤ 5) {f__law_is_ring : Addr} (G : Got P w K mg base k ["size", "value"] "_law_is_ring" s__law_is_ring f__law_is_ring sp_isr) : LamOk P w K mg base 6 lam__law_case_right_0 lsp_ring := by
  refine lam_of (N := ["value", "size"]) (nscope_by (by decide +kernel)) (fun pm ctv cl c' us hl => ?_) (fun f c' cl A outer s H E hr => ⟨_, ea_call G (hr.mono (by omega)) (la_cons (ea_var 1) (la_cons (ea_var 0) la_nil)), fun ws as S P h => ?_⟩)
  · match us, hl with
    | [_], _ => rfl
  · obtain ⟨m, v, rfl, rfl, hv, k⟩ := h
    (try simp only [startN, List.map_cons, List.map_nil, List.length_cons, List.length_nil, Nat.reduceAdd, Nat.reduceSub, Nat.zero_add, Nat.sub_self, List.replicate_succ, List.replicate_zero, List.reduceReplicate, List.cons_append, List.nil_append, List.append_nil, ↓sRet, ↓sRetN, ↓sSeq, ↓sNil, ↓sIf, ↓sSet, ↓sPar, ↓sPar3, ↓sAsg, ↓sDrop, ↓sSetL, ↓eAnd, ↓eOr, ↓eNot, ↓eIf, ↓eNeg, ↓eCall, ↓eCallK, ↓eCallV, ↓lCons, ↓lNil, ↓eVar, ↓eC, ↓eTup, ↓eLst, ↓eLstC, ↓eOp, ↓eSl, ↓oNo, ↓oPart, ↓eBits, ↓tBool, ↓tAndA, ↓tOrA, ↓tNotA, ↓List.getElem?_cons_zero, ↓List.getElem?_cons_succ, ↓List.set_cons_zero, ↓List.set_cons_succ, ↓rInt, ↓rInt0, ↓rAddA, ↓rEqA, ↓rIsA, ↓rMax2A, ↓rMin2A, ↓rIntA, ↓rAbsA, bsel_true, bsel_false, wipeN, gNm, tYesA, ↓isNon, ↓isBlOf, ↓isI, ↓isB, ↓isS, ↓isT, ↓isL, Bool.or_false, Bool.or_true, Bool.false_or, Bool.true_or, ↓wList, ↓eLc, ↓rLenA, ↓sFor, ↓sWhile, ↓wRng1, ↓wRng2, ↓wTup, ↓wEnum, ↓eChain, ↓eListR1, ↓eLenSet, ↓eRev, ↓eInR, ↓eApp, ↓ePop, ↓eValue, ↓xDrop, ↓xRet, ↓xSet, ↓xCall, ↓xCallV, ↓sRaise, ↓eCallVL, ↓eLam3, startNF, Bool.not_true, Bool.not_false, Bool.false_eq_true, ↓reduceIte, Bool.not_not])
    exact ⟨v, m, rfl, hv.1, hv.2, rfl, k⟩
theorem caseR_repr {n : Nat} {ws : List A} {ds os : List Int} (C : CaseR n ws ds os) : ∃ t : Str, ∀ S P, P (.str t) S → rReprA [.lst [.lst ws, .lst (ds.map .int), .lst (os.map .int)]] S P := by
  have hw : Shw 50 50000 (.lst ws) := by
    refine (shw_lst (n := 2) (w := 3972) (m := 12) (fun r hr => ?_) (by have := C.wl; have := C.m2; omega)).mono (by decide) (by decide)
    obtain ⟨xs, rfl, e1, e2⟩ := sq_rows C.sq r hr
    refine (shw_lst (n := 1) (w := 330) (m := 12) (fun x hx => ?_) (by have := C.wl; have := C.m2; omega)).mono (by decide) (by decide)
    rw [List.all_eq_true] at e2
    have z := e2 x hx
    cases x with
    | int v =>
      simp only [wthA, Bool.and_eq_true, decide_eq_true_eq] at z
      exact shw_int (Nat.lt_of_le_of_lt (m := 1000000000) (by omega) (by decide +kernel))
    | _ => cases z
  have hd : ∀ es : List Int, dealA n (.lst (es.map .int)) = true → Shw 50 50000 (.lst (es.map .int)) := fun es he => by
    obtain ⟨d1, d2⟩ := deal_bel he
    refine (shw_lst (n := 1) (w := 330) (m := 12) (fun x hx => ?_) (by rw [List.length_map]; have := C.m2; omega)).mono (by decide) (by decide)
    obtain ⟨v, hv, rfl⟩ := List.mem_map.mp hx
    have := d2 v hv
    have := C.m2
    exact shw_int (Nat.lt_of_le_of_lt (m := 12) (by omega) (by decide +kernel))
  refine repr_A (n := 51) (w := 3 * (50000 + 1)) (shw_lst (fun x hx => ?_) (Nat.le_refl 3)) (by decide) (by decide)
  simp only [List.mem_cons, List.not_mem_nil, or_false] at hx
  rcases hx with rfl | rfl | rfl
  · exact hw
  · exact hd ds C.dl
  · exact hd os C.ol
def f2 (p : Addr) (xs : List A) (q : Addr) (ys : List A) : Addr → Option (List A) := fun b => if b = p then some xs else if b = q then some ys else none
theorem f2_cells {S : Sto} {p q : Addr} {xs ys : List A} (hp : S p = some (.lst xs)) (hq : S q = some (.lst ys)) : CellsOf S (f2 p xs q ys) := by
  intro b zs h
  unfold f2 at h
  split at h
  · rename_i e
    rw [e, ← Option.some.inj h]
    exact hp
  · split at h
    · rename_i e
      rw [e, ← Option.some.inj h]
      exact hq
    · cases h
theorem f2_p {p q : Addr} {xs ys : List A} : unfA (f2 p xs q ys) (.ref p) = .lst xs := by simp [unfA, f2]
theorem f2_q {p q : Addr} {xs ys : List A} (h : q ≠ p) : unfA (f2 p xs q ys) (.ref q) = .lst ys := by simp [unfA, f2, h]
def f3 (p : Addr) (xs : List A) (q : Addr) (ys : List A) (r : Addr) (zs : List A) : Addr → Option (List A) := fun b => if b = p then some xs else f2 q ys r zs b
theorem f3_cells {S : Sto} {p q r : Addr} {xs ys zs : List A} (hp : S p = some (.lst xs)) (hq : S q = some (.lst ys)) (hr : S r = some (.lst zs)) : CellsOf S (f3 p xs q ys r zs) := by
  intro b us h
  unfold f3 at h
  split at h
  · rename_i e
    rw [e, ← Option.some.inj h]
    exact hp
  · exact f2_cells hq hr b us h
theorem f3_p {p q r : Addr} {xs ys zs : List A} : unfA (f3 p xs q ys r zs) (.ref p) = .lst xs := by simp [unfA, f3]
theorem f3_q {p q r : Addr} {xs ys zs : List A} (h : q ≠ p) : unfA (f3 p xs q ys r zs) (.ref q) = .lst ys := by simp [unfA, f3, f2, h]
theorem f3_r {p q r : Addr} {xs ys zs : List A} (h : r ≠ p) (h2 : r ≠ q) : unfA (f3 p xs q ys r zs) (.ref r) = .lst zs := by simp [unfA, f3, f2, h, h2]
theorem fold_len {n : Nat} : ∀ (f : List (List Int)) (now : List Int), now.length = n → (f.foldl handA now).length = n
  | [], _, h => h
  | r :: f, now, h => fold_len f _ (by rw [hand_len]; exact h)
theorem ring_no {n : Nat} {x : A} (h : ∀ rs : List Int, x = .lst (rs.map .int) → Rg n rs → 2 ≤ rs.length → False) : ringA n x = false := by
  cases e : ringA n x with
  | false => rfl
  | true =>
    obtain ⟨rs, e1, R, h2⟩ := ring_rg e
    exact (h rs e1 R h2).elim
theorem rings_at {F : List (List Int)} {j : Nat} {y : A} (hy : (ringsA F)[j]? = some y) : ∃ r, F[j]? = some r ∧ r ∈ F ∧ y = .lst (r.map .int) := by
  unfold ringsA at hy
  rw [List.getElem?_map] at hy
  cases e : F[j]? with
  | none => rw [e] at hy; cases hy
  | some r => rw [e] at hy; exact ⟨r, rfl, List.mem_of_getElem? e, (Option.some.inj hy).symm⟩
theorem ints_inj {rs us : List Int} (h : A.lst (rs.map A.int) = .lst (us.map A.int)) : rs = us := (List.map_inj_right (fun a b h => A.int.inj h)).mp (A.lst.inj h)
theorem unfA_lst (f : Addr → Option (List A)) (xs : List A) : unfA f (.lst xs) = .lst (unfAs f xs) := by simp only [unfA]
theorem unfA_int (f : Addr → Option (List A)) (i : Int) : unfA f (.int i) = .int i := by simp only [unfA]
theorem unfs_cons (f : Addr → Option (List A)) (x : A) (xs : List A) : unfAs f (x :: xs) = unfA f x :: unfAs f xs := by simp only [unfAs]
theorem unfs_nil (f : Addr → Option (List A)) : unfAs f [] = [] := by simp only [unfAs]
theorem Okk.none {S S' : Sto} {p : Addr} (h : Okk S S') (hp : S' p = none) : S p = none := by
  cases e : S p with
  | none => rfl
  | some c =>
    have q := h.kp p c e
    rw [hp] at q
    cases q
def sp__law_case_right (P0 : Addr) : SpA := fun as S Q => ∃ (scr : Addr) (ns : List Int) (i : Nat), as = [.ref scr, .int (i : Int)] ∧ S scr = some (.frz (ns.map .int)) ∧ i < 2 ∧ noLam S ∧ S P0 = some (.tab "_law_case_right.<locals>.<lambda>") ∧ ∀ S', Okk S S' → Q (.bl true) S'
theorem kb_handed_on_2_1_0 (kV doc pm : Value) (an : Option Addr) (cdv ct : Value) (us : List Value) (hl : us.length = (["ring", "deal", "worths"] : List Str).length) : bindArgs (PySem.W.fnOf "handed_on" "handed_on" (defArgs s_handed_on) (defBody s_handed_on) (defScope s_handed_on) .none kV doc pm an cdv ct) ⟨[], (["ring", "deal", "worths"] : List Str).zip us⟩ = pure ((["worths", "deal", "ring"] : List Str).zip (byPl [2, 1, 0] us)) :=
  match us, hl with | [_, _, _], _ => rfl
theorem kb_ring_gain_2_1_0 (kV doc pm : Value) (an : Option Addr) (cdv ct : Value) (us : List Value) (hl : us.length = (["ring", "deal", "worths"] : List Str).length) : bindArgs (PySem.W.fnOf "ring_gain" "ring_gain" (defArgs s_ring_gain) (defBody s_ring_gain) (defScope s_ring_gain) .none kV doc pm an cdv ct) ⟨[], (["ring", "deal", "worths"] : List Str).zip us⟩ = pure ((["worths", "deal", "ring"] : List Str).zip (byPl [2, 1, 0] us)) :=
  match us, hl with | [_, _, _], _ => rfl
theorem kb_is_ring_1_0 (kV doc pm : Value) (an : Option Addr) (cdv ct : Value) (us : List Value) (hl : us.length = (["value", "worths"] : List Str).length) : bindArgs (PySem.W.fnOf "is_ring" "is_ring" (defArgs s_is_ring) (defBody s_is_ring) (defScope s_is_ring) .none kV doc pm an cdv ct) ⟨[], (["value", "worths"] : List Str).zip us⟩ = pure ((["worths", "value"] : List Str).zip (byPl [1, 0] us)) :=
  match us, hl with | [_, _], _ => rfl
theorem kb_rings_between_2_1_0 (kV doc pm : Value) (an : Option Addr) (cdv ct : Value) (us : List Value) (hl : us.length = (["other_deal", "deal", "worths"] : List Str).length) : bindArgs (PySem.W.fnOf "rings_between" "rings_between" (defArgs s_rings_between) (defBody s_rings_between) (defScope s_rings_between) .none kV doc pm an cdv ct) ⟨[], (["other_deal", "deal", "worths"] : List Str).zip us⟩ = pure ((["worths", "deal", "other_deal"] : List Str).zip (byPl [2, 1, 0] us)) :=
  match us, hl with | [_, _, _], _ => rfl
/-! ### _law_case_right -/
abbrev s__law_case_right : Stmt := topS 53
theorem sc__law_case_right : FnScope ["script", "index", "generator", "size", "worths", "deal", "other", "kept", "turn", "ring", "due", "later", "told", "rings", "now", "wrong", "deeds", "more"] ["script", "index"] (defScope s__law_case_right) := ⟨rfl, rfl, rfl, by decide +kernel, rfl, by decide +kernel, by decide +kernel⟩
theorem bd__law_case_right (kV doc pm : Value) (an : Option Addr) (cdv ct : Value) (us : List Value) (hl : us.length = (["script", "index"] : List Str).length) : bindArgs (PySem.W.fnOf "_law_case_right" "_law_case_right" (defArgs s__law_case_right) (defBody s__law_case_right) (defScope s__law_case_right) .none kV doc pm an cdv ct) ⟨us, []⟩ = pure ((["script", "index"] : List Str).zip us) :=
  match us, hl with | [_, _], _ => rfl
--hyp (T_InvalidDeal : Te f_InvalidDeal = some "InvalidDeal")
--hyp (T_InvalidRing : Te f_InvalidRing = some "InvalidRing")
--hyp (T_InvalidWorths : Te f_InvalidWorths = some "InvalidWorths")
--hyp (x_is_ring : Tx f_is_ring = some (sp_isring f_InvalidWorths))
--hyp (x_ring_gain : Tx f_ring_gain = some (sp_ring3 f_InvalidWorths f_InvalidDeal f_InvalidRing g_gain))
--hyp (x_handed_on : Tx f_handed_on = some (sp_ring3 f_InvalidWorths f_InvalidDeal f_InvalidRing g_hand))
--hyp (x_rings_between : Tx f_rings_between = some (sp_rbet f_InvalidWorths f_InvalidDeal))
--hyp (lam0 : LamOk P w K mg base 6 lam__law_case_right_0 lsp_ring)
--len by rintro as S P ⟨_, _, _, rfl, _⟩; rfl
--have have G_handed_on := G_handed_on.calm (sp' := sp_ring3C _ _ _ _) (fun as S Q h => h)
--have have G_ring_gain := G_ring_gain.calm (sp' := sp_ring3C _ _ _ _) (fun as S Q h => h)
--have have G_is_ring := G_is_ring.calm (sp' := sp_isringC _) (fun as S Q h => h)
--have have G_rings_between := G_rings_between.calm (sp' := sp_rbetC _ _) (fun as S Q h => h)
--have have G__law_drawn_order := order_got G__law_drawn_order
--have have G__law_handed := handed_got G__law_handed
--have have G__law_same := same_got G__law_same
--have have lam0 := lam_ring (by decide) G__law_is_ring
theorem got__law_case_right {P : Program} {w : World} {K : PySem.W.Frag} {mg : Str → Option Value} {base : Heap} {cmk f_InvalidDeal f_InvalidRing f_InvalidWorths f__law_all_refused f__law_between f__law_case_right f__law_drawn_order f__law_drawn_worths f__law_generator f__law_handed f__law_judged f__law_random f__law_ring_gain f__law_same f__law_sum f__law_wrong_deals f__law_wrong_worths f_handed_on f_is_ring f_ring_gain f_rings_between ptb : Addr} {T : Tab} {Te : TabE} {Tx : TabX} (B : Bi mg) (D : Def K mg "_law_case_right" s__law_case_right f__law_case_right) (G__law_all_refused : Got P w K mg base 11 ["deeds", "at", "kind", "wrongs"] "_law_all_refused" s__law_all_refused f__law_all_refused (sp__law_all_refused Tx Te)) (G__law_wrong_deals : Got P w K mg base 1 ["deal"] "_law_wrong_deals" s__law_wrong_deals f__law_wrong_deals sp__law_wrong_deals) (G__law_generator : Got P w K mg base 2 ["script", "index"] "_law_generator" s__law_generator f__law_generator sp__law_generator) (G__law_random : Got P w K mg base 2 ["generator", "bound"] "_law_random" s__law_random f__law_random sp__law_random) (G__law_drawn_worths : Got P w K mg base 4 ["generator", "size"] "_law_drawn_worths" s__law_drawn_worths f__law_drawn_worths sp__law_drawn_worths) (G__law_drawn_order : Got P w K mg base 3 ["generator", "things"] "_law_drawn_order" s__law_drawn_order f__law_drawn_order sp__law_drawn_order) (G__law_ring_gain : Got P w K mg base 2 ["worths", "deal", "ring"] "_law_ring_gain" s__law_ring_gain f__law_ring_gain sp_rsum) (G__law_handed : Got P w K mg base 1 ["deal", "ring"] "_law_handed" s__law_handed f__law_handed sp_handed) (G_handed_on : Got P w K mg base 6 ["worths", "deal", "ring"] "handed_on" s_handed_on f_handed_on (sp_ring3C f_InvalidWorths f_InvalidDeal f_InvalidRing g_hand)) (G__law_same : Got P w K mg base 8 ["told", "due"] "_law_same" s__law_same f__law_same (resSp (F_same 8))) (G_ring_gain : Got P w K mg base 6 ["worths", "deal", "ring"] "ring_gain" s_ring_gain f_ring_gain (sp_ring3C f_InvalidWorths f_InvalidDeal f_InvalidRing g_gain)) (G__law_sum : Got P w K mg base 1 ["worths", "deal"] "_law_sum" s__law_sum f__law_sum sp_sum) (G_is_ring : Got P w K mg base 6 ["worths", "value"] "is_ring" s_is_ring f_is_ring (sp_isringC f_InvalidWorths)) (G__law_between : Got P w K mg base 1 ["deal", "other"] "_law_between" s__law_between f__law_between sp_between) (G_rings_between : Got P w K mg base 6 ["worths", "deal", "other_deal"] "rings_between" s_rings_between f_rings_between (sp_rbetC f_InvalidWorths f_InvalidDeal)) (G__law_judged : Got P w K mg base 9 ["deed", "args", "values", "due"] "_law_judged" s__law_judged f__law_judged (sp_judged P w K mg base T Tx)) (G__law_wrong_worths : Got P w K mg base 1 ["worths"] "_law_wrong_worths" s__law_wrong_worths f__law_wrong_worths sp__law_wrong_worths) (F_is_ring : mg "is_ring" = some (.ref f_is_ring)) (F_ring_gain : mg "ring_gain" = some (.ref f_ring_gain)) (F_handed_on : mg "handed_on" = some (.ref f_handed_on)) (F_rings_between : mg "rings_between" = some (.ref f_rings_between)) (T_InvalidDeal : Te f_InvalidDeal = some "InvalidDeal") (T_InvalidRing : Te f_InvalidRing = some "InvalidRing") (T_InvalidWorths : Te f_InvalidWorths = some "InvalidWorths") (x_is_ring : Tx f_is_ring = some (sp_isring f_InvalidWorths)) (x_ring_gain : Tx f_ring_gain = some (sp_ring3 f_InvalidWorths f_InvalidDeal f_InvalidRing g_gain)) (x_handed_on : Tx f_handed_on = some (sp_ring3 f_InvalidWorths f_InvalidDeal f_InvalidRing g_hand)) (x_rings_between : Tx f_rings_between = some (sp_rbet f_InvalidWorths f_InvalidDeal)) (lam0 : LamOk P w K mg base 6 lam__law_case_right_0 lsp_ring) (TB : TabB base mg cmk ptb) (hcd : ∀ oc od kV doc pm an cdv ct osl, K.lookup f__law_case_right = some ⟨oc, od, .func (PySem.W.fnOf "_law_case_right" "_law_case_right" (defArgs s__law_case_right) (defBody s__law_case_right) (defScope s__law_case_right) .none kV doc pm an cdv ct), osl⟩ → cdv = .ref cmk) :
    GotG P w K mg base (11 + 1) ["script", "index"] "_law_case_right" s__law_case_right f__law_case_right (sp__law_case_right ptb) := by
  refine gotG_of D sc__law_case_right (by rintro as S P ⟨_, _, _, rfl, _⟩; rfl) (bd__law_case_right) (fun cdv A0 outer s0_ H E hr hgd lk => ?_)
  obtain ⟨_, _, _, _, _, _, _, _, lk⟩ := lk
  obtain rfl := hcd _ _ _ _ _ _ _ _ _ lk
  refine ⟨_, (sb_cons (sa_set 2 sc__law_case_right.nd (ea_call G__law_generator (hr.mono (by omega)) (la_cons (ea_var 0) (la_cons (ea_var 1) la_nil))))
      (sb_cons (sa_set 3 sc__law_case_right.nd (ea_op oa_add ea_int (ea_call G__law_random (hr.mono (by omega)) (la_cons (ea_var 2) (la_cons (ea_ix (ea_lst (la_cons ea_int (la_cons ea_int la_nil))) (ea_var 1)) la_nil)))))
      (sb_cut (sa_asg (ea_tup (la_cons (ea_call G__law_drawn_worths (hr.mono (by omega)) (la_cons (ea_var 2) (la_cons (ea_var 3) la_nil))) (la_cons (ea_call G__law_drawn_order (hr.mono (by omega)) (la_cons (ea_var 2) (la_cons (ea_listR1 B.list_ B.range_ (ea_var 3)) la_nil))) (la_cons (ea_call G__law_drawn_order (hr.mono (by omega)) (la_cons (ea_var 2) (la_cons (ea_listR1 B.list_ B.range_ (ea_var 3)) la_nil))) la_nil)))) (ga_tup 3 (gsa_cons (ga_name 4 sc__law_case_right.nd) (gsa_cons (ga_name 5 sc__law_case_right.nd) (gsa_cons (ga_name 6 sc__law_case_right.nd) gsa_nil)))))
      (sb_cut (sa_set 7 sc__law_case_right.nd (ea_callB (cx_repr hgd hr.units) B.repr_ (la_cons (ea_lst (la_cons (ea_var 4) (la_cons (ea_var 5) (la_cons (ea_var 6) la_nil)))) la_nil)))
      (sb_cut (sa_for PassesOwn.never (ia_rng1 B.range_ (la_cons ea_int la_nil)) (ga_name 8 sc__law_case_right.nd) (sb_wrap (sb_cons (sa_set 9 sc__law_case_right.nd (ea_sl (ea_call G__law_drawn_order (hr.mono (by omega)) (la_cons (ea_var 2) (la_cons (ea_listR1 B.list_ B.range_ (ea_var 3)) la_nil))) oa_no (oa_part (ea_op oa_add ea_int (ea_call G__law_random (hr.mono (by omega)) (la_cons (ea_var 2) (la_cons (ea_op oa_sub (ea_var 3) ea_int) la_nil)))))))
      (sb_cons (sa_par 10 11 sc__law_case_right.nd (la_cons (ea_call G__law_ring_gain (hr.mono (by omega)) (la_cons (ea_var 4) (la_cons (ea_var 5) (la_cons (ea_var 9) la_nil)))) (la_cons (ea_call G__law_handed (hr.mono (by omega)) (la_cons (ea_var 5) (la_cons (ea_var 9) la_nil))) la_nil)))
      (sb_cons (sa_set 12 sc__law_case_right.nd (ea_call G_handed_on (hr.mono (by omega)) (la_cons (ea_var 4) (la_cons (ea_var 5) (la_cons (ea_var 9) la_nil)))))
      (sb_cons (sa_if (tt_not (tt_val (ea_call G__law_same (hr.mono (by omega)) (la_cons (ea_lst (la_cons (ea_var 12) (la_cons (ea_callK (ks := ["ring", "deal", "worths"]) [2, 1, 0] G_handed_on (hr.mono (by omega)) (ka_cons (ea_var 9) (ka_cons (ea_var 5) (ka_cons (ea_var 4) ka_nil))) kb_handed_on_2_1_0) (la_cons (ea_call G_ring_gain (hr.mono (by omega)) (la_cons (ea_var 4) (la_cons (ea_var 5) (la_cons (ea_var 9) la_nil)))) (la_cons (ea_callK (ks := ["ring", "deal", "worths"]) [2, 1, 0] G_ring_gain (hr.mono (by omega)) (ka_cons (ea_var 9) (ka_cons (ea_var 5) (ka_cons (ea_var 4) ka_nil))) kb_ring_gain_2_1_0) la_nil))))) (la_cons (ea_lst (la_cons (ea_var 11) (la_cons (ea_var 11) (la_cons (ea_var 10) (la_cons (ea_var 10) la_nil))))) la_nil))))) (sb_one (sa_ret ea_bl)) sb_nil)
      (sb_cons (sa_if (tt_w (tw_or (tt_cmp (oa_ne hr.units) (ea_op oa_sub (ea_call G__law_sum (hr.mono (by omega)) (la_cons (ea_var 4) (la_cons (ea_var 11) la_nil))) (ea_call G__law_sum (hr.mono (by omega)) (la_cons (ea_var 4) (la_cons (ea_var 5) la_nil)))) (ea_var 10)) (tw_or1 (tt_cmp oa_isNot (ea_callK (ks := ["value", "worths"]) [1, 0] G_is_ring (hr.mono (by omega)) (ka_cons (ea_var 9) (ka_cons (ea_var 4) ka_nil)) kb_is_ring_1_0) ea_bl)))) (sb_one (sa_ret ea_bl)) sb_nil)
      (sb_one (sa_expr (ea_append (ea_var 12) ea_int))))))))))
      (sb_cut (sa_set 13 sc__law_case_right.nd (ea_call G__law_between (hr.mono (by omega)) (la_cons (ea_var 5) (la_cons (ea_var 6) la_nil))))
      (sb_cut (sa_par 12 14 sc__law_case_right.nd (la_cons (ea_call G_rings_between (hr.mono (by omega)) (la_cons (ea_var 4) (la_cons (ea_var 5) (la_cons (ea_var 6) la_nil)))) (la_cons (ea_callTy cx_list B.list_ (la_cons (ea_var 5) la_nil)) la_nil)))
      (sb_cut (sa_if (tt_not (tt_val (ea_call G__law_same (hr.mono (by omega)) (la_cons (ea_lst (la_cons (ea_var 12) (la_cons (ea_callK (ks := ["other_deal", "deal", "worths"]) [2, 1, 0] G_rings_between (hr.mono (by omega)) (ka_cons (ea_var 6) (ka_cons (ea_var 5) (ka_cons (ea_var 4) ka_nil))) kb_rings_between_2_1_0) (la_cons (ea_call G_rings_between (hr.mono (by omega)) (la_cons (ea_var 4) (la_cons (ea_var 5) (la_cons (ea_var 5) la_nil)))) la_nil)))) (la_cons (ea_lst (la_cons (ea_var 13) (la_cons (ea_var 13) (la_cons (ea_lst la_nil) la_nil)))) la_nil))))) (sb_one (sa_ret ea_bl)) sb_nil)
      (sb_cut (sa_for PassesOwn.never (ia_list (ea_var 13)) (ga_name 9 sc__law_case_right.nd) (sb_wrap (sb_one (sa_set 14 sc__law_case_right.nd (ea_call G__law_handed (hr.mono (by omega)) (la_cons (ea_var 14) (la_cons (ea_var 9) la_nil)))))))
      (sb_cut (sa_if (tt_w (tw_or (tt_cmp (oa_ne hr.units) (ea_var 14) (ea_var 6)) (tw_or1 (tt_cmp (oa_ne hr.units) (ea_callB cx_sum B.sum_ (la_cons (ea_lc [("ring", 9)] sc__law_case_right.nd (ia_list (ea_var 13)) (by kernel_rfl) (fun _ _ _ _ _ => (ga_name 9 sc__law_case_right.nd)) (fun _ _ _ _ _ => tsa_nil) (fun _ _ _ _ _ => (ea_call G__law_ring_gain (hr.mono (by omega)) (la_cons (ea_var 4) (la_cons (ea_var 5) (la_cons (ea_var 9) la_nil)))))) la_nil)) (ea_op oa_sub (ea_call G__law_sum (hr.mono (by omega)) (la_cons (ea_var 4) (la_cons (ea_var 6) la_nil))) (ea_call G__law_sum (hr.mono (by omega)) (la_cons (ea_var 4) (la_cons (ea_var 5) la_nil)))))))) (sb_one (sa_ret ea_bl)) sb_nil)
      (sb_cut (sa_expr (ea_append (ea_var 12) ea_int))
      (sb_cut (sa_set 15 sc__law_case_right.nd (ea_lst (la_cons ea_non (la_cons ea_int (la_cons ea_str (la_cons (ea_lst la_nil) (la_cons (ea_lst (la_cons ea_int la_nil)) (la_cons (ea_tup (la_cons ea_int (la_cons ea_int la_nil))) (la_cons (ea_lst (la_cons ea_int (la_cons ea_int la_nil))) (la_cons (ea_lst (la_cons ea_int (la_cons (ea_var 3) la_nil))) (la_cons (ea_lst (la_cons (ea_op oa_sub ea_int ea_int) (la_cons ea_int la_nil))) (la_cons (ea_lst (la_cons ea_bl (la_cons ea_int la_nil))) (la_cons (ea_lst (la_cons ea_str (la_cons ea_int la_nil))) (la_cons (ea_lst (la_cons ea_non (la_cons ea_int la_nil))) (la_cons (ea_op oa_add (ea_listR1 B.list_ B.range_ (ea_var 3)) (ea_lst (la_cons ea_int la_nil))) la_nil)))))))))))))))
      (sb_cut (sa_if (tt_not (tt_val (ea_lam3 lam__law_case_right_0 [3] G__law_judged (hr.mono (by omega)) (ea_gfn F_is_ring) (ea_lst (la_cons (ea_var 4) la_nil)) (ea_op oa_add (ea_var 15) (ea_lst (la_cons (ea_listR1 B.list_ B.range_ (ea_var 3)) (la_cons (ea_lst (la_cons ea_int (la_cons ea_int la_nil))) la_nil)))) TB rfl rfl (fun _ => rfl) rfl (show ∀ y ∈ lam__law_case_right_0.scope.names, y.2 = .free → (defScope s__law_case_right).names.lookup y.1 = some .cell ∨ (defScope s__law_case_right).names.lookup y.1 = some .free by decide +kernel) (by decide +kernel) rfl))) (sb_one (sa_ret ea_bl)) sb_nil)
      (sb_cut (sa_set 16 sc__law_case_right.nd (ea_lst (la_cons (ea_tup (la_cons (ea_gfn F_ring_gain) (la_cons (ea_lst (la_cons (ea_var 4) (la_cons (ea_var 5) (la_cons (ea_lst (la_cons ea_int (la_cons ea_int la_nil))) la_nil)))) la_nil))) (la_cons (ea_tup (la_cons (ea_gfn F_handed_on) (la_cons (ea_lst (la_cons (ea_var 4) (la_cons (ea_var 5) (la_cons (ea_lst (la_cons ea_int (la_cons ea_int la_nil))) la_nil)))) la_nil))) la_nil))))
      (sb_cut (sa_set 17 sc__law_case_right.nd (ea_lst (la_cons (ea_tup (la_cons (ea_gfn F_rings_between) (la_cons (ea_lst (la_cons (ea_var 4) (la_cons (ea_var 5) (la_cons (ea_var 6) la_nil)))) la_nil))) la_nil)))
      (sb_cut (sa_if (tt_not (tt_val (ea_call G__law_all_refused (hr.mono (by omega)) (la_cons (ea_op oa_add (ea_op oa_add (ea_var 16) (ea_var 17)) (ea_lst (la_cons (ea_tup (la_cons (ea_gfn F_is_ring) (la_cons (ea_lst (la_cons (ea_var 4) (la_cons ea_non la_nil))) la_nil))) la_nil))) (la_cons ea_int (la_cons ea_str (la_cons (ea_call G__law_wrong_worths (hr.mono (by omega)) (la_cons (ea_var 4) la_nil)) la_nil))))))) (sb_one (sa_ret ea_bl)) sb_nil)
      (sb_cut (sa_if (tt_not (tt_val (ea_call G__law_all_refused (hr.mono (by omega)) (la_cons (ea_op oa_add (ea_var 16) (ea_var 17)) (la_cons ea_int (la_cons ea_str (la_cons (ea_call G__law_wrong_deals (hr.mono (by omega)) (la_cons (ea_var 5) la_nil)) la_nil))))))) (sb_one (sa_ret ea_bl)) sb_nil)
      (sb_one (sa_ret (ea_and (ea_call G__law_all_refused (hr.mono (by omega)) (la_cons (ea_var 16) (la_cons ea_int (la_cons ea_str (la_cons (ea_var 15) la_nil))))) (ea_and (ea_call G__law_all_refused (hr.mono (by omega)) (la_cons (ea_var 17) (la_cons ea_int (la_cons ea_str (la_cons (ea_call G__law_wrong_deals (hr.mono (by omega)) (la_cons (ea_var 6) la_nil)) la_nil))))) (ea_one (ea_cmp (oa_eq hr.units) (ea_callB (cx_repr hgd hr.units) B.repr_ (la_cons (ea_lst (la_cons (ea_var 4) (la_cons (ea_var 5) (la_cons (ea_var 6) la_nil)))) la_nil)) (ea_var 7)))))))))))))))))))))))), fun as S P h => ?_⟩
  obtain ⟨scr, ns, i, rfl, hs, hi, nl, hP, k⟩ := h
  (try simp only [startN, List.map_cons, List.map_nil, List.length_cons, List.length_nil, Nat.reduceAdd, Nat.reduceSub, Nat.zero_add, Nat.sub_self, List.replicate_succ, List.replicate_zero, List.reduceReplicate, List.cons_append, List.nil_append, List.append_nil, ↓sRet, ↓sRetN, ↓sSeq, ↓sNil, ↓sIf, ↓sSet, ↓sPar, ↓sPar3, ↓sAsg, ↓sDrop, ↓sSetL, ↓eAnd, ↓eOr, ↓eNot, ↓eIf, ↓eNeg, ↓eCall, ↓eCallK, ↓eCallV, ↓lCons, ↓lNil, ↓eVar, ↓eC, ↓eTup, ↓eLst, ↓eLstC, ↓eOp, ↓eSl, ↓oNo, ↓oPart, ↓eBits, ↓tBool, ↓tAndA, ↓tOrA, ↓tNotA, ↓List.getElem?_cons_zero, ↓List.getElem?_cons_succ, ↓List.set_cons_zero, ↓List.set_cons_succ, ↓rInt, ↓rInt0, ↓rAddA, ↓rEqA, ↓rIsA, ↓rMax2A, ↓rMin2A, ↓rIntA, ↓rAbsA, bsel_true, bsel_false, wipeN, gNm, tYesA, ↓isNon, ↓isBlOf, ↓isI, ↓isB, ↓isS, ↓isT, ↓isL, Bool.or_false, Bool.or_true, Bool.false_or, Bool.true_or, ↓wList, ↓eLc, ↓rLenA, ↓sFor, ↓sWhile, ↓wRng1, ↓wRng2, ↓wTup, ↓wEnum, ↓eChain, ↓eListR1, ↓eLenSet, ↓eRev, ↓eInR, ↓eApp, ↓ePop, ↓eValue, ↓xDrop, ↓xRet, ↓xSet, ↓xCall, ↓xCallV, ↓sRaise, ↓eCallVL, ↓eLam3, startNF, Bool.not_true, Bool.not_false, Bool.false_eq_true, ↓reduceIte, Bool.not_not])
  refine ⟨scr, ns, i, rfl, hs, by omega, fun g l hg gl => ?_⟩
  have ng : scr ≠ g := fun e => by rw [e, hg] at hs; cases hs
  (try simp only [startN, List.map_cons, List.map_nil, List.length_cons, List.length_nil, Nat.reduceAdd, Nat.reduceSub, Nat.zero_add, Nat.sub_self, List.replicate_succ, List.replicate_zero, List.reduceReplicate, List.cons_append, List.nil_append, List.append_nil, ↓sRet, ↓sRetN, ↓sSeq, ↓sNil, ↓sIf, ↓sSet, ↓sPar, ↓sPar3, ↓sAsg, ↓sDrop, ↓sSetL, ↓eAnd, ↓eOr, ↓eNot, ↓eIf, ↓eNeg, ↓eCall, ↓eCallK, ↓eCallV, ↓lCons, ↓lNil, ↓eVar, ↓eC, ↓eTup, ↓eLst, ↓eLstC, ↓eOp, ↓eSl, ↓oNo, ↓oPart, ↓eBits, ↓tBool, ↓tAndA, ↓tOrA, ↓tNotA, ↓List.getElem?_cons_zero, ↓List.getElem?_cons_succ, ↓List.set_cons_zero, ↓List.set_cons_succ, ↓rInt, ↓rInt0, ↓rAddA, ↓rEqA, ↓rIsA, ↓rMax2A, ↓rMin2A, ↓rIntA, ↓rAbsA, bsel_true, bsel_false, wipeN, gNm, tYesA, ↓isNon, ↓isBlOf, ↓isI, ↓isB, ↓isS, ↓isT, ↓isL, Bool.or_false, Bool.or_true, Bool.false_or, Bool.true_or, ↓wList, ↓eLc, ↓rLenA, ↓sFor, ↓sWhile, ↓wRng1, ↓wRng2, ↓wTup, ↓wEnum, ↓eChain, ↓eListR1, ↓eLenSet, ↓eRev, ↓eInR, ↓eApp, ↓ePop, ↓eValue, ↓xDrop, ↓xRet, ↓xSet, ↓xCall, ↓xCallV, ↓sRaise, ↓eCallVL, ↓eLam3, startNF, Bool.not_true, Bool.not_false, Bool.false_eq_true, ↓reduceIte, Bool.not_not])
  obtain ⟨b, hb, b1, b2⟩ : ∃ b : Int, atI [A.int 8, A.int 3] (i : Int) = some (.int b) ∧ 1 ≤ b ∧ b ≤ 8 := by
    obtain rfl | rfl : i = 0 ∨ i = 1 := by omega
    · exact ⟨8, rfl, by decide, by decide⟩
    · exact ⟨3, rfl, by decide, by decide⟩
  refine ⟨_, _, rfl, hb, g, b, _, l, rfl, sup_same, gl, by omega, (Bd.small 10 (i := b) (m := 12) (by omega)).le, by omega, fun r l2 r0 r1 gl2 => ?_⟩
  rw [sup_sup]
  obtain ⟨n, hm⟩ : ∃ n : Nat, 2 + r = (n : Int) := ⟨(2 + r).toNat, by omega⟩
  (try simp only [startN, List.map_cons, List.map_nil, List.length_cons, List.length_nil, Nat.reduceAdd, Nat.reduceSub, Nat.zero_add, Nat.sub_self, List.replicate_succ, List.replicate_zero, List.reduceReplicate, List.cons_append, List.nil_append, List.append_nil, ↓sRet, ↓sRetN, ↓sSeq, ↓sNil, ↓sIf, ↓sSet, ↓sPar, ↓sPar3, ↓sAsg, ↓sDrop, ↓sSetL, ↓eAnd, ↓eOr, ↓eNot, ↓eIf, ↓eNeg, ↓eCall, ↓eCallK, ↓eCallV, ↓lCons, ↓lNil, ↓eVar, ↓eC, ↓eTup, ↓eLst, ↓eLstC, ↓eOp, ↓eSl, ↓oNo, ↓oPart, ↓eBits, ↓tBool, ↓tAndA, ↓tOrA, ↓tNotA, ↓List.getElem?_cons_zero, ↓List.getElem?_cons_succ, ↓List.set_cons_zero, ↓List.set_cons_succ, ↓rInt, ↓rInt0, ↓rAddA, ↓rEqA, ↓rIsA, ↓rMax2A, ↓rMin2A, ↓rIntA, ↓rAbsA, bsel_true, bsel_false, wipeN, gNm, tYesA, ↓isNon, ↓isBlOf, ↓isI, ↓isB, ↓isS, ↓isT, ↓isL, Bool.or_false, Bool.or_true, Bool.false_or, Bool.true_or, ↓wList, ↓eLc, ↓rLenA, ↓sFor, ↓sWhile, ↓wRng1, ↓wRng2, ↓wTup, ↓wEnum, ↓eChain, ↓eListR1, ↓eLenSet, ↓eRev, ↓eInR, ↓eApp, ↓ePop, ↓eValue, ↓xDrop, ↓xRet, ↓xSet, ↓xCall, ↓xCallV, ↓sRaise, ↓eCallVL, ↓eLam3, startNF, Bool.not_true, Bool.not_false, Bool.false_eq_true, ↓reduceIte, Bool.not_not])
  rw [hm]
  have ok0 : Okk S S := ⟨fun _ _ h => h, nl⟩
  refine ⟨fun nv S' => ∃ (l : List A) (ws : List A) (ds os : List Int), nv = [some (.ref scr), some (.int (i : Int)), some (.ref g), some (.int (n : Int)), some (.lst ws), some (.lst (ds.map .int)), some (.lst (os.map .int)), none, none, none, none, none, none, none, none, none, none, none] ∧ S' = sup S g (.lst l) ∧ GenL 1000000 l ∧ CaseR n ws ds os, ?_, ?_⟩
  · (try simp only [startN, List.map_cons, List.map_nil, List.length_cons, List.length_nil, Nat.reduceAdd, Nat.reduceSub, Nat.zero_add, Nat.sub_self, List.replicate_succ, List.replicate_zero, List.reduceReplicate, List.cons_append, List.nil_append, List.append_nil, ↓sRet, ↓sRetN, ↓sSeq, ↓sNil, ↓sIf, ↓sSet, ↓sPar, ↓sPar3, ↓sAsg, ↓sDrop, ↓sSetL, ↓eAnd, ↓eOr, ↓eNot, ↓eIf, ↓eNeg, ↓eCall, ↓eCallK, ↓eCallV, ↓lCons, ↓lNil, ↓eVar, ↓eC, ↓eTup, ↓eLst, ↓eLstC, ↓eOp, ↓eSl, ↓oNo, ↓oPart, ↓eBits, ↓tBool, ↓tAndA, ↓tOrA, ↓tNotA, ↓List.getElem?_cons_zero, ↓List.getElem?_cons_succ, ↓List.set_cons_zero, ↓List.set_cons_succ, ↓rInt, ↓rInt0, ↓rAddA, ↓rEqA, ↓rIsA, ↓rMax2A, ↓rMin2A, ↓rIntA, ↓rAbsA, bsel_true, bsel_false, wipeN, gNm, tYesA, ↓isNon, ↓isBlOf, ↓isI, ↓isB, ↓isS, ↓isT, ↓isL, Bool.or_false, Bool.or_true, Bool.false_or, Bool.true_or, ↓wList, ↓eLc, ↓rLenA, ↓sFor, ↓sWhile, ↓wRng1, ↓wRng2, ↓wTup, ↓wEnum, ↓eChain, ↓eListR1, ↓eLenSet, ↓eRev, ↓eInR, ↓eApp, ↓ePop, ↓eValue, ↓xDrop, ↓xRet, ↓xSet, ↓xCall, ↓xCallV, ↓sRaise, ↓eCallVL, ↓eLam3, startNF, Bool.not_true, Bool.not_false, Bool.false_eq_true, ↓reduceIte, Bool.not_not])
    refine ⟨g, n, _, l2, rfl, sup_same, gl2, by omega, by omega, by omega, fun ws l3 hsq hwl gl3 => ?_⟩
    rw [sup_sup]
    (try simp only [startN, List.map_cons, List.map_nil, List.length_cons, List.length_nil, Nat.reduceAdd, Nat.reduceSub, Nat.zero_add, Nat.sub_self, List.replicate_succ, List.replicate_zero, List.reduceReplicate, List.cons_append, List.nil_append, List.append_nil, ↓sRet, ↓sRetN, ↓sSeq, ↓sNil, ↓sIf, ↓sSet, ↓sPar, ↓sPar3, ↓sAsg, ↓sDrop, ↓sSetL, ↓eAnd, ↓eOr, ↓eNot, ↓eIf, ↓eNeg, ↓eCall, ↓eCallK, ↓eCallV, ↓lCons, ↓lNil, ↓eVar, ↓eC, ↓eTup, ↓eLst, ↓eLstC, ↓eOp, ↓eSl, ↓oNo, ↓oPart, ↓eBits, ↓tBool, ↓tAndA, ↓tOrA, ↓tNotA, ↓List.getElem?_cons_zero, ↓List.getElem?_cons_succ, ↓List.set_cons_zero, ↓List.set_cons_succ, ↓rInt, ↓rInt0, ↓rAddA, ↓rEqA, ↓rIsA, ↓rMax2A, ↓rMin2A, ↓rIntA, ↓rAbsA, bsel_true, bsel_false, wipeN, gNm, tYesA, ↓isNon, ↓isBlOf, ↓isI, ↓isB, ↓isS, ↓isT, ↓isL, Bool.or_false, Bool.or_true, Bool.false_or, Bool.true_or, ↓wList, ↓eLc, ↓rLenA, ↓sFor, ↓sWhile, ↓wRng1, ↓wRng2, ↓wTup, ↓wEnum, ↓eChain, ↓eListR1, ↓eLenSet, ↓eRev, ↓eInR, ↓eApp, ↓ePop, ↓eValue, ↓xDrop, ↓xRet, ↓xSet, ↓xCall, ↓xCallV, ↓sRaise, ↓eCallVL, ↓eLam3, startNF, Bool.not_true, Bool.not_false, Bool.false_eq_true, ↓reduceIte, Bool.not_not])
    refine ⟨⟨by omega, by omega⟩, g, _, _, l3, rfl, sup_same, gl3, by rw [rngA_len]; omega, gds_of (fun x hx => by rw [rngA_up] at hx; exact gd_ints x hx), by omega, fun ys l4 hp gl4 => ?_⟩
    rw [sup_sup]
    obtain ⟨ds, rfl, hd⟩ := deal_perm hp
    (try simp only [startN, List.map_cons, List.map_nil, List.length_cons, List.length_nil, Nat.reduceAdd, Nat.reduceSub, Nat.zero_add, Nat.sub_self, List.replicate_succ, List.replicate_zero, List.reduceReplicate, List.cons_append, List.nil_append, List.append_nil, ↓sRet, ↓sRetN, ↓sSeq, ↓sNil, ↓sIf, ↓sSet, ↓sPar, ↓sPar3, ↓sAsg, ↓sDrop, ↓sSetL, ↓eAnd, ↓eOr, ↓eNot, ↓eIf, ↓eNeg, ↓eCall, ↓eCallK, ↓eCallV, ↓lCons, ↓lNil, ↓eVar, ↓eC, ↓eTup, ↓eLst, ↓eLstC, ↓eOp, ↓eSl, ↓oNo, ↓oPart, ↓eBits, ↓tBool, ↓tAndA, ↓tOrA, ↓tNotA, ↓List.getElem?_cons_zero, ↓List.getElem?_cons_succ, ↓List.set_cons_zero, ↓List.set_cons_succ, ↓rInt, ↓rInt0, ↓rAddA, ↓rEqA, ↓rIsA, ↓rMax2A, ↓rMin2A, ↓rIntA, ↓rAbsA, bsel_true, bsel_false, wipeN, gNm, tYesA, ↓isNon, ↓isBlOf, ↓isI, ↓isB, ↓isS, ↓isT, ↓isL, Bool.or_false, Bool.or_true, Bool.false_or, Bool.true_or, ↓wList, ↓eLc, ↓rLenA, ↓sFor, ↓sWhile, ↓wRng1, ↓wRng2, ↓wTup, ↓wEnum, ↓eChain, ↓eListR1, ↓eLenSet, ↓eRev, ↓eInR, ↓eApp, ↓ePop, ↓eValue, ↓xDrop, ↓xRet, ↓xSet, ↓xCall, ↓xCallV, ↓sRaise, ↓eCallVL, ↓eLam3, startNF, Bool.not_true, Bool.not_false, Bool.false_eq_true, ↓reduceIte, Bool.not_not])
    refine ⟨⟨by omega, by omega⟩, g, _, _, l4, rfl, sup_same, gl4, by rw [rngA_len]; omega, gds_of (fun x hx => by rw [rngA_up] at hx; exact gd_ints x hx), (by rw [rngA_len]; omega), fun ys l5 hp gl5 => ?_⟩
    rw [sup_sup]
    obtain ⟨os, rfl, ho⟩ := deal_perm hp
    refine ⟨rfl, ?_⟩
    simp only [gsCons, gsNil, gNm]
    (try simp only [startN, List.map_cons, List.map_nil, List.length_cons, List.length_nil, Nat.reduceAdd, Nat.reduceSub, Nat.zero_add, Nat.sub_self, List.replicate_succ, List.replicate_zero, List.reduceReplicate, List.cons_append, List.nil_append, List.append_nil, ↓sRet, ↓sRetN, ↓sSeq, ↓sNil, ↓sIf, ↓sSet, ↓sPar, ↓sPar3, ↓sAsg, ↓sDrop, ↓sSetL, ↓eAnd, ↓eOr, ↓eNot, ↓eIf, ↓eNeg, ↓eCall, ↓eCallK, ↓eCallV, ↓lCons, ↓lNil, ↓eVar, ↓eC, ↓eTup, ↓eLst, ↓eLstC, ↓eOp, ↓eSl, ↓oNo, ↓oPart, ↓eBits, ↓tBool, ↓tAndA, ↓tOrA, ↓tNotA, ↓List.getElem?_cons_zero, ↓List.getElem?_cons_succ, ↓List.set_cons_zero, ↓List.set_cons_succ, ↓rInt, ↓rInt0, ↓rAddA, ↓rEqA, ↓rIsA, ↓rMax2A, ↓rMin2A, ↓rIntA, ↓rAbsA, bsel_true, bsel_false, wipeN, gNm, tYesA, ↓isNon, ↓isBlOf, ↓isI, ↓isB, ↓isS, ↓isT, ↓isL, Bool.or_false, Bool.or_true, Bool.false_or, Bool.true_or, ↓wList, ↓eLc, ↓rLenA, ↓sFor, ↓sWhile, ↓wRng1, ↓wRng2, ↓wTup, ↓wEnum, ↓eChain, ↓eListR1, ↓eLenSet, ↓eRev, ↓eInR, ↓eApp, ↓ePop, ↓eValue, ↓xDrop, ↓xRet, ↓xSet, ↓xCall, ↓xCallV, ↓sRaise, ↓eCallVL, ↓eLam3, startNF, Bool.not_true, Bool.not_false, Bool.false_eq_true, ↓reduceIte, Bool.not_not])
    rw [rngA_len] at gl5
    exact ⟨l5, ws, ds, os, rfl, rfl, gl5.mono (by omega), ⟨by omega, by omega, hsq, hwl, hd, ho⟩⟩
  rintro nv S' ⟨l, ws, ds, os, rfl, rfl, gl0, C⟩
  obtain ⟨kept, hk⟩ := caseR_repr C
  have m1 := C.m1
  have m2 := C.m2
  have hsq := C.sq
  have hwl := C.wl
  have d := deal_dl C.dl
  have o := deal_dl C.ol
  have gws := sq_gd hsq
  have g7 : gd 7 (.lst ws) = true := gd_mono gws (by decide)
  have gds6 : ∀ es : List Int, es.length ≤ 1000 → gd 6 (.lst (es.map .int)) = true := fun es he => gd_lst_of gd_ints (by rw [List.length_map]; omega)
  have dlen := d.len
  have olen := o.len
  have gdd := gds6 ds (by omega)
  have gdo := gds6 os (by omega)
  have hdl : dealA ws.length (.lst (ds.map .int)) = true := by rw [hwl]; exact C.dl
  have hol : dealA ws.length (.lst (os.map .int)) = true := by rw [hwl]; exact C.ol
  refine ⟨fun nv S' => S' = sup S g (.lst l) ∧ nv = [some (.ref scr), some (.int (i : Int)), some (.ref g), some (.int (n : Int)), some (.lst ws), some (.lst (ds.map .int)), some (.lst (os.map .int)), some (.str kept), none, none, none, none, none, none, none, none, none, none], ?_, ?_⟩
  · (try simp only [startN, List.map_cons, List.map_nil, List.length_cons, List.length_nil, Nat.reduceAdd, Nat.reduceSub, Nat.zero_add, Nat.sub_self, List.replicate_succ, List.replicate_zero, List.reduceReplicate, List.cons_append, List.nil_append, List.append_nil, ↓sRet, ↓sRetN, ↓sSeq, ↓sNil, ↓sIf, ↓sSet, ↓sPar, ↓sPar3, ↓sAsg, ↓sDrop, ↓sSetL, ↓eAnd, ↓eOr, ↓eNot, ↓eIf, ↓eNeg, ↓eCall, ↓eCallK, ↓eCallV, ↓lCons, ↓lNil, ↓eVar, ↓eC, ↓eTup, ↓eLst, ↓eLstC, ↓eOp, ↓eSl, ↓oNo, ↓oPart, ↓eBits, ↓tBool, ↓tAndA, ↓tOrA, ↓tNotA, ↓List.getElem?_cons_zero, ↓List.getElem?_cons_succ, ↓List.set_cons_zero, ↓List.set_cons_succ, ↓rInt, ↓rInt0, ↓rAddA, ↓rEqA, ↓rIsA, ↓rMax2A, ↓rMin2A, ↓rIntA, ↓rAbsA, bsel_true, bsel_false, wipeN, gNm, tYesA, ↓isNon, ↓isBlOf, ↓isI, ↓isB, ↓isS, ↓isT, ↓isL, Bool.or_false, Bool.or_true, Bool.false_or, Bool.true_or, ↓wList, ↓eLc, ↓rLenA, ↓sFor, ↓sWhile, ↓wRng1, ↓wRng2, ↓wTup, ↓wEnum, ↓eChain, ↓eListR1, ↓eLenSet, ↓eRev, ↓eInR, ↓eApp, ↓ePop, ↓eValue, ↓xDrop, ↓xRet, ↓xSet, ↓xCall, ↓xCallV, ↓sRaise, ↓eCallVL, ↓eLam3, startNF, Bool.not_true, Bool.not_false, Bool.false_eq_true, ↓reduceIte, Bool.not_not])
    exact hk _ _ ⟨rfl, rfl⟩
  rintro nv S' ⟨rfl, rfl⟩
  refine ⟨fun nv S' => Okk S S' ∧ ∃ v8 v9 v10 v11 v12, nv = [some (.ref scr), some (.int (i : Int)), some (.ref g), some (.int (n : Int)), some (.lst ws), some (.lst (ds.map .int)), some (.lst (os.map .int)), some (.str kept), v8, v9, v10, v11, v12, none, none, none, none, none], ?_, ?_⟩
  · (try simp only [startN, List.map_cons, List.map_nil, List.length_cons, List.length_nil, Nat.reduceAdd, Nat.reduceSub, Nat.zero_add, Nat.sub_self, List.replicate_succ, List.replicate_zero, List.reduceReplicate, List.cons_append, List.nil_append, List.append_nil, ↓sRet, ↓sRetN, ↓sSeq, ↓sNil, ↓sIf, ↓sSet, ↓sPar, ↓sPar3, ↓sAsg, ↓sDrop, ↓sSetL, ↓eAnd, ↓eOr, ↓eNot, ↓eIf, ↓eNeg, ↓eCall, ↓eCallK, ↓eCallV, ↓lCons, ↓lNil, ↓eVar, ↓eC, ↓eTup, ↓eLst, ↓eLstC, ↓eOp, ↓eSl, ↓oNo, ↓oPart, ↓eBits, ↓tBool, ↓tAndA, ↓tOrA, ↓tNotA, ↓List.getElem?_cons_zero, ↓List.getElem?_cons_succ, ↓List.set_cons_zero, ↓List.set_cons_succ, ↓rInt, ↓rInt0, ↓rAddA, ↓rEqA, ↓rIsA, ↓rMax2A, ↓rMin2A, ↓rIntA, ↓rAbsA, bsel_true, bsel_false, wipeN, gNm, tYesA, ↓isNon, ↓isBlOf, ↓isI, ↓isB, ↓isS, ↓isT, ↓isL, Bool.or_false, Bool.or_true, Bool.false_or, Bool.true_or, ↓wList, ↓eLc, ↓rLenA, ↓sFor, ↓sWhile, ↓wRng1, ↓wRng2, ↓wTup, ↓wEnum, ↓eChain, ↓eListR1, ↓eLenSet, ↓eRev, ↓eInR, ↓eApp, ↓ePop, ↓eValue, ↓xDrop, ↓xRet, ↓xSet, ↓xCall, ↓xCallV, ↓sRaise, ↓eCallVL, ↓eLam3, startNF, Bool.not_true, Bool.not_false, Bool.false_eq_true, ↓reduceIte, Bool.not_not])
    refine ⟨by decide, fun t nv S' => ∃ l v8 v9 v10 v11 v12, nv = [some (.ref scr), some (.int (i : Int)), some (.ref g), some (.int (n : Int)), some (.lst ws), some (.lst (ds.map .int)), some (.lst (os.map .int)), some (.str kept), v8, v9, v10, v11, v12, none, none, none, none, none] ∧ Okk S S' ∧ S' g = some (.lst l) ∧ GenL (1000000 + 100000 * t) l, ⟨l, _, _, _, _, _, rfl, ok0.put hg, sup_same, gl0.mono (by omega)⟩, fun _ _ _ _ _ => trivial, ?_, ?_⟩
    · rintro t y nv S' hy ⟨l, v8, v9, v10, v11, v12, rfl, ok, hgS, glt⟩
      obtain ⟨ht, rfl⟩ := rngA_at hy
      have ht4 : t < 4 := ht
      rw [sWrap_eq]
      (try simp only [startN, List.map_cons, List.map_nil, List.length_cons, List.length_nil, Nat.reduceAdd, Nat.reduceSub, Nat.zero_add, Nat.sub_self, List.replicate_succ, List.replicate_zero, List.reduceReplicate, List.cons_append, List.nil_append, List.append_nil, ↓sRet, ↓sRetN, ↓sSeq, ↓sNil, ↓sIf, ↓sSet, ↓sPar, ↓sPar3, ↓sAsg, ↓sDrop, ↓sSetL, ↓eAnd, ↓eOr, ↓eNot, ↓eIf, ↓eNeg, ↓eCall, ↓eCallK, ↓eCallV, ↓lCons, ↓lNil, ↓eVar, ↓eC, ↓eTup, ↓eLst, ↓eLstC, ↓eOp, ↓eSl, ↓oNo, ↓oPart, ↓eBits, ↓tBool, ↓tAndA, ↓tOrA, ↓tNotA, ↓List.getElem?_cons_zero, ↓List.getElem?_cons_succ, ↓List.set_cons_zero, ↓List.set_cons_succ, ↓rInt, ↓rInt0, ↓rAddA, ↓rEqA, ↓rIsA, ↓rMax2A, ↓rMin2A, ↓rIntA, ↓rAbsA, bsel_true, bsel_false, wipeN, gNm, tYesA, ↓isNon, ↓isBlOf, ↓isI, ↓isB, ↓isS, ↓isT, ↓isL, Bool.or_false, Bool.or_true, Bool.false_or, Bool.true_or, ↓wList, ↓eLc, ↓rLenA, ↓sFor, ↓sWhile, ↓wRng1, ↓wRng2, ↓wTup, ↓wEnum, ↓eChain, ↓eListR1, ↓eLenSet, ↓eRev, ↓eInR, ↓eApp, ↓ePop, ↓eValue, ↓xDrop, ↓xRet, ↓xSet, ↓xCall, ↓xCallV, ↓sRaise, ↓eCallVL, ↓eLam3, startNF, Bool.not_true, Bool.not_false, Bool.false_eq_true, ↓reduceIte, Bool.not_not])
      refine ⟨⟨by omega, by omega⟩, g, _, _, l, rfl, hgS, glt, (by rw [rngA_len]; omega), gds_of (fun x hx => by rw [rngA_up] at hx; exact gd_ints x hx), by omega, fun ys l4 hp gl4 => ?_⟩
      obtain ⟨rs0, rfl, hr0⟩ := deal_perm hp
      rw [rngA_len] at gl4
      refine ⟨g, (n : Int) - 1, _, l4, rfl, sup_same, gl4, by omega, (Bd.small 10 (i := (n : Int) - 1) (m := 12) (by omega)).le, by omega, fun r l5 r0 r1 gl5 => ?_⟩
      rw [sup_sup]
      obtain ⟨m, hkk⟩ : ∃ m : Nat, 2 + r = (m : Int) := ⟨(2 + r).toNat, by omega⟩
      (try simp only [startN, List.map_cons, List.map_nil, List.length_cons, List.length_nil, Nat.reduceAdd, Nat.reduceSub, Nat.zero_add, Nat.sub_self, List.replicate_succ, List.replicate_zero, List.reduceReplicate, List.cons_append, List.nil_append, List.append_nil, ↓sRet, ↓sRetN, ↓sSeq, ↓sNil, ↓sIf, ↓sSet, ↓sPar, ↓sPar3, ↓sAsg, ↓sDrop, ↓sSetL, ↓eAnd, ↓eOr, ↓eNot, ↓eIf, ↓eNeg, ↓eCall, ↓eCallK, ↓eCallV, ↓lCons, ↓lNil, ↓eVar, ↓eC, ↓eTup, ↓eLst, ↓eLstC, ↓eOp, ↓eSl, ↓oNo, ↓oPart, ↓eBits, ↓tBool, ↓tAndA, ↓tOrA, ↓tNotA, ↓List.getElem?_cons_zero, ↓List.getElem?_cons_succ, ↓List.set_cons_zero, ↓List.set_cons_succ, ↓rInt, ↓rInt0, ↓rAddA, ↓rEqA, ↓rIsA, ↓rMax2A, ↓rMin2A, ↓rIntA, ↓rAbsA, bsel_true, bsel_false, wipeN, gNm, tYesA, ↓isNon, ↓isBlOf, ↓isI, ↓isB, ↓isS, ↓isT, ↓isL, Bool.or_false, Bool.or_true, Bool.false_or, Bool.true_or, ↓wList, ↓eLc, ↓rLenA, ↓sFor, ↓sWhile, ↓wRng1, ↓wRng2, ↓wTup, ↓wEnum, ↓eChain, ↓eListR1, ↓eLenSet, ↓eRev, ↓eInR, ↓eApp, ↓ePop, ↓eValue, ↓xDrop, ↓xRet, ↓xSet, ↓xCall, ↓xCallV, ↓sRaise, ↓eCallVL, ↓eLam3, startNF, Bool.not_true, Bool.not_false, Bool.false_eq_true, ↓reduceIte, Bool.not_not])
      rw [hkk]
      refine ⟨_, rfl, ?_⟩
      rw [cut_n, ← List.map_take]
      have R : Rg n (rs0.take m) := take_rg hr0
      have hrl : (rs0.take m).length = m := by
        rw [List.length_take, (deal_dl hr0).len]
        omega
      generalize rs0.take m = rs at R hrl ⊢
      have hring : ringA ws.length (.lst (rs.map .int)) = true := by rw [hwl]; exact rg_ring R (by omega)
      have gdr := gds6 rs (by omega)
      have hz : ∀ xs, A.lst (rs.map A.int) = .lst xs → xs.length ≤ 1000 := fun xs e => by
        rw [← A.lst.inj e, List.length_map]
        omega
      have okg : Okk S (sup S' g (.lst l5)) := ok.set hg
      have hsum : sumA ws (handA ds rs) - sumA ws ds = ringGain (wAt ws) ds rs := hand_gain (wAt ws) R dlen
      have hll : (handA ds rs).length = n := by rw [hand_len]; exact dlen
      refine ⟨ws, ds, rs, rfl, hsq, (by rw [hwl]; exact d), (by rw [hwl]; exact R.bd), by omega, n, ds, rs, rfl, by omega, dlen, R, ?_⟩
      refine ⟨.lst ws, .lst (ds.map .int), .lst (rs.map .int), rfl, g7, gdd, gdr, hz, bsel_t hsq ⟨ws, rfl, bsel_t hdl ⟨ds, rfl, bsel_t hring ⟨rs, rfl, fun p hp => ?_⟩⟩⟩⟩
      have hpg : g ≠ p := fun e => by rw [← e, sup_same] at hp; cases hp
      have okp := okg.put (xs := (handA ds rs).map .int) hp
      refine ⟨.lst ws, .lst (ds.map .int), .lst (rs.map .int), rfl, g7, gdd, gdr, hz, bsel_t hsq ⟨ws, rfl, bsel_t hdl ⟨ds, rfl, bsel_t hring ⟨rs, rfl, fun q hq => ?_⟩⟩⟩⟩
      have hqp : q ≠ p := fun e => by rw [e, sup_same] at hq; cases hq
      have hqg : g ≠ q := fun e => by rw [← e, sup_ne hpg, sup_same] at hq; cases hq
      have okq := okp.put (xs := (handA ds rs).map .int) hq
      refine ⟨.lst ws, .lst (ds.map .int), .lst (rs.map .int), rfl, g7, gdd, gdr, hz, bsel_t hsq ⟨ws, rfl, bsel_t hdl ⟨ds, rfl, bsel_t hring ⟨rs, rfl, ?_⟩⟩⟩⟩
      refine ⟨.lst ws, .lst (ds.map .int), .lst (rs.map .int), rfl, g7, gdd, gdr, hz, bsel_t hsq ⟨ws, rfl, bsel_t hdl ⟨ds, rfl, bsel_t hring ⟨rs, rfl, ?_⟩⟩⟩⟩
      have hpS : sup (sup (sup S' g (.lst l5)) p (.lst ((handA ds rs).map .int))) q (.lst ((handA ds rs).map .int)) p = some (.lst ((handA ds rs).map .int)) := by rw [sup_ne (Ne.symm hqp), sup_same]
      refine ⟨f2 p ((handA ds rs).map .int) q ((handA ds rs).map .int), f2_cells hpS sup_same, ?_⟩
      have gl3 : gd 6 (.lst ((handA ds rs).map .int)) = true := gds6 _ (by omega)
      have gall : gd 7 (.lst [.lst ((handA ds rs).map .int), .lst ((handA ds rs).map .int), .int (ringGain (wAt ws) ds rs), .int (ringGain (wAt ws) ds rs)]) = true := by
        refine gd_lst_of (fun x hx => ?_) (by simp)
        simp only [List.mem_cons, List.not_mem_nil, or_false] at hx
        rcases hx with rfl | rfl | rfl | rfl
        · exact gl3
        · exact gl3
        · rfl
        · rfl
      refine ⟨.lst [.lst ((handA ds rs).map .int), .lst ((handA ds rs).map .int), .int (ringGain (wAt ws) ds rs), .int (ringGain (wAt ws) ds rs)], .lst [.lst ((handA ds rs).map .int), .lst ((handA ds rs).map .int), .int (ringGain (wAt ws) ds rs), .int (ringGain (wAt ws) ds rs)], ?_, gd_nr gall, gd_nr gall, gd_dle (gd_mono gall (by decide)), fun b hb => ⟨trivial, ?_⟩⟩
      · simp only [unfs_cons, unfs_nil, unfA_lst, unfA_int, f2_p, f2_q hqp, unfs_ints]
      rw [hb.mpr rfl]
      refine bsel_f rfl ⟨ws, handA ds rs, rfl, hsq, by omega, by omega, (by rw [hwl]; exact hand_bd d R), ws, ds, rfl, hsq, by omega, by omega, (by rw [hwl]; exact d.bd), ?_⟩
      (try simp only [startN, List.map_cons, List.map_nil, List.length_cons, List.length_nil, Nat.reduceAdd, Nat.reduceSub, Nat.zero_add, Nat.sub_self, List.replicate_succ, List.replicate_zero, List.reduceReplicate, List.cons_append, List.nil_append, List.append_nil, ↓sRet, ↓sRetN, ↓sSeq, ↓sNil, ↓sIf, ↓sSet, ↓sPar, ↓sPar3, ↓sAsg, ↓sDrop, ↓sSetL, ↓eAnd, ↓eOr, ↓eNot, ↓eIf, ↓eNeg, ↓eCall, ↓eCallK, ↓eCallV, ↓lCons, ↓lNil, ↓eVar, ↓eC, ↓eTup, ↓eLst, ↓eLstC, ↓eOp, ↓eSl, ↓oNo, ↓oPart, ↓eBits, ↓tBool, ↓tAndA, ↓tOrA, ↓tNotA, ↓List.getElem?_cons_zero, ↓List.getElem?_cons_succ, ↓List.set_cons_zero, ↓List.set_cons_succ, ↓rInt, ↓rInt0, ↓rAddA, ↓rEqA, ↓rIsA, ↓rMax2A, ↓rMin2A, ↓rIntA, ↓rAbsA, bsel_true, bsel_false, wipeN, gNm, tYesA, ↓isNon, ↓isBlOf, ↓isI, ↓isB, ↓isS, ↓isT, ↓isL, Bool.or_false, Bool.or_true, Bool.false_or, Bool.true_or, ↓wList, ↓eLc, ↓rLenA, ↓sFor, ↓sWhile, ↓wRng1, ↓wRng2, ↓wTup, ↓wEnum, ↓eChain, ↓eListR1, ↓eLenSet, ↓eRev, ↓eInR, ↓eApp, ↓ePop, ↓eValue, ↓xDrop, ↓xRet, ↓xSet, ↓xCall, ↓xCallV, ↓sRaise, ↓eCallVL, ↓eLam3, startNF, Bool.not_true, Bool.not_false, Bool.false_eq_true, ↓reduceIte, Bool.not_not])
      rw [hsum]
      refine bsel_f (by simp) ⟨.lst ws, .lst (rs.map .int), rfl, g7, gdr, hz, bsel_t hsq ⟨ws, rfl, ?_⟩⟩
      rw [hring]
      refine bsel_f rfl ⟨⟨p, _, rfl, hpS⟩, p, _, rfl, hpS, (by rw [List.length_map]; omega), l5, _, _, _, _, _, rfl, okq.set (ok.none ?_), ?_, gl5.mono (by omega)⟩
      · rw [sup_ne (Ne.symm hpg)] at hp
        exact hp
      · rw [sup_ne hpg, sup_ne hqg, sup_ne hpg, sup_same]
    · rintro nv S' ⟨l, v8, v9, v10, v11, v12, rfl, ok, _, _⟩
      exact ⟨ok, _, _, _, _, _, rfl⟩
  rintro nv S' ⟨ok, v8, v9, v10, v11, v12, rfl⟩
  have hR := rgs_ok d o n (Nat.le_refl _)
  have hF2 := (rgs_len d o (Nat.le_refl n)).2
  have hhand := rgs_hand d o
  have hgain := rgs_gain (wAt ws) d o
  have hself := rgs_self d
  refine ⟨fun nv S2 => S' = S2 ∧ nv = [some (.ref scr), some (.int (i : Int)), some (.ref g), some (.int (n : Int)), some (.lst ws), some (.lst (ds.map .int)), some (.lst (os.map .int)), some (.str kept), v8, v9, v10, v11, v12, some (.lst (ringsA (rgs n ds os n).1)), none, none, none, none], ?_, ?_⟩
  · (try simp only [startN, List.map_cons, List.map_nil, List.length_cons, List.length_nil, Nat.reduceAdd, Nat.reduceSub, Nat.zero_add, Nat.sub_self, List.replicate_succ, List.replicate_zero, List.reduceReplicate, List.cons_append, List.nil_append, List.append_nil, ↓sRet, ↓sRetN, ↓sSeq, ↓sNil, ↓sIf, ↓sSet, ↓sPar, ↓sPar3, ↓sAsg, ↓sDrop, ↓sSetL, ↓eAnd, ↓eOr, ↓eNot, ↓eIf, ↓eNeg, ↓eCall, ↓eCallK, ↓eCallV, ↓lCons, ↓lNil, ↓eVar, ↓eC, ↓eTup, ↓eLst, ↓eLstC, ↓eOp, ↓eSl, ↓oNo, ↓oPart, ↓eBits, ↓tBool, ↓tAndA, ↓tOrA, ↓tNotA, ↓List.getElem?_cons_zero, ↓List.getElem?_cons_succ, ↓List.set_cons_zero, ↓List.set_cons_succ, ↓rInt, ↓rInt0, ↓rAddA, ↓rEqA, ↓rIsA, ↓rMax2A, ↓rMin2A, ↓rIntA, ↓rAbsA, bsel_true, bsel_false, wipeN, gNm, tYesA, ↓isNon, ↓isBlOf, ↓isI, ↓isB, ↓isS, ↓isT, ↓isL, Bool.or_false, Bool.or_true, Bool.false_or, Bool.true_or, ↓wList, ↓eLc, ↓rLenA, ↓sFor, ↓sWhile, ↓wRng1, ↓wRng2, ↓wTup, ↓wEnum, ↓eChain, ↓eListR1, ↓eLenSet, ↓eRev, ↓eInR, ↓eApp, ↓ePop, ↓eValue, ↓xDrop, ↓xRet, ↓xSet, ↓xCall, ↓xCallV, ↓sRaise, ↓eCallVL, ↓eLam3, startNF, Bool.not_true, Bool.not_false, Bool.false_eq_true, ↓reduceIte, Bool.not_not])
    exact ⟨n, ds, os, rfl, by omega, d, o, by first | exact ⟨rfl, rfl⟩ | exact ⟨trivial, trivial⟩ | exact ⟨rfl, trivial⟩ | exact ⟨trivial, rfl⟩⟩
  rintro nv S2 ⟨rfl, rfl⟩
  have hF : ∀ r ∈ (rgs n ds os n).1, Rg n r ∧ r.length ≤ 1000 := fun r hr => ⟨(hR.rg r hr).1, by have := (hR.rg r hr).2.2.2; omega⟩
  have gF : gd 3 (.lst (ringsA (rgs n ds os n).1)) = true := gd_rings (fun r hr => (hF r hr).2) (by omega)
  generalize eF : (rgs n ds os n).1 = F at hF hF2 hhand hgain gF ⊢
  refine ⟨fun nv S2 => ∃ p, S' p = none ∧ S2 = sup S' p (.lst (ringsA F)) ∧ nv = [some (.ref scr), some (.int (i : Int)), some (.ref g), some (.int (n : Int)), some (.lst ws), some (.lst (ds.map .int)), some (.lst (os.map .int)), some (.str kept), v8, v9, v10, v11, some (.ref p), some (.lst (ringsA F)), some (.lst (ds.map .int)), none, none, none], ?_, ?_⟩
  · (try simp only [startN, List.map_cons, List.map_nil, List.length_cons, List.length_nil, Nat.reduceAdd, Nat.reduceSub, Nat.zero_add, Nat.sub_self, List.replicate_succ, List.replicate_zero, List.reduceReplicate, List.cons_append, List.nil_append, List.append_nil, ↓sRet, ↓sRetN, ↓sSeq, ↓sNil, ↓sIf, ↓sSet, ↓sPar, ↓sPar3, ↓sAsg, ↓sDrop, ↓sSetL, ↓eAnd, ↓eOr, ↓eNot, ↓eIf, ↓eNeg, ↓eCall, ↓eCallK, ↓eCallV, ↓lCons, ↓lNil, ↓eVar, ↓eC, ↓eTup, ↓eLst, ↓eLstC, ↓eOp, ↓eSl, ↓oNo, ↓oPart, ↓eBits, ↓tBool, ↓tAndA, ↓tOrA, ↓tNotA, ↓List.getElem?_cons_zero, ↓List.getElem?_cons_succ, ↓List.set_cons_zero, ↓List.set_cons_succ, ↓rInt, ↓rInt0, ↓rAddA, ↓rEqA, ↓rIsA, ↓rMax2A, ↓rMin2A, ↓rIntA, ↓rAbsA, bsel_true, bsel_false, wipeN, gNm, tYesA, ↓isNon, ↓isBlOf, ↓isI, ↓isB, ↓isS, ↓isT, ↓isL, Bool.or_false, Bool.or_true, Bool.false_or, Bool.true_or, ↓wList, ↓eLc, ↓rLenA, ↓sFor, ↓sWhile, ↓wRng1, ↓wRng2, ↓wTup, ↓wEnum, ↓eChain, ↓eListR1, ↓eLenSet, ↓eRev, ↓eInR, ↓eApp, ↓ePop, ↓eValue, ↓xDrop, ↓xRet, ↓xSet, ↓xCall, ↓xCallV, ↓sRaise, ↓eCallVL, ↓eLam3, startNF, Bool.not_true, Bool.not_false, Bool.false_eq_true, ↓reduceIte, Bool.not_not])
    refine ⟨.lst ws, .lst (ds.map .int), .lst (os.map .int), rfl, g7, gdd, gdo, bsel_t hsq ⟨ws, rfl, bsel_t hdl ⟨ds, rfl, bsel_t hol ⟨os, rfl, fun p hp => ?_⟩⟩⟩⟩
    rw [hwl, eF]
    exact ⟨ds.map .int, rfl, p, hp, rfl, rfl⟩
  rintro nv S2 ⟨p, hp, rfl, rfl⟩
  have okp := ok.put (xs := ringsA F) hp
  have hpS := ok.none hp
  refine ⟨fun nv S2 => Okk S S2 ∧ S2 p = some (.lst (ringsA F)) ∧ nv = [some (.ref scr), some (.int (i : Int)), some (.ref g), some (.int (n : Int)), some (.lst ws), some (.lst (ds.map .int)), some (.lst (os.map .int)), some (.str kept), v8, v9, v10, v11, some (.ref p), some (.lst (ringsA F)), some (.lst (ds.map .int)), none, none, none], ?_, ?_⟩
  · (try simp only [startN, List.map_cons, List.map_nil, List.length_cons, List.length_nil, Nat.reduceAdd, Nat.reduceSub, Nat.zero_add, Nat.sub_self, List.replicate_succ, List.replicate_zero, List.reduceReplicate, List.cons_append, List.nil_append, List.append_nil, ↓sRet, ↓sRetN, ↓sSeq, ↓sNil, ↓sIf, ↓sSet, ↓sPar, ↓sPar3, ↓sAsg, ↓sDrop, ↓sSetL, ↓eAnd, ↓eOr, ↓eNot, ↓eIf, ↓eNeg, ↓eCall, ↓eCallK, ↓eCallV, ↓lCons, ↓lNil, ↓eVar, ↓eC, ↓eTup, ↓eLst, ↓eLstC, ↓eOp, ↓eSl, ↓oNo, ↓oPart, ↓eBits, ↓tBool, ↓tAndA, ↓tOrA, ↓tNotA, ↓List.getElem?_cons_zero, ↓List.getElem?_cons_succ, ↓List.set_cons_zero, ↓List.set_cons_succ, ↓rInt, ↓rInt0, ↓rAddA, ↓rEqA, ↓rIsA, ↓rMax2A, ↓rMin2A, ↓rIntA, ↓rAbsA, bsel_true, bsel_false, wipeN, gNm, tYesA, ↓isNon, ↓isBlOf, ↓isI, ↓isB, ↓isS, ↓isT, ↓isL, Bool.or_false, Bool.or_true, Bool.false_or, Bool.true_or, ↓wList, ↓eLc, ↓rLenA, ↓sFor, ↓sWhile, ↓wRng1, ↓wRng2, ↓wTup, ↓wEnum, ↓eChain, ↓eListR1, ↓eLenSet, ↓eRev, ↓eInR, ↓eApp, ↓ePop, ↓eValue, ↓xDrop, ↓xRet, ↓xSet, ↓xCall, ↓xCallV, ↓sRaise, ↓eCallVL, ↓eLam3, startNF, Bool.not_true, Bool.not_false, Bool.false_eq_true, ↓reduceIte, Bool.not_not])
    refine ⟨.lst ws, .lst (ds.map .int), .lst (os.map .int), rfl, g7, gdd, gdo, bsel_t hsq ⟨ws, rfl, bsel_t hdl ⟨ds, rfl, bsel_t hol ⟨os, rfl, fun q hq => ?_⟩⟩⟩⟩
    rw [hwl, eF]
    have hqp : q ≠ p := fun e => by rw [e, sup_same] at hq; cases hq
    refine ⟨.lst ws, .lst (ds.map .int), .lst (ds.map .int), rfl, g7, gdd, gdd, bsel_t hsq ⟨ws, rfl, bsel_t hdl ⟨ds, rfl, bsel_t hdl ⟨ds, rfl, fun r hr => ?_⟩⟩⟩⟩
    rw [hwl, hself]
    have hrq : r ≠ q := fun e => by rw [e, sup_same] at hr; cases hr
    have hrp : r ≠ p := fun e => by rw [e, sup_ne (Ne.symm hqp), sup_same] at hr; cases hr
    have cp : sup (sup (sup S' p (.lst (ringsA F))) q (.lst (ringsA F))) r (.lst (ringsA [])) p = some (.lst (ringsA F)) := by rw [sup_ne (Ne.symm hrp), sup_ne (Ne.symm hqp), sup_same]
    have cq : sup (sup (sup S' p (.lst (ringsA F))) q (.lst (ringsA F))) r (.lst (ringsA [])) q = some (.lst (ringsA F)) := by rw [sup_ne (Ne.symm hrq), sup_same]
    refine ⟨f3 p (ringsA F) q (ringsA F) r (ringsA []), f3_cells cp cq sup_same, ?_⟩
    have gall : gd 7 (.lst [.lst (ringsA F), .lst (ringsA F), .lst []]) = true := by
      refine gd_lst_of (fun x hx => ?_) (by simp)
      simp only [List.mem_cons, List.not_mem_nil, or_false] at hx
      rcases hx with rfl | rfl | rfl
      · exact gd_mono gF (by decide)
      · exact gd_mono gF (by decide)
      · rfl
    refine ⟨.lst [.lst (ringsA F), .lst (ringsA F), .lst []], .lst [.lst (ringsA F), .lst (ringsA F), .lst []], ?_, gd_nr gall, gd_nr gall, gd_dle (gd_mono gall (by decide)), fun b hb => ⟨trivial, ?_⟩⟩
    · simp only [unfs_cons, unfs_nil, unfA_lst, f3_p, f3_q hqp, f3_r hrp hrq, unfs_rings]
      rfl
    rw [hb.mpr rfl]
    exact bsel_f rfl ⟨(okp.put hq).put hr, cp, trivial⟩
  clear okp hp
  rintro nv S2 ⟨ok2, hp2S, rfl⟩
  refine ⟨fun nv S3 => S2 = S3 ∧ ∃ v9, nv = [some (.ref scr), some (.int (i : Int)), some (.ref g), some (.int (n : Int)), some (.lst ws), some (.lst (ds.map .int)), some (.lst (os.map .int)), some (.str kept), v8, v9, v10, v11, some (.ref p), some (.lst (ringsA F)), some (.lst (os.map .int)), none, none, none], ?_, ?_⟩
  · (try simp only [startN, List.map_cons, List.map_nil, List.length_cons, List.length_nil, Nat.reduceAdd, Nat.reduceSub, Nat.zero_add, Nat.sub_self, List.replicate_succ, List.replicate_zero, List.reduceReplicate, List.cons_append, List.nil_append, List.append_nil, ↓sRet, ↓sRetN, ↓sSeq, ↓sNil, ↓sIf, ↓sSet, ↓sPar, ↓sPar3, ↓sAsg, ↓sDrop, ↓sSetL, ↓eAnd, ↓eOr, ↓eNot, ↓eIf, ↓eNeg, ↓eCall, ↓eCallK, ↓eCallV, ↓lCons, ↓lNil, ↓eVar, ↓eC, ↓eTup, ↓eLst, ↓eLstC, ↓eOp, ↓eSl, ↓oNo, ↓oPart, ↓eBits, ↓tBool, ↓tAndA, ↓tOrA, ↓tNotA, ↓List.getElem?_cons_zero, ↓List.getElem?_cons_succ, ↓List.set_cons_zero, ↓List.set_cons_succ, ↓rInt, ↓rInt0, ↓rAddA, ↓rEqA, ↓rIsA, ↓rMax2A, ↓rMin2A, ↓rIntA, ↓rAbsA, bsel_true, bsel_false, wipeN, gNm, tYesA, ↓isNon, ↓isBlOf, ↓isI, ↓isB, ↓isS, ↓isT, ↓isL, Bool.or_false, Bool.or_true, Bool.false_or, Bool.true_or, ↓wList, ↓eLc, ↓rLenA, ↓sFor, ↓sWhile, ↓wRng1, ↓wRng2, ↓wTup, ↓wEnum, ↓eChain, ↓eListR1, ↓eLenSet, ↓eRev, ↓eInR, ↓eApp, ↓ePop, ↓eValue, ↓xDrop, ↓xRet, ↓xSet, ↓xCall, ↓xCallV, ↓sRaise, ↓eCallVL, ↓eLam3, startNF, Bool.not_true, Bool.not_false, Bool.false_eq_true, ↓reduceIte, Bool.not_not])
    refine ⟨ringsA F, rfl, fun j nv S3 => S2 = S3 ∧ ∃ v9, nv = [some (.ref scr), some (.int (i : Int)), some (.ref g), some (.int (n : Int)), some (.lst ws), some (.lst (ds.map .int)), some (.lst (os.map .int)), some (.str kept), v8, v9, v10, v11, some (.ref p), some (.lst (ringsA F)), some (.lst (((F.take j).foldl handA ds).map .int)), none, none, none], ⟨rfl, _, rfl⟩, fun _ _ _ _ _ => rfl, ?_, ?_⟩
    · rintro j y nv S3 hy ⟨rfl, v9', rfl⟩
      obtain ⟨r, hr, _, rfl⟩ := rings_at hy
      rw [sWrap_eq]
      simp only [gNm]
      (try simp only [startN, List.map_cons, List.map_nil, List.length_cons, List.length_nil, Nat.reduceAdd, Nat.reduceSub, Nat.zero_add, Nat.sub_self, List.replicate_succ, List.replicate_zero, List.reduceReplicate, List.cons_append, List.nil_append, List.append_nil, ↓sRet, ↓sRetN, ↓sSeq, ↓sNil, ↓sIf, ↓sSet, ↓sPar, ↓sPar3, ↓sAsg, ↓sDrop, ↓sSetL, ↓eAnd, ↓eOr, ↓eNot, ↓eIf, ↓eNeg, ↓eCall, ↓eCallK, ↓eCallV, ↓lCons, ↓lNil, ↓eVar, ↓eC, ↓eTup, ↓eLst, ↓eLstC, ↓eOp, ↓eSl, ↓oNo, ↓oPart, ↓eBits, ↓tBool, ↓tAndA, ↓tOrA, ↓tNotA, ↓List.getElem?_cons_zero, ↓List.getElem?_cons_succ, ↓List.set_cons_zero, ↓List.set_cons_succ, ↓rInt, ↓rInt0, ↓rAddA, ↓rEqA, ↓rIsA, ↓rMax2A, ↓rMin2A, ↓rIntA, ↓rAbsA, bsel_true, bsel_false, wipeN, gNm, tYesA, ↓isNon, ↓isBlOf, ↓isI, ↓isB, ↓isS, ↓isT, ↓isL, Bool.or_false, Bool.or_true, Bool.false_or, Bool.true_or, ↓wList, ↓eLc, ↓rLenA, ↓sFor, ↓sWhile, ↓wRng1, ↓wRng2, ↓wTup, ↓wEnum, ↓eChain, ↓eListR1, ↓eLenSet, ↓eRev, ↓eInR, ↓eApp, ↓ePop, ↓eValue, ↓xDrop, ↓xRet, ↓xSet, ↓xCall, ↓xCallV, ↓sRaise, ↓eCallVL, ↓eLam3, startNF, Bool.not_true, Bool.not_false, Bool.false_eq_true, ↓reduceIte, Bool.not_not])
      refine ⟨n, _, r, rfl, by omega, fold_len _ _ dlen, (hF r (List.mem_of_getElem? hr)).1, rfl, some (.lst (r.map .int)), ?_⟩
      rw [List.take_add_one (l := F), hr, Option.toList_some, List.foldl_append]
      rfl
    · rintro nv S3 ⟨rfl, v9', rfl⟩
      have e1 : (ringsA F).length = F.length := by simp only [ringsA, List.length_map]
      rw [e1, List.take_length, hhand]
      exact ⟨rfl, _, rfl⟩
  rintro nv S3 ⟨rfl, v9', rfl⟩
  refine ⟨fun nv S3 => S2 = S3 ∧ nv = [some (.ref scr), some (.int (i : Int)), some (.ref g), some (.int (n : Int)), some (.lst ws), some (.lst (ds.map .int)), some (.lst (os.map .int)), some (.str kept), v8, v9', v10, v11, some (.ref p), some (.lst (ringsA F)), some (.lst (os.map .int)), none, none, none], ?_, ?_⟩
  · (try simp only [startN, List.map_cons, List.map_nil, List.length_cons, List.length_nil, Nat.reduceAdd, Nat.reduceSub, Nat.zero_add, Nat.sub_self, List.replicate_succ, List.replicate_zero, List.reduceReplicate, List.cons_append, List.nil_append, List.append_nil, ↓sRet, ↓sRetN, ↓sSeq, ↓sNil, ↓sIf, ↓sSet, ↓sPar, ↓sPar3, ↓sAsg, ↓sDrop, ↓sSetL, ↓eAnd, ↓eOr, ↓eNot, ↓eIf, ↓eNeg, ↓eCall, ↓eCallK, ↓eCallV, ↓lCons, ↓lNil, ↓eVar, ↓eC, ↓eTup, ↓eLst, ↓eLstC, ↓eOp, ↓eSl, ↓oNo, ↓oPart, ↓eBits, ↓tBool, ↓tAndA, ↓tOrA, ↓tNotA, ↓List.getElem?_cons_zero, ↓List.getElem?_cons_succ, ↓List.set_cons_zero, ↓List.set_cons_succ, ↓rInt, ↓rInt0, ↓rAddA, ↓rEqA, ↓rIsA, ↓rMax2A, ↓rMin2A, ↓rIntA, ↓rAbsA, bsel_true, bsel_false, wipeN, gNm, tYesA, ↓isNon, ↓isBlOf, ↓isI, ↓isB, ↓isS, ↓isT, ↓isL, Bool.or_false, Bool.or_true, Bool.false_or, Bool.true_or, ↓wList, ↓eLc, ↓rLenA, ↓sFor, ↓sWhile, ↓wRng1, ↓wRng2, ↓wTup, ↓wEnum, ↓eChain, ↓eListR1, ↓eLenSet, ↓eRev, ↓eInR, ↓eApp, ↓ePop, ↓eValue, ↓xDrop, ↓xRet, ↓xSet, ↓xCall, ↓xCallV, ↓sRaise, ↓eCallVL, ↓eLam3, startNF, Bool.not_true, Bool.not_false, Bool.false_eq_true, ↓reduceIte, Bool.not_not])
    refine rEqD_ints ?_
    refine bsel_f (by simp) ⟨ringsA F, rfl, (by simp only [ringsA, List.length_map]; omega), fun j acc S3 => S2 = S3 ∧ acc = ((F.take j).map (ringGain (wAt ws) ds)).map .int, ⟨rfl, rfl⟩, fun _ _ _ _ _ => rfl, ?_, ?_⟩
    · rintro j y acc S3 hy ⟨rfl, rfl⟩
      obtain ⟨r, hr, hm, rfl⟩ := rings_at hy
      refine ⟨ws, ds, r, rfl, hsq, (by rw [hwl]; exact d), (by rw [hwl]; exact (hF r hm).1.bd), (hF r hm).2, rfl, ?_⟩
      rw [List.take_add_one (l := F), hr, Option.toList_some, List.map_append, List.map_append]
      rfl
    · rintro acc S3 ⟨rfl, rfl⟩
      have e1 : (ringsA F).length = F.length := by simp only [ringsA, List.length_map]
      rw [e1, List.take_length]
      refine ⟨_, rfl, ws, os, rfl, hsq, by omega, by omega, (by rw [hwl]; exact o.bd), ws, ds, rfl, hsq, by omega, by omega, (by rw [hwl]; exact d.bd), ?_⟩
      have hg2 : (F.map (ringGain (wAt ws) ds)).sum = sumA ws os - sumA ws ds := hgain
      rw [hg2]
      exact bsel_f (by simp) ⟨rfl, trivial⟩
  rintro nv S3 ⟨rfl, rfl⟩
  refine ⟨fun nv S3 => Okk S S3 ∧ nv = [some (.ref scr), some (.int (i : Int)), some (.ref g), some (.int (n : Int)), some (.lst ws), some (.lst (ds.map .int)), some (.lst (os.map .int)), some (.str kept), v8, v9', v10, v11, some (.ref p), some (.lst (ringsA F)), some (.lst (os.map .int)), none, none, none], ?_, ?_⟩
  · (try simp only [startN, List.map_cons, List.map_nil, List.length_cons, List.length_nil, Nat.reduceAdd, Nat.reduceSub, Nat.zero_add, Nat.sub_self, List.replicate_succ, List.replicate_zero, List.reduceReplicate, List.cons_append, List.nil_append, List.append_nil, ↓sRet, ↓sRetN, ↓sSeq, ↓sNil, ↓sIf, ↓sSet, ↓sPar, ↓sPar3, ↓sAsg, ↓sDrop, ↓sSetL, ↓eAnd, ↓eOr, ↓eNot, ↓eIf, ↓eNeg, ↓eCall, ↓eCallK, ↓eCallV, ↓lCons, ↓lNil, ↓eVar, ↓eC, ↓eTup, ↓eLst, ↓eLstC, ↓eOp, ↓eSl, ↓oNo, ↓oPart, ↓eBits, ↓tBool, ↓tAndA, ↓tOrA, ↓tNotA, ↓List.getElem?_cons_zero, ↓List.getElem?_cons_succ, ↓List.set_cons_zero, ↓List.set_cons_succ, ↓rInt, ↓rInt0, ↓rAddA, ↓rEqA, ↓rIsA, ↓rMax2A, ↓rMin2A, ↓rIntA, ↓rAbsA, bsel_true, bsel_false, wipeN, gNm, tYesA, ↓isNon, ↓isBlOf, ↓isI, ↓isB, ↓isS, ↓isT, ↓isL, Bool.or_false, Bool.or_true, Bool.false_or, Bool.true_or, ↓wList, ↓eLc, ↓rLenA, ↓sFor, ↓sWhile, ↓wRng1, ↓wRng2, ↓wTup, ↓wEnum, ↓eChain, ↓eListR1, ↓eLenSet, ↓eRev, ↓eInR, ↓eApp, ↓ePop, ↓eValue, ↓xDrop, ↓xRet, ↓xSet, ↓xCall, ↓xCallV, ↓sRaise, ↓eCallVL, ↓eLam3, startNF, Bool.not_true, Bool.not_false, Bool.false_eq_true, ↓reduceIte, Bool.not_not])
    exact ⟨⟨p, _, rfl, hp2S⟩, p, _, rfl, hp2S, (by simp only [ringsA, List.length_map]; omega), ok2.set hpS, by first | rfl | trivial⟩
  clear ok2 hp2S
  rintro nv S2 ⟨ok2, rfl⟩
  refine ⟨fun nv S3 => S2 = S3 ∧ ∃ wr : List A, (∀ v ∈ wr, okR v ∧ ringA n v = false) ∧ wr.length ≤ 30 ∧ nv = [some (.ref scr), some (.int (i : Int)), some (.ref g), some (.int (n : Int)), some (.lst ws), some (.lst (ds.map .int)), some (.lst (os.map .int)), some (.str kept), v8, v9', v10, v11, some (.ref p), some (.lst (ringsA F)), some (.lst (os.map .int)), some (.lst wr), none, none], ?_, ?_⟩
  · (try simp only [startN, List.map_cons, List.map_nil, List.length_cons, List.length_nil, Nat.reduceAdd, Nat.reduceSub, Nat.zero_add, Nat.sub_self, List.replicate_succ, List.replicate_zero, List.reduceReplicate, List.cons_append, List.nil_append, List.append_nil, ↓sRet, ↓sRetN, ↓sSeq, ↓sNil, ↓sIf, ↓sSet, ↓sPar, ↓sPar3, ↓sAsg, ↓sDrop, ↓sSetL, ↓eAnd, ↓eOr, ↓eNot, ↓eIf, ↓eNeg, ↓eCall, ↓eCallK, ↓eCallV, ↓lCons, ↓lNil, ↓eVar, ↓eC, ↓eTup, ↓eLst, ↓eLstC, ↓eOp, ↓eSl, ↓oNo, ↓oPart, ↓eBits, ↓tBool, ↓tAndA, ↓tOrA, ↓tNotA, ↓List.getElem?_cons_zero, ↓List.getElem?_cons_succ, ↓List.set_cons_zero, ↓List.set_cons_succ, ↓rInt, ↓rInt0, ↓rAddA, ↓rEqA, ↓rIsA, ↓rMax2A, ↓rMin2A, ↓rIntA, ↓rAbsA, bsel_true, bsel_false, wipeN, gNm, tYesA, ↓isNon, ↓isBlOf, ↓isI, ↓isB, ↓isS, ↓isT, ↓isL, Bool.or_false, Bool.or_true, Bool.false_or, Bool.true_or, ↓wList, ↓eLc, ↓rLenA, ↓sFor, ↓sWhile, ↓wRng1, ↓wRng2, ↓wTup, ↓wEnum, ↓eChain, ↓eListR1, ↓eLenSet, ↓eRev, ↓eInR, ↓eApp, ↓ePop, ↓eValue, ↓xDrop, ↓xRet, ↓xSet, ↓xCall, ↓xCallV, ↓sRaise, ↓eCallVL, ↓eLam3, startNF, Bool.not_true, Bool.not_false, Bool.false_eq_true, ↓reduceIte, Bool.not_not])
    refine ⟨⟨by omega, by omega⟩, _, _, rfl, rfl, (by rw [PySem.sizeLine_eq]; simp only [List.length_cons, List.length_nil, List.length_append, rngA_len, Int.toNat_natCast]; omega), (by first | rfl | trivial), _, fun v hv => ?_, ?_, rfl⟩
    · simp only [List.mem_cons, List.not_mem_nil, or_false] at hv
      rcases hv with rfl | rfl | rfl | rfl | rfl | rfl | rfl | rfl | rfl | rfl | rfl | rfl | rfl
      · exact ⟨⟨rfl, fun xs e => (by cases e)⟩, rfl⟩
      · exact ⟨⟨rfl, fun xs e => (by cases e)⟩, rfl⟩
      · exact ⟨⟨(by decide +kernel), fun xs e => (by cases e)⟩, rfl⟩
      · exact ⟨⟨rfl, fun xs e => (by cases e; decide)⟩, rfl⟩
      · exact ⟨⟨rfl, fun xs e => (by cases e; decide)⟩, rfl⟩
      · exact ⟨⟨rfl, fun xs e => (by cases e)⟩, rfl⟩
      · refine ⟨⟨rfl, fun xs e => (by cases e; decide)⟩, ring_no fun rs e R h2 => ?_⟩
        obtain rfl : [(0 : Int), 0] = rs := ints_inj e
        have := R.nd
        simp at this
      · refine ⟨⟨rfl, fun xs e => (by cases e; simp)⟩, ring_no fun rs e R h2 => ?_⟩
        obtain rfl : [(0 : Int), (n : Int)] = rs := ints_inj e
        have := (R.bd (n : Int) (by simp)).2
        omega
      · refine ⟨⟨rfl, fun xs e => (by cases e; decide)⟩, ring_no fun rs e R h2 => ?_⟩
        obtain rfl : [(0 - 1 : Int), 0] = rs := ints_inj e
        have := (R.bd (0 - 1) (by simp)).1
        omega
      · exact ⟨⟨rfl, fun xs e => (by cases e; decide)⟩, rfl⟩
      · exact ⟨⟨(by decide +kernel), fun xs e => (by cases e; decide)⟩, rfl⟩
      · exact ⟨⟨rfl, fun xs e => (by cases e; decide)⟩, rfl⟩
      · refine ⟨⟨gd_cat (fun x hx => (by rw [rngA_up] at hx; exact gd_ints x hx)) (all_one rfl) (by rw [rngA_len]; simp; omega), fun xs e => ?_⟩, ring_no fun rs e R h2 => ?_⟩
        · rw [← A.lst.inj e, List.length_append, rngA_len]
          simp
          omega
        · have q := congrArg List.length (A.lst.inj e)
          rw [List.length_append, rngA_len, List.length_map] at q
          have := nd_le n rs R.nd R.bd
          simp at q
          omega
    · simp
  rintro nv S3 ⟨rfl, wr, hwr, hwl2, rfl⟩
  refine ⟨fun nv S3 => S2 = S3 ∧ nv = [some (.ref scr), some (.int (i : Int)), some (.ref g), some (.int (n : Int)), some (.lst ws), some (.lst (ds.map .int)), some (.lst (os.map .int)), some (.str kept), v8, v9', v10, v11, some (.ref p), some (.lst (ringsA F)), some (.lst (os.map .int)), some (.lst wr), none, none], ?_, ?_⟩
  · (try simp only [startN, List.map_cons, List.map_nil, List.length_cons, List.length_nil, Nat.reduceAdd, Nat.reduceSub, Nat.zero_add, Nat.sub_self, List.replicate_succ, List.replicate_zero, List.reduceReplicate, List.cons_append, List.nil_append, List.append_nil, ↓sRet, ↓sRetN, ↓sSeq, ↓sNil, ↓sIf, ↓sSet, ↓sPar, ↓sPar3, ↓sAsg, ↓sDrop, ↓sSetL, ↓eAnd, ↓eOr, ↓eNot, ↓eIf, ↓eNeg, ↓eCall, ↓eCallK, ↓eCallV, ↓lCons, ↓lNil, ↓eVar, ↓eC, ↓eTup, ↓eLst, ↓eLstC, ↓eOp, ↓eSl, ↓oNo, ↓oPart, ↓eBits, ↓tBool, ↓tAndA, ↓tOrA, ↓tNotA, ↓List.getElem?_cons_zero, ↓List.getElem?_cons_succ, ↓List.set_cons_zero, ↓List.set_cons_succ, ↓rInt, ↓rInt0, ↓rAddA, ↓rEqA, ↓rIsA, ↓rMax2A, ↓rMin2A, ↓rIntA, ↓rAbsA, bsel_true, bsel_false, wipeN, gNm, tYesA, ↓isNon, ↓isBlOf, ↓isI, ↓isB, ↓isS, ↓isT, ↓isL, Bool.or_false, Bool.or_true, Bool.false_or, Bool.true_or, ↓wList, ↓eLc, ↓rLenA, ↓sFor, ↓sWhile, ↓wRng1, ↓wRng2, ↓wTup, ↓wEnum, ↓eChain, ↓eListR1, ↓eLenSet, ↓eRev, ↓eInR, ↓eApp, ↓ePop, ↓eValue, ↓xDrop, ↓xRet, ↓xSet, ↓xCall, ↓xCallV, ↓sRaise, ↓eCallVL, ↓eLam3, startNF, Bool.not_true, Bool.not_false, Bool.false_eq_true, ↓reduceIte, Bool.not_not])
    refine ⟨⟨by omega, by omega⟩, wr, _, rfl, rfl, (by rw [PySem.sizeLine_eq]; simp only [List.length_cons, List.length_nil, List.length_append, rngA_len, Int.toNat_natCast]; omega), ok2.nl, ok2.kp _ _ hP, [.int (n : Int)], ⟨_, _, rfl, rfl, rfl⟩, fun f hf => ⟨f_is_ring, f, [.lst ws], _, rfl, by simp, fun v hv => ?_, rfl, ?_⟩⟩
    · have hv6 : okR v := by
        rcases List.mem_append.mp hv with h | h
        · exact (hwr v h).1
        · simp only [List.mem_cons, List.not_mem_nil, or_false] at h
          rcases h with rfl | rfl
          · refine ⟨gd_lst_of (fun x hx => (by rw [rngA_up] at hx; exact gd_ints x hx)) (by rw [rngA_len]; omega), fun xs e => ?_⟩
            rw [← A.lst.inj e, rngA_len]
            omega
          · exact ⟨rfl, fun xs e => (by cases e; decide)⟩
      exact ⟨ringA n v, ⟨_, x_is_ring, fun Q QE q => ⟨.lst ws, v, rfl, g7, hv6.1, hv6.2, bsel_t hsq ⟨ws, rfl, by rw [hwl]; exact q⟩⟩⟩, .inr ⟨lam__law_case_right_0, [.int (n : Int)], lsp_ring, sup_same, lam0, rfl, fun Q q => ⟨n, v, rfl, rfl, hv6, q⟩⟩⟩
    · exact bsel_f rfl ⟨rfl, trivial⟩
  rintro nv S3 ⟨rfl, rfl⟩
  refine ⟨fun nv S3 => S2 = S3 ∧ ∃ dd : List A, dd = [.tup [.ref f_ring_gain, .lst [.lst ws, .lst (ds.map .int), .lst [.int 0, .int 1]]], .tup [.ref f_handed_on, .lst [.lst ws, .lst (ds.map .int), .lst [.int 0, .int 1]]]] ∧ nv = [some (.ref scr), some (.int (i : Int)), some (.ref g), some (.int (n : Int)), some (.lst ws), some (.lst (ds.map .int)), some (.lst (os.map .int)), some (.str kept), v8, v9', v10, v11, some (.ref p), some (.lst (ringsA F)), some (.lst (os.map .int)), some (.lst wr), some (.lst dd), none], ?_, ?_⟩
  · (try simp only [startN, List.map_cons, List.map_nil, List.length_cons, List.length_nil, Nat.reduceAdd, Nat.reduceSub, Nat.zero_add, Nat.sub_self, List.replicate_succ, List.replicate_zero, List.reduceReplicate, List.cons_append, List.nil_append, List.append_nil, ↓sRet, ↓sRetN, ↓sSeq, ↓sNil, ↓sIf, ↓sSet, ↓sPar, ↓sPar3, ↓sAsg, ↓sDrop, ↓sSetL, ↓eAnd, ↓eOr, ↓eNot, ↓eIf, ↓eNeg, ↓eCall, ↓eCallK, ↓eCallV, ↓lCons, ↓lNil, ↓eVar, ↓eC, ↓eTup, ↓eLst, ↓eLstC, ↓eOp, ↓eSl, ↓oNo, ↓oPart, ↓eBits, ↓tBool, ↓tAndA, ↓tOrA, ↓tNotA, ↓List.getElem?_cons_zero, ↓List.getElem?_cons_succ, ↓List.set_cons_zero, ↓List.set_cons_succ, ↓rInt, ↓rInt0, ↓rAddA, ↓rEqA, ↓rIsA, ↓rMax2A, ↓rMin2A, ↓rIntA, ↓rAbsA, bsel_true, bsel_false, wipeN, gNm, tYesA, ↓isNon, ↓isBlOf, ↓isI, ↓isB, ↓isS, ↓isT, ↓isL, Bool.or_false, Bool.or_true, Bool.false_or, Bool.true_or, ↓wList, ↓eLc, ↓rLenA, ↓sFor, ↓sWhile, ↓wRng1, ↓wRng2, ↓wTup, ↓wEnum, ↓eChain, ↓eListR1, ↓eLenSet, ↓eRev, ↓eInR, ↓eApp, ↓ePop, ↓eValue, ↓xDrop, ↓xRet, ↓xSet, ↓xCall, ↓xCallV, ↓sRaise, ↓eCallVL, ↓eLam3, startNF, Bool.not_true, Bool.not_false, Bool.false_eq_true, ↓reduceIte, Bool.not_not])
    exact ⟨trivial, _, rfl, rfl⟩
  rintro nv S3 ⟨rfl, dd, edd, rfl⟩
  refine ⟨fun nv S3 => S2 = S3 ∧ ∃ mm : List A, mm = [.tup [.ref f_rings_between, .lst [.lst ws, .lst (ds.map .int), .lst (os.map .int)]]] ∧ nv = [some (.ref scr), some (.int (i : Int)), some (.ref g), some (.int (n : Int)), some (.lst ws), some (.lst (ds.map .int)), some (.lst (os.map .int)), some (.str kept), v8, v9', v10, v11, some (.ref p), some (.lst (ringsA F)), some (.lst (os.map .int)), some (.lst wr), some (.lst dd), some (.lst mm)], ?_, ?_⟩
  · (try simp only [startN, List.map_cons, List.map_nil, List.length_cons, List.length_nil, Nat.reduceAdd, Nat.reduceSub, Nat.zero_add, Nat.sub_self, List.replicate_succ, List.replicate_zero, List.reduceReplicate, List.cons_append, List.nil_append, List.append_nil, ↓sRet, ↓sRetN, ↓sSeq, ↓sNil, ↓sIf, ↓sSet, ↓sPar, ↓sPar3, ↓sAsg, ↓sDrop, ↓sSetL, ↓eAnd, ↓eOr, ↓eNot, ↓eIf, ↓eNeg, ↓eCall, ↓eCallK, ↓eCallV, ↓lCons, ↓lNil, ↓eVar, ↓eC, ↓eTup, ↓eLst, ↓eLstC, ↓eOp, ↓eSl, ↓oNo, ↓oPart, ↓eBits, ↓tBool, ↓tAndA, ↓tOrA, ↓tNotA, ↓List.getElem?_cons_zero, ↓List.getElem?_cons_succ, ↓List.set_cons_zero, ↓List.set_cons_succ, ↓rInt, ↓rInt0, ↓rAddA, ↓rEqA, ↓rIsA, ↓rMax2A, ↓rMin2A, ↓rIntA, ↓rAbsA, bsel_true, bsel_false, wipeN, gNm, tYesA, ↓isNon, ↓isBlOf, ↓isI, ↓isB, ↓isS, ↓isT, ↓isL, Bool.or_false, Bool.or_true, Bool.false_or, Bool.true_or, ↓wList, ↓eLc, ↓rLenA, ↓sFor, ↓sWhile, ↓wRng1, ↓wRng2, ↓wTup, ↓wEnum, ↓eChain, ↓eListR1, ↓eLenSet, ↓eRev, ↓eInR, ↓eApp, ↓ePop, ↓eValue, ↓xDrop, ↓xRet, ↓xSet, ↓xCall, ↓xCallV, ↓sRaise, ↓eCallVL, ↓eLam3, startNF, Bool.not_true, Bool.not_false, Bool.false_eq_true, ↓reduceIte, Bool.not_not])
    exact ⟨trivial, _, rfl, rfl⟩
  rintro nv S3 ⟨rfl, mm, emm, rfl⟩
  have rg3W : ∀ out : List A, (∀ v ∈ out, gd 7 v = true ∧ sqW v = false) → ∀ de ∈ dd ++ mm, refOk Tx Te 0 "InvalidWorths" out S2 de := fun out ho2 de hd => by
    rw [edd, emm] at hd
    simp only [List.cons_append, List.nil_append, List.mem_cons, List.not_mem_nil, or_false] at hd
    rcases hd with rfl | rfl | rfl
    · exact ⟨f_ring_gain, _, _, rfl, by simp, by simp, x_ring_gain, fun v hv => ⟨(ho2 v hv).1, fun Q QE q => ⟨v, .non, .non, rfl, (ho2 v hv).1, rfl, rfl, (fun xs e => (by cases e)), bsel_f (ho2 v hv).2 (q _ ⟨_, T_InvalidWorths⟩ T_InvalidWorths)⟩, fun Q QE q => ⟨v, _, _, rfl, (ho2 v hv).1, gdd, rfl, (fun xs e => (by cases e; decide)), bsel_f (ho2 v hv).2 (q _ ⟨_, T_InvalidWorths⟩ T_InvalidWorths)⟩⟩⟩
    · exact ⟨f_handed_on, _, _, rfl, by simp, by simp, x_handed_on, fun v hv => ⟨(ho2 v hv).1, fun Q QE q => ⟨v, .non, .non, rfl, (ho2 v hv).1, rfl, rfl, (fun xs e => (by cases e)), bsel_f (ho2 v hv).2 (q _ ⟨_, T_InvalidWorths⟩ T_InvalidWorths)⟩, fun Q QE q => ⟨v, _, _, rfl, (ho2 v hv).1, gdd, rfl, (fun xs e => (by cases e; decide)), bsel_f (ho2 v hv).2 (q _ ⟨_, T_InvalidWorths⟩ T_InvalidWorths)⟩⟩⟩
    · exact ⟨f_rings_between, _, _, rfl, by simp, by simp, x_rings_between, fun v hv => ⟨(ho2 v hv).1, fun Q QE q => ⟨v, .non, .non, rfl, (ho2 v hv).1, rfl, rfl, bsel_f (ho2 v hv).2 (q _ ⟨_, T_InvalidWorths⟩ T_InvalidWorths)⟩, fun Q QE q => ⟨v, _, _, rfl, (ho2 v hv).1, gdd, gdo, bsel_f (ho2 v hv).2 (q _ ⟨_, T_InvalidWorths⟩ T_InvalidWorths)⟩⟩⟩
  have rg3D : ∀ out2 : List A, (∀ v ∈ out2, gd 6 v = true ∧ dealA ds.length v = false) → ∀ de ∈ dd ++ mm, refOk Tx Te 1 "InvalidDeal" out2 S2 de := fun out2 hp2 de hd => by
    have nod : ∀ v ∈ out2, dealA ws.length v = false := fun v hv => by rw [hwl, ← dlen]; exact (hp2 v hv).2
    rw [edd, emm] at hd
    simp only [List.cons_append, List.nil_append, List.mem_cons, List.not_mem_nil, or_false] at hd
    rcases hd with rfl | rfl | rfl
    · exact ⟨f_ring_gain, _, _, rfl, by simp, by simp, x_ring_gain, fun v hv => ⟨gd_mono (hp2 v hv).1 (by decide), fun Q QE q => ⟨.lst ws, v, .non, rfl, g7, (hp2 v hv).1, rfl, (fun xs e => (by cases e)), bsel_t hsq ⟨ws, rfl, bsel_f (nod v hv) (q _ ⟨_, T_InvalidDeal⟩ T_InvalidDeal)⟩⟩, fun Q QE q => ⟨.lst ws, v, _, rfl, g7, (hp2 v hv).1, rfl, (fun xs e => (by cases e; decide)), bsel_t hsq ⟨ws, rfl, bsel_f (nod v hv) (q _ ⟨_, T_InvalidDeal⟩ T_InvalidDeal)⟩⟩⟩⟩
    · exact ⟨f_handed_on, _, _, rfl, by simp, by simp, x_handed_on, fun v hv => ⟨gd_mono (hp2 v hv).1 (by decide), fun Q QE q => ⟨.lst ws, v, .non, rfl, g7, (hp2 v hv).1, rfl, (fun xs e => (by cases e)), bsel_t hsq ⟨ws, rfl, bsel_f (nod v hv) (q _ ⟨_, T_InvalidDeal⟩ T_InvalidDeal)⟩⟩, fun Q QE q => ⟨.lst ws, v, _, rfl, g7, (hp2 v hv).1, rfl, (fun xs e => (by cases e; decide)), bsel_t hsq ⟨ws, rfl, bsel_f (nod v hv) (q _ ⟨_, T_InvalidDeal⟩ T_InvalidDeal)⟩⟩⟩⟩
    · exact ⟨f_rings_between, _, _, rfl, by simp, by simp, x_rings_between, fun v hv => ⟨gd_mono (hp2 v hv).1 (by decide), fun Q QE q => ⟨.lst ws, v, .non, rfl, g7, (hp2 v hv).1, rfl, bsel_t hsq ⟨ws, rfl, bsel_f (nod v hv) (q _ ⟨_, T_InvalidDeal⟩ T_InvalidDeal)⟩⟩, fun Q QE q => ⟨.lst ws, v, _, rfl, g7, (hp2 v hv).1, gdo, bsel_t hsq ⟨ws, rfl, bsel_f (nod v hv) (q _ ⟨_, T_InvalidDeal⟩ T_InvalidDeal)⟩⟩⟩⟩
  have rg3R : ∀ de ∈ dd, refOk Tx Te 2 "InvalidRing" wr S2 de := fun de hd => by
    rw [edd] at hd
    simp only [List.mem_cons, List.not_mem_nil, or_false] at hd
    rcases hd with rfl | rfl
    · exact ⟨f_ring_gain, _, _, rfl, by simp, by simp, x_ring_gain, fun v hv => ⟨gd_mono (hwr v hv).1.1 (by decide), fun Q QE q => ⟨.lst ws, _, v, rfl, g7, gdd, (hwr v hv).1.1, (hwr v hv).1.2, bsel_t hsq ⟨ws, rfl, bsel_t hdl ⟨ds, rfl, bsel_f (by rw [hwl]; exact (hwr v hv).2) (q _ ⟨_, T_InvalidRing⟩ T_InvalidRing)⟩⟩⟩, fun Q QE q => ⟨.lst ws, _, v, rfl, g7, gdd, (hwr v hv).1.1, (hwr v hv).1.2, bsel_t hsq ⟨ws, rfl, bsel_t hdl ⟨ds, rfl, bsel_f (by rw [hwl]; exact (hwr v hv).2) (q _ ⟨_, T_InvalidRing⟩ T_InvalidRing)⟩⟩⟩⟩⟩
    · exact ⟨f_handed_on, _, _, rfl, by simp, by simp, x_handed_on, fun v hv => ⟨gd_mono (hwr v hv).1.1 (by decide), fun Q QE q => ⟨.lst ws, _, v, rfl, g7, gdd, (hwr v hv).1.1, (hwr v hv).1.2, bsel_t hsq ⟨ws, rfl, bsel_t hdl ⟨ds, rfl, bsel_f (by rw [hwl]; exact (hwr v hv).2) (q _ ⟨_, T_InvalidRing⟩ T_InvalidRing)⟩⟩⟩, fun Q QE q => ⟨.lst ws, _, v, rfl, g7, gdd, (hwr v hv).1.1, (hwr v hv).1.2, bsel_t hsq ⟨ws, rfl, bsel_t hdl ⟨ds, rfl, bsel_f (by rw [hwl]; exact (hwr v hv).2) (q _ ⟨_, T_InvalidRing⟩ T_InvalidRing)⟩⟩⟩⟩⟩
  have rg3M : ∀ out2 : List A, (∀ v ∈ out2, gd 6 v = true ∧ dealA os.length v = false) → ∀ de ∈ mm, refOk Tx Te 2 "InvalidDeal" out2 S2 de := fun out2 hp2 de hd => by
    have nod : ∀ v ∈ out2, dealA ws.length v = false := fun v hv => by rw [hwl, ← olen]; exact (hp2 v hv).2
    rw [emm] at hd
    obtain rfl := List.mem_singleton.mp hd
    exact ⟨f_rings_between, _, _, rfl, by simp, by simp, x_rings_between, fun v hv => ⟨gd_mono (hp2 v hv).1 (by decide), fun Q QE q => ⟨.lst ws, _, v, rfl, g7, gdd, (hp2 v hv).1, bsel_t hsq ⟨ws, rfl, bsel_t hdl ⟨ds, rfl, bsel_f (nod v hv) (q _ ⟨_, T_InvalidDeal⟩ T_InvalidDeal)⟩⟩⟩, fun Q QE q => ⟨.lst ws, _, v, rfl, g7, gdd, (hp2 v hv).1, bsel_t hsq ⟨ws, rfl, bsel_t hdl ⟨ds, rfl, bsel_f (nod v hv) (q _ ⟨_, T_InvalidDeal⟩ T_InvalidDeal)⟩⟩⟩⟩⟩
  refine ⟨fun nv S3 => S2 = S3 ∧ nv = [some (.ref scr), some (.int (i : Int)), some (.ref g), some (.int (n : Int)), some (.lst ws), some (.lst (ds.map .int)), some (.lst (os.map .int)), some (.str kept), v8, v9', v10, v11, some (.ref p), some (.lst (ringsA F)), some (.lst (os.map .int)), some (.lst wr), some (.lst dd), some (.lst mm)], ?_, ?_⟩
  · (try simp only [startN, List.map_cons, List.map_nil, List.length_cons, List.length_nil, Nat.reduceAdd, Nat.reduceSub, Nat.zero_add, Nat.sub_self, List.replicate_succ, List.replicate_zero, List.reduceReplicate, List.cons_append, List.nil_append, List.append_nil, ↓sRet, ↓sRetN, ↓sSeq, ↓sNil, ↓sIf, ↓sSet, ↓sPar, ↓sPar3, ↓sAsg, ↓sDrop, ↓sSetL, ↓eAnd, ↓eOr, ↓eNot, ↓eIf, ↓eNeg, ↓eCall, ↓eCallK, ↓eCallV, ↓lCons, ↓lNil, ↓eVar, ↓eC, ↓eTup, ↓eLst, ↓eLstC, ↓eOp, ↓eSl, ↓oNo, ↓oPart, ↓eBits, ↓tBool, ↓tAndA, ↓tOrA, ↓tNotA, ↓List.getElem?_cons_zero, ↓List.getElem?_cons_succ, ↓List.set_cons_zero, ↓List.set_cons_succ, ↓rInt, ↓rInt0, ↓rAddA, ↓rEqA, ↓rIsA, ↓rMax2A, ↓rMin2A, ↓rIntA, ↓rAbsA, bsel_true, bsel_false, wipeN, gNm, tYesA, ↓isNon, ↓isBlOf, ↓isI, ↓isB, ↓isS, ↓isT, ↓isL, Bool.or_false, Bool.or_true, Bool.false_or, Bool.true_or, ↓wList, ↓eLc, ↓rLenA, ↓sFor, ↓sWhile, ↓wRng1, ↓wRng2, ↓wTup, ↓wEnum, ↓eChain, ↓eListR1, ↓eLenSet, ↓eRev, ↓eInR, ↓eApp, ↓ePop, ↓eValue, ↓xDrop, ↓xRet, ↓xSet, ↓xCall, ↓xCallV, ↓sRaise, ↓eCallVL, ↓eLam3, startNF, Bool.not_true, Bool.not_false, Bool.false_eq_true, ↓reduceIte, Bool.not_not])
    refine ⟨dd, mm, rfl, rfl, (by rw [PySem.sizeLine_eq, edd, emm]; simp), dd ++ mm, _, rfl, rfl, (by rw [PySem.sizeLine_eq, edd, emm]; simp), ws, rfl, hsq, fun out ho1 ho2 => ?_⟩
    refine ⟨_, out, 0, _, rfl, (by simp [kinds]), by omega, fun de hd => ?_, bsel_f rfl ⟨rfl, trivial⟩⟩
    rcases List.mem_append.mp hd with h | h
    · exact rg3W out ho2 de h
    · obtain rfl := List.mem_singleton.mp h
      exact ⟨f_is_ring, _, _, rfl, by simp, by simp, x_is_ring, fun v hv => ⟨(ho2 v hv).1, fun Q QE q => ⟨v, .non, rfl, (ho2 v hv).1, rfl, (fun xs e => (by cases e)), bsel_f (ho2 v hv).2 (q _ ⟨_, T_InvalidWorths⟩ T_InvalidWorths)⟩, fun Q QE q => ⟨v, _, rfl, (ho2 v hv).1, rfl, (fun xs e => (by cases e)), bsel_f (ho2 v hv).2 (q _ ⟨_, T_InvalidWorths⟩ T_InvalidWorths)⟩⟩⟩
  rintro nv S3 ⟨rfl, rfl⟩
  refine ⟨fun nv S3 => S2 = S3 ∧ nv = [some (.ref scr), some (.int (i : Int)), some (.ref g), some (.int (n : Int)), some (.lst ws), some (.lst (ds.map .int)), some (.lst (os.map .int)), some (.str kept), v8, v9', v10, v11, some (.ref p), some (.lst (ringsA F)), some (.lst (os.map .int)), some (.lst wr), some (.lst dd), some (.lst mm)], ?_, ?_⟩
  · (try simp only [startN, List.map_cons, List.map_nil, List.length_cons, List.length_nil, Nat.reduceAdd, Nat.reduceSub, Nat.zero_add, Nat.sub_self, List.replicate_succ, List.replicate_zero, List.reduceReplicate, List.cons_append, List.nil_append, List.append_nil, ↓sRet, ↓sRetN, ↓sSeq, ↓sNil, ↓sIf, ↓sSet, ↓sPar, ↓sPar3, ↓sAsg, ↓sDrop, ↓sSetL, ↓eAnd, ↓eOr, ↓eNot, ↓eIf, ↓eNeg, ↓eCall, ↓eCallK, ↓eCallV, ↓lCons, ↓lNil, ↓eVar, ↓eC, ↓eTup, ↓eLst, ↓eLstC, ↓eOp, ↓eSl, ↓oNo, ↓oPart, ↓eBits, ↓tBool, ↓tAndA, ↓tOrA, ↓tNotA, ↓List.getElem?_cons_zero, ↓List.getElem?_cons_succ, ↓List.set_cons_zero, ↓List.set_cons_succ, ↓rInt, ↓rInt0, ↓rAddA, ↓rEqA, ↓rIsA, ↓rMax2A, ↓rMin2A, ↓rIntA, ↓rAbsA, bsel_true, bsel_false, wipeN, gNm, tYesA, ↓isNon, ↓isBlOf, ↓isI, ↓isB, ↓isS, ↓isT, ↓isL, Bool.or_false, Bool.or_true, Bool.false_or, Bool.true_or, ↓wList, ↓eLc, ↓rLenA, ↓sFor, ↓sWhile, ↓wRng1, ↓wRng2, ↓wTup, ↓wEnum, ↓eChain, ↓eListR1, ↓eLenSet, ↓eRev, ↓eInR, ↓eApp, ↓ePop, ↓eValue, ↓xDrop, ↓xRet, ↓xSet, ↓xCall, ↓xCallV, ↓sRaise, ↓eCallVL, ↓eLam3, startNF, Bool.not_true, Bool.not_false, Bool.false_eq_true, ↓reduceIte, Bool.not_not])
    refine ⟨dd, mm, rfl, rfl, (by rw [PySem.sizeLine_eq, edd, emm]; simp), ds, rfl, by omega, by omega, fun out2 hp1 hp2 => ?_⟩
    exact ⟨_, out2, 1, _, rfl, (by simp [kinds]), by omega, rg3D out2 hp2, bsel_f rfl ⟨rfl, trivial⟩⟩
  rintro nv S3 ⟨rfl, rfl⟩
  (try simp only [startN, List.map_cons, List.map_nil, List.length_cons, List.length_nil, Nat.reduceAdd, Nat.reduceSub, Nat.zero_add, Nat.sub_self, List.replicate_succ, List.replicate_zero, List.reduceReplicate, List.cons_append, List.nil_append, List.append_nil, ↓sRet, ↓sRetN, ↓sSeq, ↓sNil, ↓sIf, ↓sSet, ↓sPar, ↓sPar3, ↓sAsg, ↓sDrop, ↓sSetL, ↓eAnd, ↓eOr, ↓eNot, ↓eIf, ↓eNeg, ↓eCall, ↓eCallK, ↓eCallV, ↓lCons, ↓lNil, ↓eVar, ↓eC, ↓eTup, ↓eLst, ↓eLstC, ↓eOp, ↓eSl, ↓oNo, ↓oPart, ↓eBits, ↓tBool, ↓tAndA, ↓tOrA, ↓tNotA, ↓List.getElem?_cons_zero, ↓List.getElem?_cons_succ, ↓List.set_cons_zero, ↓List.set_cons_succ, ↓rInt, ↓rInt0, ↓rAddA, ↓rEqA, ↓rIsA, ↓rMax2A, ↓rMin2A, ↓rIntA, ↓rAbsA, bsel_true, bsel_false, wipeN, gNm, tYesA, ↓isNon, ↓isBlOf, ↓isI, ↓isB, ↓isS, ↓isT, ↓isL, Bool.or_false, Bool.or_true, Bool.false_or, Bool.true_or, ↓wList, ↓eLc, ↓rLenA, ↓sFor, ↓sWhile, ↓wRng1, ↓wRng2, ↓wTup, ↓wEnum, ↓eChain, ↓eListR1, ↓eLenSet, ↓eRev, ↓eInR, ↓eApp, ↓ePop, ↓eValue, ↓xDrop, ↓xRet, ↓xSet, ↓xCall, ↓xCallV, ↓sRaise, ↓eCallVL, ↓eLam3, startNF, Bool.not_true, Bool.not_false, Bool.false_eq_true, ↓reduceIte, Bool.not_not])
  refine ⟨dd, wr, 2, _, rfl, (by simp [kinds]), by omega, rg3R, bsel_t rfl ⟨os, rfl, by omega, by omega, fun out2 hp1 hp2 => ?_⟩⟩
  refine ⟨mm, out2, 2, _, rfl, (by simp [kinds]), by omega, rg3M out2 hp2, bsel_t rfl (hk _ _ ?_)⟩
  show P (.bl (decide (kept = kept))) S2
  rw [decide_eq_true rfl]
  exact k S2 ok2
/-! ### law -/
abbrev s_law : Stmt := topS 54
theorem sc_law : FnScope ["script"] ["script"] (defScope s_law) := ⟨rfl, rfl, rfl, by decide +kernel, rfl, by decide +kernel, by decide +kernel⟩
theorem bd_law (kV doc pm : Value) (an : Option Addr) (cdv ct : Value) (us : List Value) (hl : us.length = (["script"] : List Str).length) : bindArgs (PySem.W.fnOf "law" "law" (defArgs s_law) (defBody s_law) (defScope s_law) .none kV doc pm an cdv ct) ⟨us, []⟩ = pure ((["script"] : List Str).zip us) :=
  match us, hl with | [_], _ => rfl
def sp_law (P0 : Addr) : SpA := fun as S P => ∃ (scr : Addr) (ns : List Int), as = [.ref scr] ∧ S scr = some (.frz (ns.map .int)) ∧ noLam S ∧ S P0 = some (.tab "_law_case_right.<locals>.<lambda>") ∧ ∀ S', P (.bl true) S'
--len by rintro as S P ⟨_, _, rfl, _⟩; rfl
theorem got_law {P : Program} {w : World} {K : PySem.W.Frag} {mg : Str → Option Value} {base : Heap} {f__law_case_right f_law ptb : Addr} (B : Bi mg) (D : Def K mg "law" s_law f_law) (G__law_case_right : GotG P w K mg base 12 ["script", "index"] "_law_case_right" s__law_case_right f__law_case_right (sp__law_case_right ptb)) :
    GotG P w K mg base (12 + 1) ["script"] "law" s_law f_law (sp_law ptb) := by
  refine gotG_of D sc_law (by rintro as S P ⟨_, _, rfl, _⟩; rfl) (bd_law) (fun cdv A0 outer s0_ H E hr hgd lk => ?_)
  refine ⟨_, (sb_one (sa_ret (ea_and (ea_callG hgd G__law_case_right (hr.mono (by omega)) (la_cons (ea_var 0) (la_cons ea_int la_nil))) (ea_one (ea_callG hgd G__law_case_right (hr.mono (by omega)) (la_cons (ea_var 0) (la_cons ea_int la_nil))))))), fun as S P h => ?_⟩
  obtain ⟨scr, ns, rfl, hs, nl, hP, k⟩ := h
  (try simp only [startN, List.map_cons, List.map_nil, List.length_cons, List.length_nil, Nat.reduceAdd, Nat.reduceSub, Nat.zero_add, Nat.sub_self, List.replicate_succ, List.replicate_zero, List.reduceReplicate, List.cons_append, List.nil_append, List.append_nil, ↓sRet, ↓sRetN, ↓sSeq, ↓sNil, ↓sIf, ↓sSet, ↓sPar, ↓sPar3, ↓sAsg, ↓sDrop, ↓sSetL, ↓eAnd, ↓eOr, ↓eNot, ↓eIf, ↓eNeg, ↓eCall, ↓eCallK, ↓eCallV, ↓lCons, ↓lNil, ↓eVar, ↓eC, ↓eTup, ↓eLst, ↓eLstC, ↓eOp, ↓eSl, ↓oNo, ↓oPart, ↓eBits, ↓tBool, ↓tAndA, ↓tOrA, ↓tNotA, ↓List.getElem?_cons_zero, ↓List.getElem?_cons_succ, ↓List.set_cons_zero, ↓List.set_cons_succ, ↓rInt, ↓rInt0, ↓rAddA, ↓rEqA, ↓rIsA, ↓rMax2A, ↓rMin2A, ↓rIntA, ↓rAbsA, bsel_true, bsel_false, wipeN, gNm, tYesA, ↓isNon, ↓isBlOf, ↓isI, ↓isB, ↓isS, ↓isT, ↓isL, Bool.or_false, Bool.or_true, Bool.false_or, Bool.true_or, ↓wList, ↓eLc, ↓rLenA, ↓sFor, ↓sWhile, ↓wRng1, ↓wRng2, ↓wTup, ↓wEnum, ↓eChain, ↓eListR1, ↓eLenSet, ↓eRev, ↓eInR, ↓eApp, ↓ePop, ↓eValue, ↓xDrop, ↓xRet, ↓xSet, ↓xCall, ↓xCallV, ↓sRaise, ↓eCallVL, ↓eLam3, startNF, Bool.not_true, Bool.not_false, Bool.false_eq_true, ↓reduceIte, Bool.not_not])
  refine ⟨scr, ns, 0, rfl, hs, by decide, nl, hP, fun S1 ok1 => ?_⟩
  (try simp only [startN, List.map_cons, List.map_nil, List.length_cons, List.length_nil, Nat.reduceAdd, Nat.reduceSub, Nat.zero_add, Nat.sub_self, List.replicate_succ, List.replicate_zero, List.reduceReplicate, List.cons_append, List.nil_append, List.append_nil, ↓sRet, ↓sRetN, ↓sSeq, ↓sNil, ↓sIf, ↓sSet, ↓sPar, ↓sPar3, ↓sAsg, ↓sDrop, ↓sSetL, ↓eAnd, ↓eOr, ↓eNot, ↓eIf, ↓eNeg, ↓eCall, ↓eCallK, ↓eCallV, ↓lCons, ↓lNil, ↓eVar, ↓eC, ↓eTup, ↓eLst, ↓eLstC, ↓eOp, ↓eSl, ↓oNo, ↓oPart, ↓eBits, ↓tBool, ↓tAndA, ↓tOrA, ↓tNotA, ↓List.getElem?_cons_zero, ↓List.getElem?_cons_succ, ↓List.set_cons_zero, ↓List.set_cons_succ, ↓rInt, ↓rInt0, ↓rAddA, ↓rEqA, ↓rIsA, ↓rMax2A, ↓rMin2A, ↓rIntA, ↓rAbsA, bsel_true, bsel_false, wipeN, gNm, tYesA, ↓isNon, ↓isBlOf, ↓isI, ↓isB, ↓isS, ↓isT, ↓isL, Bool.or_false, Bool.or_true, Bool.false_or, Bool.true_or, ↓wList, ↓eLc, ↓rLenA, ↓sFor, ↓sWhile, ↓wRng1, ↓wRng2, ↓wTup, ↓wEnum, ↓eChain, ↓eListR1, ↓eLenSet, ↓eRev, ↓eInR, ↓eApp, ↓ePop, ↓eValue, ↓xDrop, ↓xRet, ↓xSet, ↓xCall, ↓xCallV, ↓sRaise, ↓eCallVL, ↓eLam3, startNF, Bool.not_true, Bool.not_false, Bool.false_eq_true, ↓reduceIte, Bool.not_not])
  refine ⟨scr, ns, 1, rfl, ok1.kp _ _ hs, by decide, ok1.nl, ok1.kp _ _ hP, fun S2 ok2 => ?_⟩
  exact k S2
theorem law_holds (a : Addr) (S : Sto) (ns : List Int) (_ : ns.length ≤ 63) (h : S a = some (.frz (ns.map .int))) (ht : ∀ p ∈ [((365 : Addr), (363 : Addr), ("_law_case_right.<locals>.<lambda>" : Str))], ∃ q, S p.2.1 = some (.tab q) ∧ ∃ p' ∈ [((365 : Addr), (363 : Addr), ("_law_case_right.<locals>.<lambda>" : Str))], p'.2.1 = p.2.1 ∧ p'.2.2 = q) (nl : noLam S) : sp_law 363 [.ref a] S fun r _ => r = .bl true := by
  obtain ⟨q, h1, p', hp', _, h3⟩ := ht _ (.head _)
  obtain rfl := List.mem_singleton.mp hp'
  subst h3
  exact ⟨a, ns, rfl, h, nl, h1, fun _ => rfl⟩

theorem all_mk {P : Program} {w : World} {K : PySem.W.Frag} {h : Heap} {mg : Str → Option Value} {fa f_is_whole f__law_hash f__law_random f_is_count f_is_below f_is_worth_row f_are_worths f_are_square f_check_square f_is_deal_of f_check_deal f__law_sum f__law_cell f__law_generator f__law_pick f__law_same f__law_is_whole f__law_is_below f__law_drawn_order f__law_wrong_deals f__law_drawn_worths f__law_wrong_worths f_step_of f__law_step f_ring_sum f__law_ring_gain f_is_ring_of f__law_is_ring f_is_ring f_ring_gain f_handed_on f__law_handed f_cycles_between f__law_between f_rings_between f__law_call f__law_is_kind f__law_mark f__law_raised f__law_refused f__law_all_refused f__law_judged f__law_case_right f_law f_InvalidDeal f_InvalidRing f_InvalidWorths f_RentError : Addr} {cmk : Addr} (X : K.In h) (G : h.Ns mainGlobals mg) (hfa : mg "law" = some (.ref fa))
    {od_is_whole an_is_whole : Option Addr} {sl_is_whole : Array (Option Value)} {oc_is_whole kV_is_whole dc_is_whole pm_is_whole ct_is_whole cd_is_whole : Value}
    (a_is_whole : PySem.W.nsIn K mainGlobals "is_whole" = some (some (.ref f_is_whole))) (l_is_whole : K.lookup f_is_whole = some ⟨oc_is_whole, od_is_whole, .func (PySem.W.fnOf "is_whole" "is_whole" (defArgs s_is_whole) (defBody s_is_whole) (defScope s_is_whole) .none kV_is_whole dc_is_whole pm_is_whole an_is_whole cd_is_whole ct_is_whole), sl_is_whole⟩) (c_is_whole : PySem.W.codeIn K cd_is_whole "is_whole" = true) (k_is_whole : PySem.W.keepIn K (.ref f_is_whole) = true)
    {od__law_hash an__law_hash : Option Addr} {sl__law_hash : Array (Option Value)} {oc__law_hash kV__law_hash dc__law_hash pm__law_hash ct__law_hash cd__law_hash : Value}
    (a__law_hash : PySem.W.nsIn K mainGlobals "_law_hash" = some (some (.ref f__law_hash))) (l__law_hash : K.lookup f__law_hash = some ⟨oc__law_hash, od__law_hash, .func (PySem.W.fnOf "_law_hash" "_law_hash" (defArgs s__law_hash) (defBody s__law_hash) (defScope s__law_hash) .none kV__law_hash dc__law_hash pm__law_hash an__law_hash cd__law_hash ct__law_hash), sl__law_hash⟩) (c__law_hash : PySem.W.codeIn K cd__law_hash "_law_hash" = true) (k__law_hash : PySem.W.keepIn K (.ref f__law_hash) = true)
    {od__law_random an__law_random : Option Addr} {sl__law_random : Array (Option Value)} {oc__law_random kV__law_random dc__law_random pm__law_random ct__law_random cd__law_random : Value}
    (a__law_random : PySem.W.nsIn K mainGlobals "_law_random" = some (some (.ref f__law_random))) (l__law_random : K.lookup f__law_random = some ⟨oc__law_random, od__law_random, .func (PySem.W.fnOf "_law_random" "_law_random" (defArgs s__law_random) (defBody s__law_random) (defScope s__law_random) .none kV__law_random dc__law_random pm__law_random an__law_random cd__law_random ct__law_random), sl__law_random⟩) (c__law_random : PySem.W.codeIn K cd__law_random "_law_random" = true) (k__law_random : PySem.W.keepIn K (.ref f__law_random) = true)
    {od_is_count an_is_count : Option Addr} {sl_is_count : Array (Option Value)} {oc_is_count kV_is_count dc_is_count pm_is_count ct_is_count cd_is_count : Value}
    (a_is_count : PySem.W.nsIn K mainGlobals "is_count" = some (some (.ref f_is_count))) (l_is_count : K.lookup f_is_count = some ⟨oc_is_count, od_is_count, .func (PySem.W.fnOf "is_count" "is_count" (defArgs s_is_count) (defBody s_is_count) (defScope s_is_count) .none kV_is_count dc_is_count pm_is_count an_is_count cd_is_count ct_is_count), sl_is_count⟩) (c_is_count : PySem.W.codeIn K cd_is_count "is_count" = true) (k_is_count : PySem.W.keepIn K (.ref f_is_count) = true)
    {od_is_below an_is_below : Option Addr} {sl_is_below : Array (Option Value)} {oc_is_below kV_is_below dc_is_below pm_is_below ct_is_below cd_is_below : Value}
    (a_is_below : PySem.W.nsIn K mainGlobals "is_below" = some (some (.ref f_is_below))) (l_is_below : K.lookup f_is_below = some ⟨oc_is_below, od_is_below, .func (PySem.W.fnOf "is_below" "is_below" (defArgs s_is_below) (defBody s_is_below) (defScope s_is_below) .none kV_is_below dc_is_below pm_is_below an_is_below cd_is_below ct_is_below), sl_is_below⟩) (c_is_below : PySem.W.codeIn K cd_is_below "is_below" = true) (k_is_below : PySem.W.keepIn K (.ref f_is_below) = true)
    {od_is_worth_row an_is_worth_row : Option Addr} {sl_is_worth_row : Array (Option Value)} {oc_is_worth_row kV_is_worth_row dc_is_worth_row pm_is_worth_row ct_is_worth_row cd_is_worth_row : Value}
    (a_is_worth_row : PySem.W.nsIn K mainGlobals "is_worth_row" = some (some (.ref f_is_worth_row))) (l_is_worth_row : K.lookup f_is_worth_row = some ⟨oc_is_worth_row, od_is_worth_row, .func (PySem.W.fnOf "is_worth_row" "is_worth_row" (defArgs s_is_worth_row) (defBody s_is_worth_row) (defScope s_is_worth_row) .none kV_is_worth_row dc_is_worth_row pm_is_worth_row an_is_worth_row cd_is_worth_row ct_is_worth_row), sl_is_worth_row⟩) (c_is_worth_row : PySem.W.codeIn K cd_is_worth_row "is_worth_row" = true) (k_is_worth_row : PySem.W.keepIn K (.ref f_is_worth_row) = true)
    {od_are_worths an_are_worths : Option Addr} {sl_are_worths : Array (Option Value)} {oc_are_worths kV_are_worths dc_are_worths pm_are_worths ct_are_worths cd_are_worths : Value}
    (a_are_worths : PySem.W.nsIn K mainGlobals "are_worths" = some (some (.ref f_are_worths))) (l_are_worths : K.lookup f_are_worths = some ⟨oc_are_worths, od_are_worths, .func (PySem.W.fnOf "are_worths" "are_worths" (defArgs s_are_worths) (defBody s_are_worths) (defScope s_are_worths) .none kV_are_worths dc_are_worths pm_are_worths an_are_worths cd_are_worths ct_are_worths), sl_are_worths⟩) (c_are_worths : PySem.W.codeIn K cd_are_worths "are_worths" = true) (k_are_worths : PySem.W.keepIn K (.ref f_are_worths) = true)
    {od_are_square an_are_square : Option Addr} {sl_are_square : Array (Option Value)} {oc_are_square kV_are_square dc_are_square pm_are_square ct_are_square cd_are_square : Value}
    (a_are_square : PySem.W.nsIn K mainGlobals "are_square" = some (some (.ref f_are_square))) (l_are_square : K.lookup f_are_square = some ⟨oc_are_square, od_are_square, .func (PySem.W.fnOf "are_square" "are_square" (defArgs s_are_square) (defBody s_are_square) (defScope s_are_square) .none kV_are_square dc_are_square pm_are_square an_are_square cd_are_square ct_are_square), sl_are_square⟩) (c_are_square : PySem.W.codeIn K cd_are_square "are_square" = true) (k_are_square : PySem.W.keepIn K (.ref f_are_square) = true)
    {od_check_square an_check_square : Option Addr} {sl_check_square : Array (Option Value)} {oc_check_square kV_check_square dc_check_square pm_check_square ct_check_square cd_check_square : Value}
    (a_check_square : PySem.W.nsIn K mainGlobals "check_square" = some (some (.ref f_check_square))) (l_check_square : K.lookup f_check_square = some ⟨oc_check_square, od_check_square, .func (PySem.W.fnOf "check_square" "check_square" (defArgs s_check_square) (defBody s_check_square) (defScope s_check_square) .none kV_check_square dc_check_square pm_check_square an_check_square cd_check_square ct_check_square), sl_check_square⟩) (c_check_square : PySem.W.codeIn K cd_check_square "check_square" = true) (k_check_square : PySem.W.keepIn K (.ref f_check_square) = true)
    {od_is_deal_of an_is_deal_of : Option Addr} {sl_is_deal_of : Array (Option Value)} {oc_is_deal_of kV_is_deal_of dc_is_deal_of pm_is_deal_of ct_is_deal_of cd_is_deal_of : Value}
    (a_is_deal_of : PySem.W.nsIn K mainGlobals "is_deal_of" = some (some (.ref f_is_deal_of))) (l_is_deal_of : K.lookup f_is_deal_of = some ⟨oc_is_deal_of, od_is_deal_of, .func (PySem.W.fnOf "is_deal_of" "is_deal_of" (defArgs s_is_deal_of) (defBody s_is_deal_of) (defScope s_is_deal_of) .none kV_is_deal_of dc_is_deal_of pm_is_deal_of an_is_deal_of cd_is_deal_of ct_is_deal_of), sl_is_deal_of⟩) (c_is_deal_of : PySem.W.codeIn K cd_is_deal_of "is_deal_of" = true) (k_is_deal_of : PySem.W.keepIn K (.ref f_is_deal_of) = true)
    {od_check_deal an_check_deal : Option Addr} {sl_check_deal : Array (Option Value)} {oc_check_deal kV_check_deal dc_check_deal pm_check_deal ct_check_deal cd_check_deal : Value}
    (a_check_deal : PySem.W.nsIn K mainGlobals "check_deal" = some (some (.ref f_check_deal))) (l_check_deal : K.lookup f_check_deal = some ⟨oc_check_deal, od_check_deal, .func (PySem.W.fnOf "check_deal" "check_deal" (defArgs s_check_deal) (defBody s_check_deal) (defScope s_check_deal) .none kV_check_deal dc_check_deal pm_check_deal an_check_deal cd_check_deal ct_check_deal), sl_check_deal⟩) (c_check_deal : PySem.W.codeIn K cd_check_deal "check_deal" = true) (k_check_deal : PySem.W.keepIn K (.ref f_check_deal) = true)
    {od__law_sum an__law_sum : Option Addr} {sl__law_sum : Array (Option Value)} {oc__law_sum kV__law_sum dc__law_sum pm__law_sum ct__law_sum cd__law_sum : Value}
    (a__law_sum : PySem.W.nsIn K mainGlobals "_law_sum" = some (some (.ref f__law_sum))) (l__law_sum : K.lookup f__law_sum = some ⟨oc__law_sum, od__law_sum, .func (PySem.W.fnOf "_law_sum" "_law_sum" (defArgs s__law_sum) (defBody s__law_sum) (defScope s__law_sum) .none kV__law_sum dc__law_sum pm__law_sum an__law_sum cd__law_sum ct__law_sum), sl__law_sum⟩) (c__law_sum : PySem.W.codeIn K cd__law_sum "_law_sum" = true) (k__law_sum : PySem.W.keepIn K (.ref f__law_sum) = true)
    {od__law_cell an__law_cell : Option Addr} {sl__law_cell : Array (Option Value)} {oc__law_cell kV__law_cell dc__law_cell pm__law_cell ct__law_cell cd__law_cell : Value}
    (a__law_cell : PySem.W.nsIn K mainGlobals "_law_cell" = some (some (.ref f__law_cell))) (l__law_cell : K.lookup f__law_cell = some ⟨oc__law_cell, od__law_cell, .func (PySem.W.fnOf "_law_cell" "_law_cell" (defArgs s__law_cell) (defBody s__law_cell) (defScope s__law_cell) .none kV__law_cell dc__law_cell pm__law_cell an__law_cell cd__law_cell ct__law_cell), sl__law_cell⟩) (c__law_cell : PySem.W.codeIn K cd__law_cell "_law_cell" = true) (k__law_cell : PySem.W.keepIn K (.ref f__law_cell) = true)
    {od__law_generator an__law_generator : Option Addr} {sl__law_generator : Array (Option Value)} {oc__law_generator kV__law_generator dc__law_generator pm__law_generator ct__law_generator cd__law_generator : Value}
    (a__law_generator : PySem.W.nsIn K mainGlobals "_law_generator" = some (some (.ref f__law_generator))) (l__law_generator : K.lookup f__law_generator = some ⟨oc__law_generator, od__law_generator, .func (PySem.W.fnOf "_law_generator" "_law_generator" (defArgs s__law_generator) (defBody s__law_generator) (defScope s__law_generator) .none kV__law_generator dc__law_generator pm__law_generator an__law_generator cd__law_generator ct__law_generator), sl__law_generator⟩) (c__law_generator : PySem.W.codeIn K cd__law_generator "_law_generator" = true) (k__law_generator : PySem.W.keepIn K (.ref f__law_generator) = true)
    {od__law_pick an__law_pick : Option Addr} {sl__law_pick : Array (Option Value)} {oc__law_pick kV__law_pick dc__law_pick pm__law_pick ct__law_pick cd__law_pick : Value}
    (a__law_pick : PySem.W.nsIn K mainGlobals "_law_pick" = some (some (.ref f__law_pick))) (l__law_pick : K.lookup f__law_pick = some ⟨oc__law_pick, od__law_pick, .func (PySem.W.fnOf "_law_pick" "_law_pick" (defArgs s__law_pick) (defBody s__law_pick) (defScope s__law_pick) .none kV__law_pick dc__law_pick pm__law_pick an__law_pick cd__law_pick ct__law_pick), sl__law_pick⟩) (c__law_pick : PySem.W.codeIn K cd__law_pick "_law_pick" = true) (k__law_pick : PySem.W.keepIn K (.ref f__law_pick) = true)
    {od__law_same an__law_same : Option Addr} {sl__law_same : Array (Option Value)} {oc__law_same kV__law_same dc__law_same pm__law_same ct__law_same cd__law_same : Value}
    (a__law_same : PySem.W.nsIn K mainGlobals "_law_same" = some (some (.ref f__law_same))) (l__law_same : K.lookup f__law_same = some ⟨oc__law_same, od__law_same, .func (PySem.W.fnOf "_law_same" "_law_same" (defArgs s__law_same) (defBody s__law_same) (defScope s__law_same) .none kV__law_same dc__law_same pm__law_same an__law_same cd__law_same ct__law_same), sl__law_same⟩) (c__law_same : PySem.W.codeIn K cd__law_same "_law_same" = true) (k__law_same : PySem.W.keepIn K (.ref f__law_same) = true)
    {od__law_is_whole an__law_is_whole : Option Addr} {sl__law_is_whole : Array (Option Value)} {oc__law_is_whole kV__law_is_whole dc__law_is_whole pm__law_is_whole ct__law_is_whole cd__law_is_whole : Value}
    (a__law_is_whole : PySem.W.nsIn K mainGlobals "_law_is_whole" = some (some (.ref f__law_is_whole))) (l__law_is_whole : K.lookup f__law_is_whole = some ⟨oc__law_is_whole, od__law_is_whole, .func (PySem.W.fnOf "_law_is_whole" "_law_is_whole" (defArgs s__law_is_whole) (defBody s__law_is_whole) (defScope s__law_is_whole) .none kV__law_is_whole dc__law_is_whole pm__law_is_whole an__law_is_whole cd__law_is_whole ct__law_is_whole), sl__law_is_whole⟩) (c__law_is_whole : PySem.W.codeIn K cd__law_is_whole "_law_is_whole" = true) (k__law_is_whole : PySem.W.keepIn K (.ref f__law_is_whole) = true)
    {od__law_is_below an__law_is_below : Option Addr} {sl__law_is_below : Array (Option Value)} {oc__law_is_below kV__law_is_below dc__law_is_below pm__law_is_below ct__law_is_below cd__law_is_below : Value}
    (a__law_is_below : PySem.W.nsIn K mainGlobals "_law_is_below" = some (some (.ref f__law_is_below))) (l__law_is_below : K.lookup f__law_is_below = some ⟨oc__law_is_below, od__law_is_below, .func (PySem.W.fnOf "_law_is_below" "_law_is_below" (defArgs s__law_is_below) (defBody s__law_is_below) (defScope s__law_is_below) .none kV__law_is_below dc__law_is_below pm__law_is_below an__law_is_below cd__law_is_below ct__law_is_below), sl__law_is_below⟩) (c__law_is_below : PySem.W.codeIn K cd__law_is_below "_law_is_below" = true) (k__law_is_below : PySem.W.keepIn K (.ref f__law_is_below) = true)
    {od__law_drawn_order an__law_drawn_order : Option Addr} {sl__law_drawn_order : Array (Option Value)} {oc__law_drawn_order kV__law_drawn_order dc__law_drawn_order pm__law_drawn_order ct__law_drawn_order cd__law_drawn_order : Value}
    (a__law_drawn_order : PySem.W.nsIn K mainGlobals "_law_drawn_order" = some (some (.ref f__law_drawn_order))) (l__law_drawn_order : K.lookup f__law_drawn_order = some ⟨oc__law_drawn_order, od__law_drawn_order, .func (PySem.W.fnOf "_law_drawn_order" "_law_drawn_order" (defArgs s__law_drawn_order) (defBody s__law_drawn_order) (defScope s__law_drawn_order) .none kV__law_drawn_order dc__law_drawn_order pm__law_drawn_order an__law_drawn_order cd__law_drawn_order ct__law_drawn_order), sl__law_drawn_order⟩) (c__law_drawn_order : PySem.W.codeIn K cd__law_drawn_order "_law_drawn_order" = true) (k__law_drawn_order : PySem.W.keepIn K (.ref f__law_drawn_order) = true)
    {od__law_wrong_deals an__law_wrong_deals : Option Addr} {sl__law_wrong_deals : Array (Option Value)} {oc__law_wrong_deals kV__law_wrong_deals dc__law_wrong_deals pm__law_wrong_deals ct__law_wrong_deals cd__law_wrong_deals : Value}
    (a__law_wrong_deals : PySem.W.nsIn K mainGlobals "_law_wrong_deals" = some (some (.ref f__law_wrong_deals))) (l__law_wrong_deals : K.lookup f__law_wrong_deals = some ⟨oc__law_wrong_deals, od__law_wrong_deals, .func (PySem.W.fnOf "_law_wrong_deals" "_law_wrong_deals" (defArgs s__law_wrong_deals) (defBody s__law_wrong_deals) (defScope s__law_wrong_deals) .none kV__law_wrong_deals dc__law_wrong_deals pm__law_wrong_deals an__law_wrong_deals cd__law_wrong_deals ct__law_wrong_deals), sl__law_wrong_deals⟩) (c__law_wrong_deals : PySem.W.codeIn K cd__law_wrong_deals "_law_wrong_deals" = true) (k__law_wrong_deals : PySem.W.keepIn K (.ref f__law_wrong_deals) = true)
    {od__law_drawn_worths an__law_drawn_worths : Option Addr} {sl__law_drawn_worths : Array (Option Value)} {oc__law_drawn_worths kV__law_drawn_worths dc__law_drawn_worths pm__law_drawn_worths ct__law_drawn_worths cd__law_drawn_worths : Value}
    (a__law_drawn_worths : PySem.W.nsIn K mainGlobals "_law_drawn_worths" = some (some (.ref f__law_drawn_worths))) (l__law_drawn_worths : K.lookup f__law_drawn_worths = some ⟨oc__law_drawn_worths, od__law_drawn_worths, .func (PySem.W.fnOf "_law_drawn_worths" "_law_drawn_worths" (defArgs s__law_drawn_worths) (defBody s__law_drawn_worths) (defScope s__law_drawn_worths) .none kV__law_drawn_worths dc__law_drawn_worths pm__law_drawn_worths an__law_drawn_worths cd__law_drawn_worths ct__law_drawn_worths), sl__law_drawn_worths⟩) (c__law_drawn_worths : PySem.W.codeIn K cd__law_drawn_worths "_law_drawn_worths" = true) (k__law_drawn_worths : PySem.W.keepIn K (.ref f__law_drawn_worths) = true)
    {od__law_wrong_worths an__law_wrong_worths : Option Addr} {sl__law_wrong_worths : Array (Option Value)} {oc__law_wrong_worths kV__law_wrong_worths dc__law_wrong_worths pm__law_wrong_worths ct__law_wrong_worths cd__law_wrong_worths : Value}
    (a__law_wrong_worths : PySem.W.nsIn K mainGlobals "_law_wrong_worths" = some (some (.ref f__law_wrong_worths))) (l__law_wrong_worths : K.lookup f__law_wrong_worths = some ⟨oc__law_wrong_worths, od__law_wrong_worths, .func (PySem.W.fnOf "_law_wrong_worths" "_law_wrong_worths" (defArgs s__law_wrong_worths) (defBody s__law_wrong_worths) (defScope s__law_wrong_worths) .none kV__law_wrong_worths dc__law_wrong_worths pm__law_wrong_worths an__law_wrong_worths cd__law_wrong_worths ct__law_wrong_worths), sl__law_wrong_worths⟩) (c__law_wrong_worths : PySem.W.codeIn K cd__law_wrong_worths "_law_wrong_worths" = true) (k__law_wrong_worths : PySem.W.keepIn K (.ref f__law_wrong_worths) = true)
    {od_step_of an_step_of : Option Addr} {sl_step_of : Array (Option Value)} {oc_step_of kV_step_of dc_step_of pm_step_of ct_step_of cd_step_of : Value}
    (a_step_of : PySem.W.nsIn K mainGlobals "step_of" = some (some (.ref f_step_of))) (l_step_of : K.lookup f_step_of = some ⟨oc_step_of, od_step_of, .func (PySem.W.fnOf "step_of" "step_of" (defArgs s_step_of) (defBody s_step_of) (defScope s_step_of) .none kV_step_of dc_step_of pm_step_of an_step_of cd_step_of ct_step_of), sl_step_of⟩) (c_step_of : PySem.W.codeIn K cd_step_of "step_of" = true) (k_step_of : PySem.W.keepIn K (.ref f_step_of) = true)
    {od__law_step an__law_step : Option Addr} {sl__law_step : Array (Option Value)} {oc__law_step kV__law_step dc__law_step pm__law_step ct__law_step cd__law_step : Value}
    (a__law_step : PySem.W.nsIn K mainGlobals "_law_step" = some (some (.ref f__law_step))) (l__law_step : K.lookup f__law_step = some ⟨oc__law_step, od__law_step, .func (PySem.W.fnOf "_law_step" "_law_step" (defArgs s__law_step) (defBody s__law_step) (defScope s__law_step) .none kV__law_step dc__law_step pm__law_step an__law_step cd__law_step ct__law_step), sl__law_step⟩) (c__law_step : PySem.W.codeIn K cd__law_step "_law_step" = true) (k__law_step : PySem.W.keepIn K (.ref f__law_step) = true)
    {od_ring_sum an_ring_sum : Option Addr} {sl_ring_sum : Array (Option Value)} {oc_ring_sum kV_ring_sum dc_ring_sum pm_ring_sum ct_ring_sum cd_ring_sum : Value}
    (a_ring_sum : PySem.W.nsIn K mainGlobals "ring_sum" = some (some (.ref f_ring_sum))) (l_ring_sum : K.lookup f_ring_sum = some ⟨oc_ring_sum, od_ring_sum, .func (PySem.W.fnOf "ring_sum" "ring_sum" (defArgs s_ring_sum) (defBody s_ring_sum) (defScope s_ring_sum) .none kV_ring_sum dc_ring_sum pm_ring_sum an_ring_sum cd_ring_sum ct_ring_sum), sl_ring_sum⟩) (c_ring_sum : PySem.W.codeIn K cd_ring_sum "ring_sum" = true) (k_ring_sum : PySem.W.keepIn K (.ref f_ring_sum) = true)
    {od__law_ring_gain an__law_ring_gain : Option Addr} {sl__law_ring_gain : Array (Option Value)} {oc__law_ring_gain kV__law_ring_gain dc__law_ring_gain pm__law_ring_gain ct__law_ring_gain cd__law_ring_gain : Value}
    (a__law_ring_gain : PySem.W.nsIn K mainGlobals "_law_ring_gain" = some (some (.ref f__law_ring_gain))) (l__law_ring_gain : K.lookup f__law_ring_gain = some ⟨oc__law_ring_gain, od__law_ring_gain, .func (PySem.W.fnOf "_law_ring_gain" "_law_ring_gain" (defArgs s__law_ring_gain) (defBody s__law_ring_gain) (defScope s__law_ring_gain) .none kV__law_ring_gain dc__law_ring_gain pm__law_ring_gain an__law_ring_gain cd__law_ring_gain ct__law_ring_gain), sl__law_ring_gain⟩) (c__law_ring_gain : PySem.W.codeIn K cd__law_ring_gain "_law_ring_gain" = true) (k__law_ring_gain : PySem.W.keepIn K (.ref f__law_ring_gain) = true)
    {od_is_ring_of an_is_ring_of : Option Addr} {sl_is_ring_of : Array (Option Value)} {oc_is_ring_of kV_is_ring_of dc_is_ring_of pm_is_ring_of ct_is_ring_of cd_is_ring_of : Value}
    (a_is_ring_of : PySem.W.nsIn K mainGlobals "is_ring_of" = some (some (.ref f_is_ring_of))) (l_is_ring_of : K.lookup f_is_ring_of = some ⟨oc_is_ring_of, od_is_ring_of, .func (PySem.W.fnOf "is_ring_of" "is_ring_of" (defArgs s_is_ring_of) (defBody s_is_ring_of) (defScope s_is_ring_of) .none kV_is_ring_of dc_is_ring_of pm_is_ring_of an_is_ring_of cd_is_ring_of ct_is_ring_of), sl_is_ring_of⟩) (c_is_ring_of : PySem.W.codeIn K cd_is_ring_of "is_ring_of" = true) (k_is_ring_of : PySem.W.keepIn K (.ref f_is_ring_of) = true)
    {od__law_is_ring an__law_is_ring : Option Addr} {sl__law_is_ring : Array (Option Value)} {oc__law_is_ring kV__law_is_ring dc__law_is_ring pm__law_is_ring ct__law_is_ring cd__law_is_ring : Value}
    (a__law_is_ring : PySem.W.nsIn K mainGlobals "_law_is_ring" = some (some (.ref f__law_is_ring))) (l__law_is_ring : K.lookup f__law_is_ring = some ⟨oc__law_is_ring, od__law_is_ring, .func (PySem.W.fnOf "_law_is_ring" "_law_is_ring" (defArgs s__law_is_ring) (defBody s__law_is_ring) (defScope s__law_is_ring) .none kV__law_is_ring dc__law_is_ring pm__law_is_ring an__law_is_ring cd__law_is_ring ct__law_is_ring), sl__law_is_ring⟩) (c__law_is_ring : PySem.W.codeIn K cd__law_is_ring "_law_is_ring" = true) (k__law_is_ring : PySem.W.keepIn K (.ref f__law_is_ring) = true)
    {od_is_ring an_is_ring : Option Addr} {sl_is_ring : Array (Option Value)} {oc_is_ring kV_is_ring dc_is_ring pm_is_ring ct_is_ring cd_is_ring : Value}
    (a_is_ring : PySem.W.nsIn K mainGlobals "is_ring" = some (some (.ref f_is_ring))) (l_is_ring : K.lookup f_is_ring = some ⟨oc_is_ring, od_is_ring, .func (PySem.W.fnOf "is_ring" "is_ring" (defArgs s_is_ring) (defBody s_is_ring) (defScope s_is_ring) .none kV_is_ring dc_is_ring pm_is_ring an_is_ring cd_is_ring ct_is_ring), sl_is_ring⟩) (c_is_ring : PySem.W.codeIn K cd_is_ring "is_ring" = true) (k_is_ring : PySem.W.keepIn K (.ref f_is_ring) = true)
    {od_ring_gain an_ring_gain : Option Addr} {sl_ring_gain : Array (Option Value)} {oc_ring_gain kV_ring_gain dc_ring_gain pm_ring_gain ct_ring_gain cd_ring_gain : Value}
    (a_ring_gain : PySem.W.nsIn K mainGlobals "ring_gain" = some (some (.ref f_ring_gain))) (l_ring_gain : K.lookup f_ring_gain = some ⟨oc_ring_gain, od_ring_gain, .func (PySem.W.fnOf "ring_gain" "ring_gain" (defArgs s_ring_gain) (defBody s_ring_gain) (defScope s_ring_gain) .none kV_ring_gain dc_ring_gain pm_ring_gain an_ring_gain cd_ring_gain ct_ring_gain), sl_ring_gain⟩) (c_ring_gain : PySem.W.codeIn K cd_ring_gain "ring_gain" = true) (k_ring_gain : PySem.W.keepIn K (.ref f_ring_gain) = true)
    {od_handed_on an_handed_on : Option Addr} {sl_handed_on : Array (Option Value)} {oc_handed_on kV_handed_on dc_handed_on pm_handed_on ct_handed_on cd_handed_on : Value}
    (a_handed_on : PySem.W.nsIn K mainGlobals "handed_on" = some (some (.ref f_handed_on))) (l_handed_on : K.lookup f_handed_on = some ⟨oc_handed_on, od_handed_on, .func (PySem.W.fnOf "handed_on" "handed_on" (defArgs s_handed_on) (defBody s_handed_on) (defScope s_handed_on) .none kV_handed_on dc_handed_on pm_handed_on an_handed_on cd_handed_on ct_handed_on), sl_handed_on⟩) (c_handed_on : PySem.W.codeIn K cd_handed_on "handed_on" = true) (k_handed_on : PySem.W.keepIn K (.ref f_handed_on) = true)
    {od__law_handed an__law_handed : Option Addr} {sl__law_handed : Array (Option Value)} {oc__law_handed kV__law_handed dc__law_handed pm__law_handed ct__law_handed cd__law_handed : Value}
    (a__law_handed : PySem.W.nsIn K mainGlobals "_law_handed" = some (some (.ref f__law_handed))) (l__law_handed : K.lookup f__law_handed = some ⟨oc__law_handed, od__law_handed, .func (PySem.W.fnOf "_law_handed" "_law_handed" (defArgs s__law_handed) (defBody s__law_handed) (defScope s__law_handed) .none kV__law_handed dc__law_handed pm__law_handed an__law_handed cd__law_handed ct__law_handed), sl__law_handed⟩) (c__law_handed : PySem.W.codeIn K cd__law_handed "_law_handed" = true) (k__law_handed : PySem.W.keepIn K (.ref f__law_handed) = true)
    {od_cycles_between an_cycles_between : Option Addr} {sl_cycles_between : Array (Option Value)} {oc_cycles_between kV_cycles_between dc_cycles_between pm_cycles_between ct_cycles_between cd_cycles_between : Value}
    (a_cycles_between : PySem.W.nsIn K mainGlobals "cycles_between" = some (some (.ref f_cycles_between))) (l_cycles_between : K.lookup f_cycles_between = some ⟨oc_cycles_between, od_cycles_between, .func (PySem.W.fnOf "cycles_between" "cycles_between" (defArgs s_cycles_between) (defBody s_cycles_between) (defScope s_cycles_between) .none kV_cycles_between dc_cycles_between pm_cycles_between an_cycles_between cd_cycles_between ct_cycles_between), sl_cycles_between⟩) (c_cycles_between : PySem.W.codeIn K cd_cycles_between "cycles_between" = true) (k_cycles_between : PySem.W.keepIn K (.ref f_cycles_between) = true)
    {od__law_between an__law_between : Option Addr} {sl__law_between : Array (Option Value)} {oc__law_between kV__law_between dc__law_between pm__law_between ct__law_between cd__law_between : Value}
    (a__law_between : PySem.W.nsIn K mainGlobals "_law_between" = some (some (.ref f__law_between))) (l__law_between : K.lookup f__law_between = some ⟨oc__law_between, od__law_between, .func (PySem.W.fnOf "_law_between" "_law_between" (defArgs s__law_between) (defBody s__law_between) (defScope s__law_between) .none kV__law_between dc__law_between pm__law_between an__law_between cd__law_between ct__law_between), sl__law_between⟩) (c__law_between : PySem.W.codeIn K cd__law_between "_law_between" = true) (k__law_between : PySem.W.keepIn K (.ref f__law_between) = true)
    {od_rings_between an_rings_between : Option Addr} {sl_rings_between : Array (Option Value)} {oc_rings_between kV_rings_between dc_rings_between pm_rings_between ct_rings_between cd_rings_between : Value}
    (a_rings_between : PySem.W.nsIn K mainGlobals "rings_between" = some (some (.ref f_rings_between))) (l_rings_between : K.lookup f_rings_between = some ⟨oc_rings_between, od_rings_between, .func (PySem.W.fnOf "rings_between" "rings_between" (defArgs s_rings_between) (defBody s_rings_between) (defScope s_rings_between) .none kV_rings_between dc_rings_between pm_rings_between an_rings_between cd_rings_between ct_rings_between), sl_rings_between⟩) (c_rings_between : PySem.W.codeIn K cd_rings_between "rings_between" = true) (k_rings_between : PySem.W.keepIn K (.ref f_rings_between) = true)
    {od__law_call an__law_call : Option Addr} {sl__law_call : Array (Option Value)} {oc__law_call kV__law_call dc__law_call pm__law_call ct__law_call cd__law_call : Value}
    (a__law_call : PySem.W.nsIn K mainGlobals "_law_call" = some (some (.ref f__law_call))) (l__law_call : K.lookup f__law_call = some ⟨oc__law_call, od__law_call, .func (PySem.W.fnOf "_law_call" "_law_call" (defArgs s__law_call) (defBody s__law_call) (defScope s__law_call) .none kV__law_call dc__law_call pm__law_call an__law_call cd__law_call ct__law_call), sl__law_call⟩) (c__law_call : PySem.W.codeIn K cd__law_call "_law_call" = true) (k__law_call : PySem.W.keepIn K (.ref f__law_call) = true)
    {od__law_is_kind an__law_is_kind : Option Addr} {sl__law_is_kind : Array (Option Value)} {oc__law_is_kind kV__law_is_kind dc__law_is_kind pm__law_is_kind ct__law_is_kind cd__law_is_kind : Value}
    (a__law_is_kind : PySem.W.nsIn K mainGlobals "_law_is_kind" = some (some (.ref f__law_is_kind))) (l__law_is_kind : K.lookup f__law_is_kind = some ⟨oc__law_is_kind, od__law_is_kind, .func (PySem.W.fnOf "_law_is_kind" "_law_is_kind" (defArgs s__law_is_kind) (defBody s__law_is_kind) (defScope s__law_is_kind) .none kV__law_is_kind dc__law_is_kind pm__law_is_kind an__law_is_kind cd__law_is_kind ct__law_is_kind), sl__law_is_kind⟩) (c__law_is_kind : PySem.W.codeIn K cd__law_is_kind "_law_is_kind" = true) (k__law_is_kind : PySem.W.keepIn K (.ref f__law_is_kind) = true)
    {od__law_mark an__law_mark : Option Addr} {sl__law_mark : Array (Option Value)} {oc__law_mark kV__law_mark dc__law_mark pm__law_mark ct__law_mark cd__law_mark : Value}
    (a__law_mark : PySem.W.nsIn K mainGlobals "_law_mark" = some (some (.ref f__law_mark))) (l__law_mark : K.lookup f__law_mark = some ⟨oc__law_mark, od__law_mark, .func (PySem.W.fnOf "_law_mark" "_law_mark" (defArgs s__law_mark) (defBody s__law_mark) (defScope s__law_mark) .none kV__law_mark dc__law_mark pm__law_mark an__law_mark cd__law_mark ct__law_mark), sl__law_mark⟩) (c__law_mark : PySem.W.codeIn K cd__law_mark "_law_mark" = true) (k__law_mark : PySem.W.keepIn K (.ref f__law_mark) = true)
    {od__law_raised an__law_raised : Option Addr} {sl__law_raised : Array (Option Value)} {oc__law_raised kV__law_raised dc__law_raised pm__law_raised ct__law_raised cd__law_raised : Value}
    (a__law_raised : PySem.W.nsIn K mainGlobals "_law_raised" = some (some (.ref f__law_raised))) (l__law_raised : K.lookup f__law_raised = some ⟨oc__law_raised, od__law_raised, .func (PySem.W.fnOf "_law_raised" "_law_raised" (defArgs s__law_raised) (defBody s__law_raised) (defScope s__law_raised) .none kV__law_raised dc__law_raised pm__law_raised an__law_raised cd__law_raised ct__law_raised), sl__law_raised⟩) (c__law_raised : PySem.W.codeIn K cd__law_raised "_law_raised" = true) (k__law_raised : PySem.W.keepIn K (.ref f__law_raised) = true)
    {od__law_refused an__law_refused : Option Addr} {sl__law_refused : Array (Option Value)} {oc__law_refused kV__law_refused dc__law_refused pm__law_refused ct__law_refused cd__law_refused : Value}
    (a__law_refused : PySem.W.nsIn K mainGlobals "_law_refused" = some (some (.ref f__law_refused))) (l__law_refused : K.lookup f__law_refused = some ⟨oc__law_refused, od__law_refused, .func (PySem.W.fnOf "_law_refused" "_law_refused" (defArgs s__law_refused) (defBody s__law_refused) (defScope s__law_refused) .none kV__law_refused dc__law_refused pm__law_refused an__law_refused cd__law_refused ct__law_refused), sl__law_refused⟩) (c__law_refused : PySem.W.codeIn K cd__law_refused "_law_refused" = true) (k__law_refused : PySem.W.keepIn K (.ref f__law_refused) = true)
    {od__law_all_refused an__law_all_refused : Option Addr} {sl__law_all_refused : Array (Option Value)} {oc__law_all_refused kV__law_all_refused dc__law_all_refused pm__law_all_refused ct__law_all_refused cd__law_all_refused : Value}
    (a__law_all_refused : PySem.W.nsIn K mainGlobals "_law_all_refused" = some (some (.ref f__law_all_refused))) (l__law_all_refused : K.lookup f__law_all_refused = some ⟨oc__law_all_refused, od__law_all_refused, .func (PySem.W.fnOf "_law_all_refused" "_law_all_refused" (defArgs s__law_all_refused) (defBody s__law_all_refused) (defScope s__law_all_refused) .none kV__law_all_refused dc__law_all_refused pm__law_all_refused an__law_all_refused cd__law_all_refused ct__law_all_refused), sl__law_all_refused⟩) (c__law_all_refused : PySem.W.codeIn K cd__law_all_refused "_law_all_refused" = true) (k__law_all_refused : PySem.W.keepIn K (.ref f__law_all_refused) = true)
    {od__law_judged an__law_judged : Option Addr} {sl__law_judged : Array (Option Value)} {oc__law_judged kV__law_judged dc__law_judged pm__law_judged ct__law_judged cd__law_judged : Value}
    (a__law_judged : PySem.W.nsIn K mainGlobals "_law_judged" = some (some (.ref f__law_judged))) (l__law_judged : K.lookup f__law_judged = some ⟨oc__law_judged, od__law_judged, .func (PySem.W.fnOf "_law_judged" "_law_judged" (defArgs s__law_judged) (defBody s__law_judged) (defScope s__law_judged) .none kV__law_judged dc__law_judged pm__law_judged an__law_judged cd__law_judged ct__law_judged), sl__law_judged⟩) (c__law_judged : PySem.W.codeIn K cd__law_judged "_law_judged" = true) (k__law_judged : PySem.W.keepIn K (.ref f__law_judged) = true)
    {od__law_case_right an__law_case_right : Option Addr} {sl__law_case_right : Array (Option Value)} {oc__law_case_right kV__law_case_right dc__law_case_right pm__law_case_right ct__law_case_right : Value}
    (a__law_case_right : PySem.W.nsIn K mainGlobals "_law_case_right" = some (some (.ref f__law_case_right))) (l__law_case_right : K.lookup f__law_case_right = some ⟨oc__law_case_right, od__law_case_right, .func (PySem.W.fnOf "_law_case_right" "_law_case_right" (defArgs s__law_case_right) (defBody s__law_case_right) (defScope s__law_case_right) .none kV__law_case_right dc__law_case_right pm__law_case_right an__law_case_right (.ref cmk) ct__law_case_right), sl__law_case_right⟩) (c__law_case_right : PySem.W.codeIn K (.ref cmk) "_law_case_right" = true) (k__law_case_right : PySem.W.keepIn K (.ref f__law_case_right) = true)
    {od_law an_law : Option Addr} {sl_law : Array (Option Value)} {oc_law kV_law dc_law pm_law ct_law cd_law : Value}
    (a_law : PySem.W.nsIn K mainGlobals "law" = some (some (.ref f_law))) (l_law : K.lookup f_law = some ⟨oc_law, od_law, .func (PySem.W.fnOf "law" "law" (defArgs s_law) (defBody s_law) (defScope s_law) .none kV_law dc_law pm_law an_law cd_law ct_law), sl_law⟩) (c_law : PySem.W.codeIn K cd_law "law" = true) (k_law : PySem.W.keepIn K (.ref f_law) = true)
    (z_isinstance : PySem.W.nsIn K mainGlobals "isinstance" = some none)
    (z_len : PySem.W.nsIn K mainGlobals "len" = some none)
    (z_abs : PySem.W.nsIn K mainGlobals "abs" = some none)
    (z_int : PySem.W.nsIn K mainGlobals "int" = some none)
    (z_bool : PySem.W.nsIn K mainGlobals "bool" = some none)
    (z_str : PySem.W.nsIn K mainGlobals "str" = some none)
    (z_list : PySem.W.nsIn K mainGlobals "list" = some none)
    (z_tuple : PySem.W.nsIn K mainGlobals "tuple" = some none)
    (z_range : PySem.W.nsIn K mainGlobals "range" = some none)
    (z_sum : PySem.W.nsIn K mainGlobals "sum" = some none)
    (z_max : PySem.W.nsIn K mainGlobals "max" = some none)
    (z_set : PySem.W.nsIn K mainGlobals "set" = some none)
    (z_sorted : PySem.W.nsIn K mainGlobals "sorted" = some none)
    (z_repr : PySem.W.nsIn K mainGlobals "repr" = some none)
    (z_enumerate : PySem.W.nsIn K mainGlobals "enumerate" = some none)
    (z_min : PySem.W.nsIn K mainGlobals "min" = some none)
    (a_RentError : PySem.W.nsIn K mainGlobals "RentError" = some (some (.ref f_RentError))) (z_super : PySem.W.nsIn K mainGlobals "super" = some none) (e_top : (P.main.scope.names.lookup ("super" : Str)).isSome = false)
    {fI_InvalidDeal cc_InvalidDeal da_InvalidDeal T_InvalidDeal N_InvalidDeal : Addr} {nm_InvalidDeal q_InvalidDeal : Str} {bs_InvalidDeal bm_InvalidDeal sub_InvalidDeal : List Value} {sn_InvalidDeal : List Str} {ab_InvalidDeal : Bool} {col_InvalidDeal : Option Bool} {dd_InvalidDeal od_InvalidDeal an_InvalidDeal cdd_InvalidDeal cld_InvalidDeal td_InvalidDeal : Option Addr} {k0_InvalidDeal k1_InvalidDeal k2_InvalidDeal k3_InvalidDeal k5_InvalidDeal : Option Value}
    {oc_InvalidDeal kV_InvalidDeal doc_InvalidDeal pm_InvalidDeal ct_InvalidDeal ccl_InvalidDeal cl_InvalidDeal tc_InvalidDeal z_InvalidDeal : Value} {osl_InvalidDeal ccs_InvalidDeal csl_InvalidDeal tsl_InvalidDeal : Array (Option Value)} {vs_InvalidDeal : Array Value} {file_InvalidDeal : Str} {tf_InvalidDeal : Tok} {m_InvalidDeal : Nat} {qual_InvalidDeal : Str} {p0_InvalidDeal p1_InvalidDeal p2_InvalidDeal p3_InvalidDeal p4_InvalidDeal p5_InvalidDeal p6_InvalidDeal p7_InvalidDeal p8_InvalidDeal p9_InvalidDeal q1_InvalidDeal q2_InvalidDeal q3_InvalidDeal : Pos}
    (a_InvalidDeal : PySem.W.nsIn K mainGlobals "InvalidDeal" = some (some (.ref f_InvalidDeal)))
    (el_InvalidDeal : K.lookup f_InvalidDeal = some (excClassObj nm_InvalidDeal q_InvalidDeal f_InvalidDeal N_InvalidDeal bs_InvalidDeal bm_InvalidDeal true sn_InvalidDeal sub_InvalidDeal ab_InvalidDeal col_InvalidDeal dd_InvalidDeal k0_InvalidDeal k1_InvalidDeal k2_InvalidDeal k3_InvalidDeal k5_InvalidDeal "ValueError.__new__"))
    (er_InvalidDeal : PySem.HandSPX.refsVE bm_InvalidDeal = true) (ei_InvalidDeal : PySem.W.findIn K (.ref f_InvalidDeal) "__init__" = some (some (.ref fI_InvalidDeal)))
    (eg_InvalidDeal : K.lookup fI_InvalidDeal = some ⟨oc_InvalidDeal, od_InvalidDeal, .func (PySem.W.ksFn "__init__" qual_InvalidDeal (errArgs q1_InvalidDeal q2_InvalidDeal q3_InvalidDeal) (errBody p0_InvalidDeal p1_InvalidDeal p2_InvalidDeal p3_InvalidDeal p4_InvalidDeal p5_InvalidDeal p6_InvalidDeal p7_InvalidDeal p8_InvalidDeal p9_InvalidDeal) errScope (.ref T_InvalidDeal) kV_InvalidDeal doc_InvalidDeal pm_InvalidDeal an_InvalidDeal (.ref da_InvalidDeal) ct_InvalidDeal cc_InvalidDeal), osl_InvalidDeal⟩)
    (eh_InvalidDeal : (p2_InvalidDeal.endLine == p4_InvalidDeal.line) = true) (ej_InvalidDeal : PySem.W.codeIn K (.ref da_InvalidDeal) qual_InvalidDeal = true) (em_InvalidDeal : K.lookup da_InvalidDeal = some ⟨ccl_InvalidDeal, cdd_InvalidDeal, .fields vs_InvalidDeal, ccs_InvalidDeal⟩) (en_InvalidDeal : vs_InvalidDeal[2]? = some (.str file_InvalidDeal tf_InvalidDeal)) (eo_InvalidDeal : ((P.main.file : Str) == file_InvalidDeal) = true)
    (ep_InvalidDeal : K.lookup cc_InvalidDeal = some ⟨cl_InvalidDeal, cld_InvalidDeal, .cell (some (.ref f_InvalidDeal)), csl_InvalidDeal⟩) (eq_InvalidDeal : K.lookup T_InvalidDeal = some ⟨tc_InvalidDeal, td_InvalidDeal, .seq [z_InvalidDeal].toArray m_InvalidDeal, tsl_InvalidDeal⟩) (eb_InvalidDeal : errB K f_InvalidDeal f_RentError fI_InvalidDeal = true)
    {fI_InvalidRing cc_InvalidRing da_InvalidRing T_InvalidRing N_InvalidRing : Addr} {nm_InvalidRing q_InvalidRing : Str} {bs_InvalidRing bm_InvalidRing sub_InvalidRing : List Value} {sn_InvalidRing : List Str} {ab_InvalidRing : Bool} {col_InvalidRing : Option Bool} {dd_InvalidRing od_InvalidRing an_InvalidRing cdd_InvalidRing cld_InvalidRing td_InvalidRing : Option Addr} {k0_InvalidRing k1_InvalidRing k2_InvalidRing k3_InvalidRing k5_InvalidRing : Option Value}
    {oc_InvalidRing kV_InvalidRing doc_InvalidRing pm_InvalidRing ct_InvalidRing ccl_InvalidRing cl_InvalidRing tc_InvalidRing z_InvalidRing : Value} {osl_InvalidRing ccs_InvalidRing csl_InvalidRing tsl_InvalidRing : Array (Option Value)} {vs_InvalidRing : Array Value} {file_InvalidRing : Str} {tf_InvalidRing : Tok} {m_InvalidRing : Nat} {qual_InvalidRing : Str} {p0_InvalidRing p1_InvalidRing p2_InvalidRing p3_InvalidRing p4_InvalidRing p5_InvalidRing p6_InvalidRing p7_InvalidRing p8_InvalidRing p9_InvalidRing q1_InvalidRing q2_InvalidRing q3_InvalidRing : Pos}
    (a_InvalidRing : PySem.W.nsIn K mainGlobals "InvalidRing" = some (some (.ref f_InvalidRing)))
    (el_InvalidRing : K.lookup f_InvalidRing = some (excClassObj nm_InvalidRing q_InvalidRing f_InvalidRing N_InvalidRing bs_InvalidRing bm_InvalidRing true sn_InvalidRing sub_InvalidRing ab_InvalidRing col_InvalidRing dd_InvalidRing k0_InvalidRing k1_InvalidRing k2_InvalidRing k3_InvalidRing k5_InvalidRing "ValueError.__new__"))
    (er_InvalidRing : PySem.HandSPX.refsVE bm_InvalidRing = true) (ei_InvalidRing : PySem.W.findIn K (.ref f_InvalidRing) "__init__" = some (some (.ref fI_InvalidRing)))
    (eg_InvalidRing : K.lookup fI_InvalidRing = some ⟨oc_InvalidRing, od_InvalidRing, .func (PySem.W.ksFn "__init__" qual_InvalidRing (errArgs q1_InvalidRing q2_InvalidRing q3_InvalidRing) (errBody p0_InvalidRing p1_InvalidRing p2_InvalidRing p3_InvalidRing p4_InvalidRing p5_InvalidRing p6_InvalidRing p7_InvalidRing p8_InvalidRing p9_InvalidRing) errScope (.ref T_InvalidRing) kV_InvalidRing doc_InvalidRing pm_InvalidRing an_InvalidRing (.ref da_InvalidRing) ct_InvalidRing cc_InvalidRing), osl_InvalidRing⟩)
    (eh_InvalidRing : (p2_InvalidRing.endLine == p4_InvalidRing.line) = true) (ej_InvalidRing : PySem.W.codeIn K (.ref da_InvalidRing) qual_InvalidRing = true) (em_InvalidRing : K.lookup da_InvalidRing = some ⟨ccl_InvalidRing, cdd_InvalidRing, .fields vs_InvalidRing, ccs_InvalidRing⟩) (en_InvalidRing : vs_InvalidRing[2]? = some (.str file_InvalidRing tf_InvalidRing)) (eo_InvalidRing : ((P.main.file : Str) == file_InvalidRing) = true)
    (ep_InvalidRing : K.lookup cc_InvalidRing = some ⟨cl_InvalidRing, cld_InvalidRing, .cell (some (.ref f_InvalidRing)), csl_InvalidRing⟩) (eq_InvalidRing : K.lookup T_InvalidRing = some ⟨tc_InvalidRing, td_InvalidRing, .seq [z_InvalidRing].toArray m_InvalidRing, tsl_InvalidRing⟩) (eb_InvalidRing : errB K f_InvalidRing f_RentError fI_InvalidRing = true)
    {fI_InvalidWorths cc_InvalidWorths da_InvalidWorths T_InvalidWorths N_InvalidWorths : Addr} {nm_InvalidWorths q_InvalidWorths : Str} {bs_InvalidWorths bm_InvalidWorths sub_InvalidWorths : List Value} {sn_InvalidWorths : List Str} {ab_InvalidWorths : Bool} {col_InvalidWorths : Option Bool} {dd_InvalidWorths od_InvalidWorths an_InvalidWorths cdd_InvalidWorths cld_InvalidWorths td_InvalidWorths : Option Addr} {k0_InvalidWorths k1_InvalidWorths k2_InvalidWorths k3_InvalidWorths k5_InvalidWorths : Option Value}
    {oc_InvalidWorths kV_InvalidWorths doc_InvalidWorths pm_InvalidWorths ct_InvalidWorths ccl_InvalidWorths cl_InvalidWorths tc_InvalidWorths z_InvalidWorths : Value} {osl_InvalidWorths ccs_InvalidWorths csl_InvalidWorths tsl_InvalidWorths : Array (Option Value)} {vs_InvalidWorths : Array Value} {file_InvalidWorths : Str} {tf_InvalidWorths : Tok} {m_InvalidWorths : Nat} {qual_InvalidWorths : Str} {p0_InvalidWorths p1_InvalidWorths p2_InvalidWorths p3_InvalidWorths p4_InvalidWorths p5_InvalidWorths p6_InvalidWorths p7_InvalidWorths p8_InvalidWorths p9_InvalidWorths q1_InvalidWorths q2_InvalidWorths q3_InvalidWorths : Pos}
    (a_InvalidWorths : PySem.W.nsIn K mainGlobals "InvalidWorths" = some (some (.ref f_InvalidWorths)))
    (el_InvalidWorths : K.lookup f_InvalidWorths = some (excClassObj nm_InvalidWorths q_InvalidWorths f_InvalidWorths N_InvalidWorths bs_InvalidWorths bm_InvalidWorths true sn_InvalidWorths sub_InvalidWorths ab_InvalidWorths col_InvalidWorths dd_InvalidWorths k0_InvalidWorths k1_InvalidWorths k2_InvalidWorths k3_InvalidWorths k5_InvalidWorths "ValueError.__new__"))
    (er_InvalidWorths : PySem.HandSPX.refsVE bm_InvalidWorths = true) (ei_InvalidWorths : PySem.W.findIn K (.ref f_InvalidWorths) "__init__" = some (some (.ref fI_InvalidWorths)))
    (eg_InvalidWorths : K.lookup fI_InvalidWorths = some ⟨oc_InvalidWorths, od_InvalidWorths, .func (PySem.W.ksFn "__init__" qual_InvalidWorths (errArgs q1_InvalidWorths q2_InvalidWorths q3_InvalidWorths) (errBody p0_InvalidWorths p1_InvalidWorths p2_InvalidWorths p3_InvalidWorths p4_InvalidWorths p5_InvalidWorths p6_InvalidWorths p7_InvalidWorths p8_InvalidWorths p9_InvalidWorths) errScope (.ref T_InvalidWorths) kV_InvalidWorths doc_InvalidWorths pm_InvalidWorths an_InvalidWorths (.ref da_InvalidWorths) ct_InvalidWorths cc_InvalidWorths), osl_InvalidWorths⟩)
    (eh_InvalidWorths : (p2_InvalidWorths.endLine == p4_InvalidWorths.line) = true) (ej_InvalidWorths : PySem.W.codeIn K (.ref da_InvalidWorths) qual_InvalidWorths = true) (em_InvalidWorths : K.lookup da_InvalidWorths = some ⟨ccl_InvalidWorths, cdd_InvalidWorths, .fields vs_InvalidWorths, ccs_InvalidWorths⟩) (en_InvalidWorths : vs_InvalidWorths[2]? = some (.str file_InvalidWorths tf_InvalidWorths)) (eo_InvalidWorths : ((P.main.file : Str) == file_InvalidWorths) = true)
    (ep_InvalidWorths : K.lookup cc_InvalidWorths = some ⟨cl_InvalidWorths, cld_InvalidWorths, .cell (some (.ref f_InvalidWorths)), csl_InvalidWorths⟩) (eq_InvalidWorths : K.lookup T_InvalidWorths = some ⟨tc_InvalidWorths, td_InvalidWorths, .seq [z_InvalidWorths].toArray m_InvalidWorths, tsl_InvalidWorths⟩) (eb_InvalidWorths : errB K f_InvalidWorths f_RentError fI_InvalidWorths = true)
    (e_kit : kitB K [("InvalidDeal", f_InvalidDeal), ("InvalidRing", f_InvalidRing), ("InvalidWorths", f_InvalidWorths)] = true) (e_nd : ([f_InvalidDeal, f_InvalidRing, f_InvalidWorths] : List Addr).Nodup)
    (nd_Tx : ([f_is_ring, f_ring_gain, f_handed_on, f_rings_between] : List Addr).Nodup)
    (nd_T : ([] : List Addr).Nodup)
    {tk_MOST_WORTH : Tok} (q_MOST_WORTH : PySem.W.nsIn K mainGlobals "MOST_WORTH" = some (some (.int 1000000000 tk_MOST_WORTH)))
    {tk_LARGEST : Tok} (q_LARGEST : PySem.W.nsIn K mainGlobals "LARGEST" = some (some (.int 12 tk_LARGEST)))
    : ∃ fd : FuncData, (∀ (s : Shared) (v : Value), BindsTo s fd ⟨[v], []⟩ [("script", v)]) ∧ ∀ base : Heap, K.In base → base.Ns mainGlobals mg → (∀ p ∈ [(cmk, (363 : Addr), ("_law_case_right.<locals>.<lambda>" : Str))], TabB base mg p.1 p.2.1) → FnG P w K mg base 13 fa fd ["script"] (liftSp (sp_law 363)) := by
  have e := hfa.symm.trans (PySem.W.mg_of X G a_law)
  cases e
  have B : Bi mg := ⟨PySem.W.mg_none_of X G z_isinstance, PySem.W.mg_none_of X G z_len, PySem.W.mg_none_of X G z_abs, PySem.W.mg_none_of X G z_int, PySem.W.mg_none_of X G z_bool, PySem.W.mg_none_of X G z_str, PySem.W.mg_none_of X G z_list, PySem.W.mg_none_of X G z_tuple, PySem.W.mg_none_of X G z_range, PySem.W.mg_none_of X G z_sum, PySem.W.mg_none_of X G z_max, PySem.W.mg_none_of X G z_set, PySem.W.mg_none_of X G z_sorted, PySem.W.mg_none_of X G z_repr, PySem.W.mg_none_of X G z_enumerate, PySem.W.mg_none_of X G z_min⟩
  have U_is_whole := fun_mk (st := s_is_whole) l_is_whole c_is_whole k_is_whole
  have D_is_whole := def_mk (st := s_is_whole) X G a_is_whole U_is_whole
  have U__law_hash := fun_mk (st := s__law_hash) l__law_hash c__law_hash k__law_hash
  have D__law_hash := def_mk (st := s__law_hash) X G a__law_hash U__law_hash
  have U__law_random := fun_mk (st := s__law_random) l__law_random c__law_random k__law_random
  have D__law_random := def_mk (st := s__law_random) X G a__law_random U__law_random
  have U_is_count := fun_mk (st := s_is_count) l_is_count c_is_count k_is_count
  have D_is_count := def_mk (st := s_is_count) X G a_is_count U_is_count
  have U_is_below := fun_mk (st := s_is_below) l_is_below c_is_below k_is_below
  have D_is_below := def_mk (st := s_is_below) X G a_is_below U_is_below
  have U_is_worth_row := fun_mk (st := s_is_worth_row) l_is_worth_row c_is_worth_row k_is_worth_row
  have D_is_worth_row := def_mk (st := s_is_worth_row) X G a_is_worth_row U_is_worth_row
  have U_are_worths := fun_mk (st := s_are_worths) l_are_worths c_are_worths k_are_worths
  have D_are_worths := def_mk (st := s_are_worths) X G a_are_worths U_are_worths
  have U_are_square := fun_mk (st := s_are_square) l_are_square c_are_square k_are_square
  have D_are_square := def_mk (st := s_are_square) X G a_are_square U_are_square
  have U_check_square := fun_mk (st := s_check_square) l_check_square c_check_square k_check_square
  have D_check_square := def_mk (st := s_check_square) X G a_check_square U_check_square
  have U_is_deal_of := fun_mk (st := s_is_deal_of) l_is_deal_of c_is_deal_of k_is_deal_of
  have D_is_deal_of := def_mk (st := s_is_deal_of) X G a_is_deal_of U_is_deal_of
  have U_check_deal := fun_mk (st := s_check_deal) l_check_deal c_check_deal k_check_deal
  have D_check_deal := def_mk (st := s_check_deal) X G a_check_deal U_check_deal
  have U__law_sum := fun_mk (st := s__law_sum) l__law_sum c__law_sum k__law_sum
  have D__law_sum := def_mk (st := s__law_sum) X G a__law_sum U__law_sum
  have U__law_cell := fun_mk (st := s__law_cell) l__law_cell c__law_cell k__law_cell
  have D__law_cell := def_mk (st := s__law_cell) X G a__law_cell U__law_cell
  have U__law_generator := fun_mk (st := s__law_generator) l__law_generator c__law_generator k__law_generator
  have D__law_generator := def_mk (st := s__law_generator) X G a__law_generator U__law_generator
  have U__law_pick := fun_mk (st := s__law_pick) l__law_pick c__law_pick k__law_pick
  have D__law_pick := def_mk (st := s__law_pick) X G a__law_pick U__law_pick
  have U__law_same := fun_mk (st := s__law_same) l__law_same c__law_same k__law_same
  have D__law_same := def_mk (st := s__law_same) X G a__law_same U__law_same
  have U__law_is_whole := fun_mk (st := s__law_is_whole) l__law_is_whole c__law_is_whole k__law_is_whole
  have D__law_is_whole := def_mk (st := s__law_is_whole) X G a__law_is_whole U__law_is_whole
  have U__law_is_below := fun_mk (st := s__law_is_below) l__law_is_below c__law_is_below k__law_is_below
  have D__law_is_below := def_mk (st := s__law_is_below) X G a__law_is_below U__law_is_below
  have U__law_drawn_order := fun_mk (st := s__law_drawn_order) l__law_drawn_order c__law_drawn_order k__law_drawn_order
  have D__law_drawn_order := def_mk (st := s__law_drawn_order) X G a__law_drawn_order U__law_drawn_order
  have U__law_wrong_deals := fun_mk (st := s__law_wrong_deals) l__law_wrong_deals c__law_wrong_deals k__law_wrong_deals
  have D__law_wrong_deals := def_mk (st := s__law_wrong_deals) X G a__law_wrong_deals U__law_wrong_deals
  have U__law_drawn_worths := fun_mk (st := s__law_drawn_worths) l__law_drawn_worths c__law_drawn_worths k__law_drawn_worths
  have D__law_drawn_worths := def_mk (st := s__law_drawn_worths) X G a__law_drawn_worths U__law_drawn_worths
  have U__law_wrong_worths := fun_mk (st := s__law_wrong_worths) l__law_wrong_worths c__law_wrong_worths k__law_wrong_worths
  have D__law_wrong_worths := def_mk (st := s__law_wrong_worths) X G a__law_wrong_worths U__law_wrong_worths
  have U_step_of := fun_mk (st := s_step_of) l_step_of c_step_of k_step_of
  have D_step_of := def_mk (st := s_step_of) X G a_step_of U_step_of
  have U__law_step := fun_mk (st := s__law_step) l__law_step c__law_step k__law_step
  have D__law_step := def_mk (st := s__law_step) X G a__law_step U__law_step
  have U_ring_sum := fun_mk (st := s_ring_sum) l_ring_sum c_ring_sum k_ring_sum
  have D_ring_sum := def_mk (st := s_ring_sum) X G a_ring_sum U_ring_sum
  have U__law_ring_gain := fun_mk (st := s__law_ring_gain) l__law_ring_gain c__law_ring_gain k__law_ring_gain
  have D__law_ring_gain := def_mk (st := s__law_ring_gain) X G a__law_ring_gain U__law_ring_gain
  have U_is_ring_of := fun_mk (st := s_is_ring_of) l_is_ring_of c_is_ring_of k_is_ring_of
  have D_is_ring_of := def_mk (st := s_is_ring_of) X G a_is_ring_of U_is_ring_of
  have U__law_is_ring := fun_mk (st := s__law_is_ring) l__law_is_ring c__law_is_ring k__law_is_ring
  have D__law_is_ring := def_mk (st := s__law_is_ring) X G a__law_is_ring U__law_is_ring
  have U_is_ring := fun_mk (st := s_is_ring) l_is_ring c_is_ring k_is_ring
  have D_is_ring := def_mk (st := s_is_ring) X G a_is_ring U_is_ring
  have U_ring_gain := fun_mk (st := s_ring_gain) l_ring_gain c_ring_gain k_ring_gain
  have D_ring_gain := def_mk (st := s_ring_gain) X G a_ring_gain U_ring_gain
  have U_handed_on := fun_mk (st := s_handed_on) l_handed_on c_handed_on k_handed_on
  have D_handed_on := def_mk (st := s_handed_on) X G a_handed_on U_handed_on
  have U__law_handed := fun_mk (st := s__law_handed) l__law_handed c__law_handed k__law_handed
  have D__law_handed := def_mk (st := s__law_handed) X G a__law_handed U__law_handed
  have U_cycles_between := fun_mk (st := s_cycles_between) l_cycles_between c_cycles_between k_cycles_between
  have D_cycles_between := def_mk (st := s_cycles_between) X G a_cycles_between U_cycles_between
  have U__law_between := fun_mk (st := s__law_between) l__law_between c__law_between k__law_between
  have D__law_between := def_mk (st := s__law_between) X G a__law_between U__law_between
  have U_rings_between := fun_mk (st := s_rings_between) l_rings_between c_rings_between k_rings_between
  have D_rings_between := def_mk (st := s_rings_between) X G a_rings_between U_rings_between
  have U__law_call := fun_mk (st := s__law_call) l__law_call c__law_call k__law_call
  have D__law_call := def_mk (st := s__law_call) X G a__law_call U__law_call
  have U__law_is_kind := fun_mk (st := s__law_is_kind) l__law_is_kind c__law_is_kind k__law_is_kind
  have D__law_is_kind := def_mk (st := s__law_is_kind) X G a__law_is_kind U__law_is_kind
  have U__law_mark := fun_mk (st := s__law_mark) l__law_mark c__law_mark k__law_mark
  have D__law_mark := def_mk (st := s__law_mark) X G a__law_mark U__law_mark
  have U__law_raised := fun_mk (st := s__law_raised) l__law_raised c__law_raised k__law_raised
  have D__law_raised := def_mk (st := s__law_raised) X G a__law_raised U__law_raised
  have U__law_refused := fun_mk (st := s__law_refused) l__law_refused c__law_refused k__law_refused
  have D__law_refused := def_mk (st := s__law_refused) X G a__law_refused U__law_refused
  have U__law_all_refused := fun_mk (st := s__law_all_refused) l__law_all_refused c__law_all_refused k__law_all_refused
  have D__law_all_refused := def_mk (st := s__law_all_refused) X G a__law_all_refused U__law_all_refused
  have U__law_judged := fun_mk (st := s__law_judged) l__law_judged c__law_judged k__law_judged
  have D__law_judged := def_mk (st := s__law_judged) X G a__law_judged U__law_judged
  have U__law_case_right := fun_mk (st := s__law_case_right) l__law_case_right c__law_case_right k__law_case_right
  have D__law_case_right := def_mk (st := s__law_case_right) X G a__law_case_right U__law_case_right
  have U_law := fun_mk (st := s_law) l_law c_law k_law
  have D_law := def_mk (st := s_law) X G a_law U_law
  have M_InvalidDeal := PySem.W.mg_of X G a_InvalidDeal
  have E_InvalidDeal := errF_mk (P := P) (R := f_RentError) X G a_InvalidDeal el_InvalidDeal er_InvalidDeal ei_InvalidDeal eg_InvalidDeal eh_InvalidDeal ej_InvalidDeal em_InvalidDeal en_InvalidDeal eo_InvalidDeal ep_InvalidDeal eq_InvalidDeal z_super e_top eb_InvalidDeal
  have M_InvalidRing := PySem.W.mg_of X G a_InvalidRing
  have E_InvalidRing := errF_mk (P := P) (R := f_RentError) X G a_InvalidRing el_InvalidRing er_InvalidRing ei_InvalidRing eg_InvalidRing eh_InvalidRing ej_InvalidRing em_InvalidRing en_InvalidRing eo_InvalidRing ep_InvalidRing eq_InvalidRing z_super e_top eb_InvalidRing
  have M_InvalidWorths := PySem.W.mg_of X G a_InvalidWorths
  have E_InvalidWorths := errF_mk (P := P) (R := f_RentError) X G a_InvalidWorths el_InvalidWorths er_InvalidWorths ei_InvalidWorths eg_InvalidWorths eh_InvalidWorths ej_InvalidWorths em_InvalidWorths en_InvalidWorths eo_InvalidWorths ep_InvalidWorths eq_InvalidWorths z_super e_top eb_InvalidWorths
  have ET := errT_mk (P := P) (K := K) (mg := mg) (R := f_RentError) (l := [("InvalidDeal", f_InvalidDeal), ("InvalidRing", f_InvalidRing), ("InvalidWorths", f_InvalidWorths)]) (PySem.W.mg_of X G a_RentError) (List.forall_mem_cons.mpr ⟨E_InvalidDeal, (List.forall_mem_cons.mpr ⟨E_InvalidRing, (List.forall_mem_cons.mpr ⟨E_InvalidWorths, (fun _ h => absurd h List.not_mem_nil)⟩)⟩)⟩) e_kit
  have T_InvalidDeal := tabE_at (l := [("InvalidDeal", f_InvalidDeal), ("InvalidRing", f_InvalidRing), ("InvalidWorths", f_InvalidWorths)]) e_nd (p := ("InvalidDeal", f_InvalidDeal)) (.head _)
  have T_InvalidRing := tabE_at (l := [("InvalidDeal", f_InvalidDeal), ("InvalidRing", f_InvalidRing), ("InvalidWorths", f_InvalidWorths)]) e_nd (p := ("InvalidRing", f_InvalidRing)) (.tail _ (.head _))
  have T_InvalidWorths := tabE_at (l := [("InvalidDeal", f_InvalidDeal), ("InvalidRing", f_InvalidRing), ("InvalidWorths", f_InvalidWorths)]) e_nd (p := ("InvalidWorths", f_InvalidWorths)) (.tail _ (.tail _ (.head _)))
  have C_MOST_WORTH : Cst mg "MOST_WORTH" (.int 1000000000) := ⟨_, .int 1000000000, PySem.W.mg_of X G q_MOST_WORTH, ⟨_, rfl⟩, rfl⟩
  have C_LARGEST : Cst mg "LARGEST" (.int 12) := ⟨_, .int 12, PySem.W.mg_of X G q_LARGEST, ⟨_, rfl⟩, rfl⟩
  have hcd := hcd_of l__law_case_right
  refine ⟨_, fun s v => .of_eq (bd_law kV_law dc_law pm_law an_law cd_law ct_law [v] rfl), fun base _ _ TB0 => ?_⟩
  have TB := TB0 _ (.head _)
  have G_is_whole : Got P w K mg base 1 _ "is_whole" s_is_whole _ sp_is_whole := got_is_whole B D_is_whole 
  have G__law_hash : Got P w K mg base 1 _ "_law_hash" s__law_hash _ sp__law_hash := got__law_hash B D__law_hash 
  have G__law_random : Got P w K mg base 2 _ "_law_random" s__law_random _ sp__law_random := got__law_random B D__law_random (G__law_hash := G__law_hash)
  have G_is_count : Got P w K mg base 2 _ "is_count" s_is_count _ sp_is_count := got_is_count B D_is_count (G_is_whole := G_is_whole)
  have G_is_below : Got P w K mg base 3 _ "is_below" s_is_below _ sp_is_below := got_is_below B D_is_below (G_is_count := G_is_count)
  have G_is_worth_row : Got P w K mg base 2 _ "is_worth_row" s_is_worth_row _ sp_is_worth_row := got_is_worth_row B D_is_worth_row (G_is_whole := G_is_whole) (C_MOST_WORTH := C_MOST_WORTH)
  have G_are_worths : Got P w K mg base 3 _ "are_worths" s_are_worths _ sp_are_worths := got_are_worths B D_are_worths (G_is_worth_row := G_is_worth_row) (C_LARGEST := C_LARGEST)
  have G_are_square : Got P w K mg base 4 _ "are_square" s_are_square _ sp_are_square := got_are_square B D_are_square (G_are_worths := G_are_worths)
  have G_check_square : GotX P w K mg base 5 _ "check_square" s_check_square _ (sp_chk 7 sqW f_InvalidWorths) := got_check_square B D_check_square (G_are_square := G_are_square) (M_InvalidWorths := M_InvalidWorths) (ET := ET) (T_InvalidWorths := T_InvalidWorths)
  have G_is_deal_of : Got P w K mg base 4 _ "is_deal_of" s_is_deal_of _ sp_is_deal_of := got_is_deal_of B D_is_deal_of (G_is_below := G_is_below)
  have G_check_deal : GotX P w K mg base 5 _ "check_deal" s_check_deal _ (sp_chkd f_InvalidDeal) := got_check_deal B D_check_deal (G_is_deal_of := G_is_deal_of) (M_InvalidDeal := M_InvalidDeal) (ET := ET) (T_InvalidDeal := T_InvalidDeal)
  have G__law_sum : Got P w K mg base 1 _ "_law_sum" s__law_sum _ sp_sum := got__law_sum B D__law_sum 
  have G__law_cell : Got P w K mg base 1 _ "_law_cell" s__law_cell _ sp__law_cell := got__law_cell B D__law_cell 
  have G__law_generator : Got P w K mg base 2 _ "_law_generator" s__law_generator _ sp__law_generator := got__law_generator B D__law_generator (G__law_cell := G__law_cell)
  have G__law_pick : Got P w K mg base 3 _ "_law_pick" s__law_pick _ sp__law_pick := got__law_pick B D__law_pick (G__law_random := G__law_random)
  have R__law_same : ∀ n : Nat, Got P w K mg base n _ "_law_same" s__law_same _ (sp__law_same n) := fun n => by
    induction n with
    | zero => exact got_none D__law_same sp_none__law_same bd__law_same
    | succ n ih => exact got__law_same B D__law_same ih
  have G__law_same := R__law_same 8
  have G__law_is_whole : Got P w K mg base 1 _ "_law_is_whole" s__law_is_whole _ sp__law_is_whole := got__law_is_whole B D__law_is_whole 
  have G__law_is_below : Got P w K mg base 2 _ "_law_is_below" s__law_is_below _ sp__law_is_below := got__law_is_below B D__law_is_below (G__law_is_whole := G__law_is_whole)
  have G__law_drawn_order : Got P w K mg base 3 _ "_law_drawn_order" s__law_drawn_order _ sp_order0 := got__law_drawn_order B D__law_drawn_order (G__law_random := G__law_random)
  have G__law_wrong_deals : Got P w K mg base 1 _ "_law_wrong_deals" s__law_wrong_deals _ sp__law_wrong_deals := got__law_wrong_deals B D__law_wrong_deals 
  have G__law_drawn_worths : Got P w K mg base 4 _ "_law_drawn_worths" s__law_drawn_worths _ sp__law_drawn_worths := got__law_drawn_worths B D__law_drawn_worths (G__law_pick := G__law_pick) (G__law_random := G__law_random)
  have G__law_wrong_worths : Got P w K mg base 1 _ "_law_wrong_worths" s__law_wrong_worths _ sp__law_wrong_worths := got__law_wrong_worths B D__law_wrong_worths 
  have G_step_of : Got P w K mg base 1 _ "step_of" s_step_of _ sp_step := got_step_of B D_step_of 
  have G__law_step : Got P w K mg base 1 _ "_law_step" s__law_step _ sp_step := got__law_step B D__law_step 
  have G_ring_sum : Got P w K mg base 2 _ "ring_sum" s_ring_sum _ sp_rsum := got_ring_sum B D_ring_sum (G_step_of := G_step_of)
  have G__law_ring_gain : Got P w K mg base 2 _ "_law_ring_gain" s__law_ring_gain _ sp_rsum := got__law_ring_gain B D__law_ring_gain (G__law_step := G__law_step)
  have G_is_ring_of : Got P w K mg base 4 _ "is_ring_of" s_is_ring_of _ sp_isr := got_is_ring_of B D_is_ring_of (G_is_below := G_is_below)
  have G__law_is_ring : Got P w K mg base 3 _ "_law_is_ring" s__law_is_ring _ sp_isr := got__law_is_ring B D__law_is_ring (G__law_is_below := G__law_is_below)
  have G_is_ring : GotX P w K mg base 6 _ "is_ring" s_is_ring _ (sp_isring f_InvalidWorths) := got_is_ring B D_is_ring (G_is_ring_of := G_is_ring_of) (G_check_square := G_check_square)
  have G_ring_gain : GotX P w K mg base 6 _ "ring_gain" s_ring_gain _ (sp_ring3 f_InvalidWorths f_InvalidDeal f_InvalidRing g_gain) := got_ring_gain B D_ring_gain (G_ring_sum := G_ring_sum) (G_check_square := G_check_square) (G_check_deal := G_check_deal) (G_is_ring_of := G_is_ring_of) (M_InvalidRing := M_InvalidRing) (ET := ET) (T_InvalidRing := T_InvalidRing)
  have G_handed_on : GotX P w K mg base 6 _ "handed_on" s_handed_on _ (sp_ring3 f_InvalidWorths f_InvalidDeal f_InvalidRing g_hand) := got_handed_on B D_handed_on (G_check_square := G_check_square) (G_check_deal := G_check_deal) (G_is_ring_of := G_is_ring_of) (M_InvalidRing := M_InvalidRing) (ET := ET) (T_InvalidRing := T_InvalidRing)
  have G__law_handed : Got P w K mg base 1 _ "_law_handed" s__law_handed _ sp_handed0 := got__law_handed B D__law_handed 
  have G_cycles_between : Got P w K mg base 1 _ "cycles_between" s_cycles_between _ sp_cycles0 := got_cycles_between B D_cycles_between 
  have G__law_between : Got P w K mg base 1 _ "_law_between" s__law_between _ sp_between := got__law_between B D__law_between 
  have G_rings_between : GotX P w K mg base 6 _ "rings_between" s_rings_between _ (sp_rbet f_InvalidWorths f_InvalidDeal) := got_rings_between B D_rings_between (G_cycles_between := G_cycles_between) (G_check_square := G_check_square) (G_check_deal := G_check_deal)
  obtain ⟨lTx, elTx⟩ : ∃ l : List (Addr × SpX), l = [(f_is_ring, sp_isring f_InvalidWorths), (f_ring_gain, sp_ring3 f_InvalidWorths f_InvalidDeal f_InvalidRing g_gain), (f_handed_on, sp_ring3 f_InvalidWorths f_InvalidDeal f_InvalidRing g_hand), (f_rings_between, sp_rbet f_InvalidWorths f_InvalidDeal)] := ⟨_, rfl⟩
  have nlTx : (lTx.map (·.1)).Nodup := by rw [elTx]; exact nd_Tx
  have x_is_ring := tabL_at nlTx (p := (f_is_ring, sp_isring f_InvalidWorths)) (by rw [elTx]; exact (.head _))
  have x_ring_gain := tabL_at nlTx (p := (f_ring_gain, sp_ring3 f_InvalidWorths f_InvalidDeal f_InvalidRing g_gain)) (by rw [elTx]; exact (.tail _ (.head _)))
  have x_handed_on := tabL_at nlTx (p := (f_handed_on, sp_ring3 f_InvalidWorths f_InvalidDeal f_InvalidRing g_hand)) (by rw [elTx]; exact (.tail _ (.tail _ (.head _))))
  have x_rings_between := tabL_at nlTx (p := (f_rings_between, sp_rbet f_InvalidWorths f_InvalidDeal)) (by rw [elTx]; exact (.tail _ (.tail _ (.tail _ (.head _)))))
  have HTx := heldX_mk (P := P) (w := w) (K := K) (mg := mg) (base := base) (k := 6) (l := lTx) (by rw [elTx]; exact (List.forall_mem_cons.mpr ⟨G_is_ring.h1 (by decide), (List.forall_mem_cons.mpr ⟨G_ring_gain.h1 (by decide), (List.forall_mem_cons.mpr ⟨G_handed_on.h1 (by decide), (List.forall_mem_cons.mpr ⟨G_rings_between.h1 (by decide), (fun _ h => absurd h List.not_mem_nil)⟩)⟩)⟩)⟩))
  have G__law_call : GotX P w K mg base 7 _ "_law_call" s__law_call _ _ := got__law_call B D__law_call (HT := HTx)
  have G__law_is_kind : Got P w K mg base 1 _ "_law_is_kind" s__law_is_kind _ _ := got__law_is_kind B D__law_is_kind (M_InvalidDeal := M_InvalidDeal) (M_InvalidRing := M_InvalidRing) (M_InvalidWorths := M_InvalidWorths) (T_InvalidDeal := T_InvalidDeal) (T_InvalidRing := T_InvalidRing) (T_InvalidWorths := T_InvalidWorths) (ET := ET)
  have G__law_mark : GotX P w K mg base 8 _ "_law_mark" s__law_mark _ _ := got__law_mark B D__law_mark (G__law_call := G__law_call) (ET := ET)
  have G__law_mark := G__law_mark.calm (sp' := sp_mark _ _) (fun as S Q h => h)
  have G__law_raised : Got P w K mg base 9 _ "_law_raised" s__law_raised _ _ := got__law_raised B D__law_raised (G__law_same := G__law_same) (G__law_is_kind := G__law_is_kind) (G__law_mark := G__law_mark) (ET := ET)
  have G__law_raised := raised_got G__law_raised
  have G__law_refused : Got P w K mg base 10 _ "_law_refused" s__law_refused _ _ := got__law_refused B D__law_refused (G__law_raised := G__law_raised)
  have G__law_all_refused : Got P w K mg base 11 _ "_law_all_refused" s__law_all_refused _ _ := got__law_all_refused B D__law_all_refused (G__law_refused := G__law_refused)
  have G__law_call := G__law_call.calm (sp' := sp__law_callC _) (fun as S Q h => h)
  obtain ⟨lT, elT⟩ : ∃ l : List (Addr × SpA), l = [] := ⟨_, rfl⟩
  have nlT : (lT.map (·.1)).Nodup := by rw [elT]; exact nd_T
  have HT := held_mk (P := P) (w := w) (K := K) (mg := mg) (base := base) (k := 6) (l := lT) (by rw [elT]; exact (fun _ h => absurd h List.not_mem_nil))
  have G__law_judged : Got P w K mg base 9 _ "_law_judged" s__law_judged _ _ := got__law_judged B D__law_judged (G__law_same := G__law_same) (G__law_call := G__law_call) (HT := HT)
  have G_handed_on := G_handed_on.calm (sp' := sp_ring3C _ _ _ _) (fun as S Q h => h)
  have G_ring_gain := G_ring_gain.calm (sp' := sp_ring3C _ _ _ _) (fun as S Q h => h)
  have G_is_ring := G_is_ring.calm (sp' := sp_isringC _) (fun as S Q h => h)
  have G_rings_between := G_rings_between.calm (sp' := sp_rbetC _ _) (fun as S Q h => h)
  have G__law_drawn_order := order_got G__law_drawn_order
  have G__law_handed := handed_got G__law_handed
  have G__law_same := same_got G__law_same
  have lam0 := lam_ring (by decide) G__law_is_ring
  have G__law_case_right : GotG P w K mg base 12 _ "_law_case_right" s__law_case_right _ _ := got__law_case_right B D__law_case_right (G__law_all_refused := G__law_all_refused) (G__law_wrong_deals := G__law_wrong_deals) (G__law_generator := G__law_generator) (G__law_random := G__law_random) (G__law_drawn_worths := G__law_drawn_worths) (G__law_drawn_order := G__law_drawn_order) (G__law_ring_gain := G__law_ring_gain) (G__law_handed := G__law_handed) (G_handed_on := G_handed_on) (G__law_same := G__law_same) (G_ring_gain := G_ring_gain) (G__law_sum := G__law_sum) (G_is_ring := G_is_ring) (G__law_between := G__law_between) (G_rings_between := G_rings_between) (G__law_judged := G__law_judged) (G__law_wrong_worths := G__law_wrong_worths) (F_is_ring := D_is_ring.mg) (F_ring_gain := D_ring_gain.mg) (F_handed_on := D_handed_on.mg) (F_rings_between := D_rings_between.mg) (T_InvalidDeal := T_InvalidDeal) (T_InvalidRing := T_InvalidRing) (T_InvalidWorths := T_InvalidWorths) (x_is_ring := x_is_ring) (x_ring_gain := x_ring_gain) (x_handed_on := x_handed_on) (x_rings_between := x_rings_between) (lam0 := lam0) (TB := TB) (hcd := hcd)
  have G_law : GotG P w K mg base 13 _ "law" s_law _ _ := got_law B D_law (G__law_case_right := G__law_case_right)
  obtain ⟨fd, F, F2, _⟩ := G_law.ex
  rw [← Fun.same F2 U_law]
  exact F
def csL : List (Addr × Addr × Str) := [(365, 363, "_law_case_right.<locals>.<lambda>")]
end Law
open PySem PySem.W PyProof.Rows
set_option maxRecDepth 100000 in
set_option maxHeartbeats 0 in
theorem PySem.Challenge.cw_sharedrent_k08_rings_hand_rooms_on_holds : PySem.Challenge.rw_sharedrent_k08_rings_hand_rooms_on.Holds := by
  w_on; o_law; k_head; (case hw => w_witness2)
  k_fill
  refine Lay.walk_endT (k := 13) (sp := Law.sp_law 363) [(365, 363, "_law_case_right.<locals>.<lambda>")] rfl rfl ⟨rfl, by decide, by decide⟩ (fun w h Y => PySem.W.km_in_of Y) (fun w h Y p hp => by rw [List.mem_singleton.mp hp]; exact PySem.W.km_tabs_of Y _ (.head _)) (fun w => by kernel_rfl) (fun w p hp => by rw [List.mem_singleton.mp hp]; kernel_rfl) (fun w p hp => by rw [List.mem_singleton.mp hp]; kernel_rfl) Law.law_holds ?F
  case F =>
    intro w mg fa h KX G hmg
    refine' Law.all_mk KX G hmg (a_is_whole := ?a_is_whole) (l_is_whole := ?l_is_whole) (c_is_whole := ?c_is_whole) (k_is_whole := ?k_is_whole) (a__law_hash := ?a__law_hash) (l__law_hash := ?l__law_hash) (c__law_hash := ?c__law_hash) (k__law_hash := ?k__law_hash) (a__law_random := ?a__law_random) (l__law_random := ?l__law_random) (c__law_random := ?c__law_random) (k__law_random := ?k__law_random) (a_is_count := ?a_is_count) (l_is_count := ?l_is_count) (c_is_count := ?c_is_count) (k_is_count := ?k_is_count) (a_is_below := ?a_is_below) (l_is_below := ?l_is_below) (c_is_below := ?c_is_below) (k_is_below := ?k_is_below) (a_is_worth_row := ?a_is_worth_row) (l_is_worth_row := ?l_is_worth_row) (c_is_worth_row := ?c_is_worth_row) (k_is_worth_row := ?k_is_worth_row) (a_are_worths := ?a_are_worths) (l_are_worths := ?l_are_worths) (c_are_worths := ?c_are_worths) (k_are_worths := ?k_are_worths) (a_are_square := ?a_are_square) (l_are_square := ?l_are_square) (c_are_square := ?c_are_square) (k_are_square := ?k_are_square) (a_check_square := ?a_check_square) (l_check_square := ?l_check_square) (c_check_square := ?c_check_square) (k_check_square := ?k_check_square) (a_is_deal_of := ?a_is_deal_of) (l_is_deal_of := ?l_is_deal_of) (c_is_deal_of := ?c_is_deal_of) (k_is_deal_of := ?k_is_deal_of) (a_check_deal := ?a_check_deal) (l_check_deal := ?l_check_deal) (c_check_deal := ?c_check_deal) (k_check_deal := ?k_check_deal) (a__law_sum := ?a__law_sum) (l__law_sum := ?l__law_sum) (c__law_sum := ?c__law_sum) (k__law_sum := ?k__law_sum) (a__law_cell := ?a__law_cell) (l__law_cell := ?l__law_cell) (c__law_cell := ?c__law_cell) (k__law_cell := ?k__law_cell) (a__law_generator := ?a__law_generator) (l__law_generator := ?l__law_generator) (c__law_generator := ?c__law_generator) (k__law_generator := ?k__law_generator) (a__law_pick := ?a__law_pick) (l__law_pick := ?l__law_pick) (c__law_pick := ?c__law_pick) (k__law_pick := ?k__law_pick) (a__law_same := ?a__law_same) (l__law_same := ?l__law_same) (c__law_same := ?c__law_same) (k__law_same := ?k__law_same) (a__law_is_whole := ?a__law_is_whole) (l__law_is_whole := ?l__law_is_whole) (c__law_is_whole := ?c__law_is_whole) (k__law_is_whole := ?k__law_is_whole) (a__law_is_below := ?a__law_is_below) (l__law_is_below := ?l__law_is_below) (c__law_is_below := ?c__law_is_below) (k__law_is_below := ?k__law_is_below) (a__law_drawn_order := ?a__law_drawn_order) (l__law_drawn_order := ?l__law_drawn_order) (c__law_drawn_order := ?c__law_drawn_order) (k__law_drawn_order := ?k__law_drawn_order) (a__law_wrong_deals := ?a__law_wrong_deals) (l__law_wrong_deals := ?l__law_wrong_deals) (c__law_wrong_deals := ?c__law_wrong_deals) (k__law_wrong_deals := ?k__law_wrong_deals) (a__law_drawn_worths := ?a__law_drawn_worths) (l__law_drawn_worths := ?l__law_drawn_worths) (c__law_drawn_worths := ?c__law_drawn_worths) (k__law_drawn_worths := ?k__law_drawn_worths) (a__law_wrong_worths := ?a__law_wrong_worths) (l__law_wrong_worths := ?l__law_wrong_worths) (c__law_wrong_worths := ?c__law_wrong_worths) (k__law_wrong_worths := ?k__law_wrong_worths) (a_step_of := ?a_step_of) (l_step_of := ?l_step_of) (c_step_of := ?c_step_of) (k_step_of := ?k_step_of) (a__law_step := ?a__law_step) (l__law_step := ?l__law_step) (c__law_step := ?c__law_step) (k__law_step := ?k__law_step) (a_ring_sum := ?a_ring_sum) (l_ring_sum := ?l_ring_sum) (c_ring_sum := ?c_ring_sum) (k_ring_sum := ?k_ring_sum) (a__law_ring_gain := ?a__law_ring_gain) (l__law_ring_gain := ?l__law_ring_gain) (c__law_ring_gain := ?c__law_ring_gain) (k__law_ring_gain := ?k__law_ring_gain) (a_is_ring_of := ?a_is_ring_of) (l_is_ring_of := ?l_is_ring_of) (c_is_ring_of := ?c_is_ring_of) (k_is_ring_of := ?k_is_ring_of) (a__law_is_ring := ?a__law_is_ring) (l__law_is_ring := ?l__law_is_ring) (c__law_is_ring := ?c__law_is_ring) (k__law_is_ring := ?k__law_is_ring) (a_is_ring := ?a_is_ring) (l_is_ring := ?l_is_ring) (c_is_ring := ?c_is_ring) (k_is_ring := ?k_is_ring) (a_ring_gain := ?a_ring_gain) (l_ring_gain := ?l_ring_gain) (c_ring_gain := ?c_ring_gain) (k_ring_gain := ?k_ring_gain) (a_handed_on := ?a_handed_on) (l_handed_on := ?l_handed_on) (c_handed_on := ?c_handed_on) (k_handed_on := ?k_handed_on) (a__law_handed := ?a__law_handed) (l__law_handed := ?l__law_handed) (c__law_handed := ?c__law_handed) (k__law_handed := ?k__law_handed) (a_cycles_between := ?a_cycles_between) (l_cycles_between := ?l_cycles_between) (c_cycles_between := ?c_cycles_between) (k_cycles_between := ?k_cycles_between) (a__law_between := ?a__law_between) (l__law_between := ?l__law_between) (c__law_between := ?c__law_between) (k__law_between := ?k__law_between) (a_rings_between := ?a_rings_between) (l_rings_between := ?l_rings_between) (c_rings_between := ?c_rings_between) (k_rings_between := ?k_rings_between) (a__law_call := ?a__law_call) (l__law_call := ?l__law_call) (c__law_call := ?c__law_call) (k__law_call := ?k__law_call) (a__law_is_kind := ?a__law_is_kind) (l__law_is_kind := ?l__law_is_kind) (c__law_is_kind := ?c__law_is_kind) (k__law_is_kind := ?k__law_is_kind) (a__law_mark := ?a__law_mark) (l__law_mark := ?l__law_mark) (c__law_mark := ?c__law_mark) (k__law_mark := ?k__law_mark) (a__law_raised := ?a__law_raised) (l__law_raised := ?l__law_raised) (c__law_raised := ?c__law_raised) (k__law_raised := ?k__law_raised) (a__law_refused := ?a__law_refused) (l__law_refused := ?l__law_refused) (c__law_refused := ?c__law_refused) (k__law_refused := ?k__law_refused) (a__law_all_refused := ?a__law_all_refused) (l__law_all_refused := ?l__law_all_refused) (c__law_all_refused := ?c__law_all_refused) (k__law_all_refused := ?k__law_all_refused) (a__law_judged := ?a__law_judged) (l__law_judged := ?l__law_judged) (c__law_judged := ?c__law_judged) (k__law_judged := ?k__law_judged) (a__law_case_right := ?a__law_case_right) (l__law_case_right := ?l__law_case_right) (c__law_case_right := ?c__law_case_right) (k__law_case_right := ?k__law_case_right) (a_law := ?a_law) (l_law := ?l_law) (c_law := ?c_law) (k_law := ?k_law) (z_isinstance := ?z_isinstance) (z_len := ?z_len) (z_abs := ?z_abs) (z_int := ?z_int) (z_bool := ?z_bool) (z_str := ?z_str) (z_list := ?z_list) (z_tuple := ?z_tuple) (z_range := ?z_range) (z_sum := ?z_sum) (z_max := ?z_max) (z_set := ?z_set) (z_sorted := ?z_sorted) (z_repr := ?z_repr) (z_enumerate := ?z_enumerate) (z_min := ?z_min) (a_RentError := ?a_RentError) (z_super := ?z_super) (a_InvalidDeal := ?a_InvalidDeal) (el_InvalidDeal := ?el_InvalidDeal) (er_InvalidDeal := ?er_InvalidDeal) (ei_InvalidDeal := ?ei_InvalidDeal) (eg_InvalidDeal := ?eg_InvalidDeal) (eh_InvalidDeal := ?eh_InvalidDeal) (ej_InvalidDeal := ?ej_InvalidDeal) (em_InvalidDeal := ?em_InvalidDeal) (en_InvalidDeal := ?en_InvalidDeal) (eo_InvalidDeal := ?eo_InvalidDeal) (ep_InvalidDeal := ?ep_InvalidDeal) (eq_InvalidDeal := ?eq_InvalidDeal) (eb_InvalidDeal := ?eb_InvalidDeal) (a_InvalidRing := ?a_InvalidRing) (el_InvalidRing := ?el_InvalidRing) (er_InvalidRing := ?er_InvalidRing) (ei_InvalidRing := ?ei_InvalidRing) (eg_InvalidRing := ?eg_InvalidRing) (eh_InvalidRing := ?eh_InvalidRing) (ej_InvalidRing := ?ej_InvalidRing) (em_InvalidRing := ?em_InvalidRing) (en_InvalidRing := ?en_InvalidRing) (eo_InvalidRing := ?eo_InvalidRing) (ep_InvalidRing := ?ep_InvalidRing) (eq_InvalidRing := ?eq_InvalidRing) (eb_InvalidRing := ?eb_InvalidRing) (a_InvalidWorths := ?a_InvalidWorths) (el_InvalidWorths := ?el_InvalidWorths) (er_InvalidWorths := ?er_InvalidWorths) (ei_InvalidWorths := ?ei_InvalidWorths) (eg_InvalidWorths := ?eg_InvalidWorths) (eh_InvalidWorths := ?eh_InvalidWorths) (ej_InvalidWorths := ?ej_InvalidWorths) (em_InvalidWorths := ?em_InvalidWorths) (en_InvalidWorths := ?en_InvalidWorths) (eo_InvalidWorths := ?eo_InvalidWorths) (ep_InvalidWorths := ?ep_InvalidWorths) (eq_InvalidWorths := ?eq_InvalidWorths) (eb_InvalidWorths := ?eb_InvalidWorths) (e_top := ?e_top) (e_kit := ?e_kit) (e_nd := ?e_nd) (nd_Tx := ?nd_Tx) (nd_T := ?nd_T) (q_MOST_WORTH := ?q_MOST_WORTH) (q_LARGEST := ?q_LARGEST)
    (case a_is_whole => k_is)
    (case l_is_whole => k_is)
    (case c_is_whole => k_is)
    (case k_is_whole => k_is)
    (case a__law_hash => k_is)
    (case l__law_hash => k_is)
    (case c__law_hash => k_is)
    (case k__law_hash => k_is)
    (case a__law_random => k_is)
    (case l__law_random => k_is)
    (case c__law_random => k_is)
    (case k__law_random => k_is)
    (case a_is_count => k_is)
    (case l_is_count => k_is)
    (case c_is_count => k_is)
    (case k_is_count => k_is)
    (case a_is_below => k_is)
    (case l_is_below => k_is)
    (case c_is_below => k_is)
    (case k_is_below => k_is)
    (case a_is_worth_row => k_is)
    (case l_is_worth_row => k_is)
    (case c_is_worth_row => k_is)
    (case k_is_worth_row => k_is)
    (case a_are_worths => k_is)
    (case l_are_worths => k_is)
    (case c_are_worths => k_is)
    (case k_are_worths => k_is)
    (case a_are_square => k_is)
    (case l_are_square => k_is)
    (case c_are_square => k_is)
    (case k_are_square => k_is)
    (case a_check_square => k_is)
    (case l_check_square => k_is)
    (case c_check_square => k_is)
    (case k_check_square => k_is)
    (case a_is_deal_of => k_is)
    (case l_is_deal_of => k_is)
    (case c_is_deal_of => k_is)
    (case k_is_deal_of => k_is)
    (case a_check_deal => k_is)
    (case l_check_deal => k_is)
    (case c_check_deal => k_is)
    (case k_check_deal => k_is)
    (case a__law_sum => k_is)
    (case l__law_sum => k_is)
    (case c__law_sum => k_is)
    (case k__law_sum => k_is)
    (case a__law_cell => k_is)
    (case l__law_cell => k_is)
    (case c__law_cell => k_is)
    (case k__law_cell => k_is)
    (case a__law_generator => k_is)
    (case l__law_generator => k_is)
    (case c__law_generator => k_is)
    (case k__law_generator => k_is)
    (case a__law_pick => k_is)
    (case l__law_pick => k_is)
    (case c__law_pick => k_is)
    (case k__law_pick => k_is)
    (case a__law_same => k_is)
    (case l__law_same => k_is)
    (case c__law_same => k_is)
    (case k__law_same => k_is)
    (case a__law_is_whole => k_is)
    (case l__law_is_whole => k_is)
    (case c__law_is_whole => k_is)
    (case k__law_is_whole => k_is)
    (case a__law_is_below => k_is)
    (case l__law_is_below => k_is)
    (case c__law_is_below => k_is)
    (case k__law_is_below => k_is)
    (case a__law_drawn_order => k_is)
    (case l__law_drawn_order => k_is)
    (case c__law_drawn_order => k_is)
    (case k__law_drawn_order => k_is)
    (case a__law_wrong_deals => k_is)
    (case l__law_wrong_deals => k_is)
    (case c__law_wrong_deals => k_is)
    (case k__law_wrong_deals => k_is)
    (case a__law_drawn_worths => k_is)
    (case l__law_drawn_worths => k_is)
    (case c__law_drawn_worths => k_is)
    (case k__law_drawn_worths => k_is)
    (case a__law_wrong_worths => k_is)
    (case l__law_wrong_worths => k_is)
    (case c__law_wrong_worths => k_is)
    (case k__law_wrong_worths => k_is)
    (case a_step_of => k_is)
    (case l_step_of => k_is)
    (case c_step_of => k_is)
    (case k_step_of => k_is)
    (case a__law_step => k_is)
    (case l__law_step => k_is)
    (case c__law_step => k_is)
    (case k__law_step => k_is)
    (case a_ring_sum => k_is)
    (case l_ring_sum => k_is)
    (case c_ring_sum => k_is)
    (case k_ring_sum => k_is)
    (case a__law_ring_gain => k_is)
    (case l__law_ring_gain => k_is)
    (case c__law_ring_gain => k_is)
    (case k__law_ring_gain => k_is)
    (case a_is_ring_of => k_is)
    (case l_is_ring_of => k_is)
    (case c_is_ring_of => k_is)
    (case k_is_ring_of => k_is)
    (case a__law_is_ring => k_is)
    (case l__law_is_ring => k_is)
    (case c__law_is_ring => k_is)
    (case k__law_is_ring => k_is)
    (case a_is_ring => k_is)
    (case l_is_ring => k_is)
    (case c_is_ring => k_is)
    (case k_is_ring => k_is)
    (case a_ring_gain => k_is)
    (case l_ring_gain => k_is)
    (case c_ring_gain => k_is)
    (case k_ring_gain => k_is)
    (case a_handed_on => k_is)
    (case l_handed_on => k_is)
    (case c_handed_on => k_is)
    (case k_handed_on => k_is)
    (case a__law_handed => k_is)
    (case l__law_handed => k_is)
    (case c__law_handed => k_is)
    (case k__law_handed => k_is)
    (case a_cycles_between => k_is)
    (case l_cycles_between => k_is)
    (case c_cycles_between => k_is)
    (case k_cycles_between => k_is)
    (case a__law_between => k_is)
    (case l__law_between => k_is)
    (case c__law_between => k_is)
    (case k__law_between => k_is)
    (case a_rings_between => k_is)
    (case l_rings_between => k_is)
    (case c_rings_between => k_is)
    (case k_rings_between => k_is)
    (case a__law_call => k_is)
    (case l__law_call => k_is)
    (case c__law_call => k_is)
    (case k__law_call => k_is)
    (case a__law_is_kind => k_is)
    (case l__law_is_kind => k_is)
    (case c__law_is_kind => k_is)
    (case k__law_is_kind => k_is)
    (case a__law_mark => k_is)
    (case l__law_mark => k_is)
    (case c__law_mark => k_is)
    (case k__law_mark => k_is)
    (case a__law_raised => k_is)
    (case l__law_raised => k_is)
    (case c__law_raised => k_is)
    (case k__law_raised => k_is)
    (case a__law_refused => k_is)
    (case l__law_refused => k_is)
    (case c__law_refused => k_is)
    (case k__law_refused => k_is)
    (case a__law_all_refused => k_is)
    (case l__law_all_refused => k_is)
    (case c__law_all_refused => k_is)
    (case k__law_all_refused => k_is)
    (case a__law_judged => k_is)
    (case l__law_judged => k_is)
    (case c__law_judged => k_is)
    (case k__law_judged => k_is)
    (case a__law_case_right => k_is)
    (case l__law_case_right => k_is)
    (case c__law_case_right => k_is)
    (case k__law_case_right => k_is)
    (case a_law => k_is)
    (case l_law => k_is)
    (case c_law => k_is)
    (case k_law => k_is)
    (case z_isinstance => k_is)
    (case z_len => k_is)
    (case z_abs => k_is)
    (case z_int => k_is)
    (case z_bool => k_is)
    (case z_str => k_is)
    (case z_list => k_is)
    (case z_tuple => k_is)
    (case z_range => k_is)
    (case z_sum => k_is)
    (case z_max => k_is)
    (case z_set => k_is)
    (case z_sorted => k_is)
    (case z_repr => k_is)
    (case z_enumerate => k_is)
    (case z_min => k_is)
    (case a_RentError => k_is)
    (case z_super => k_is)
    (case a_InvalidDeal => k_is)
    (case el_InvalidDeal => k_is)
    (case er_InvalidDeal => first | kernel_rfl | k_is)
    (case ei_InvalidDeal => k_is)
    (case eg_InvalidDeal => k_is)
    (case eh_InvalidDeal => rfl)
    (case ej_InvalidDeal => k_is)
    (case em_InvalidDeal => k_is)
    (case en_InvalidDeal => first | rfl | k_is)
    (case eo_InvalidDeal => first | kernel_rfl | rfl)
    (case ep_InvalidDeal => k_is)
    (case eq_InvalidDeal => k_is)
    (case eb_InvalidDeal => kernel_rfl)
    (case a_InvalidRing => k_is)
    (case el_InvalidRing => k_is)
    (case er_InvalidRing => first | kernel_rfl | k_is)
    (case ei_InvalidRing => k_is)
    (case eg_InvalidRing => k_is)
    (case eh_InvalidRing => rfl)
    (case ej_InvalidRing => k_is)
    (case em_InvalidRing => k_is)
    (case en_InvalidRing => first | rfl | k_is)
    (case eo_InvalidRing => first | kernel_rfl | rfl)
    (case ep_InvalidRing => k_is)
    (case eq_InvalidRing => k_is)
    (case eb_InvalidRing => kernel_rfl)
    (case a_InvalidWorths => k_is)
    (case el_InvalidWorths => k_is)
    (case er_InvalidWorths => first | kernel_rfl | k_is)
    (case ei_InvalidWorths => k_is)
    (case eg_InvalidWorths => k_is)
    (case eh_InvalidWorths => rfl)
    (case ej_InvalidWorths => k_is)
    (case em_InvalidWorths => k_is)
    (case en_InvalidWorths => first | rfl | k_is)
    (case eo_InvalidWorths => first | kernel_rfl | rfl)
    (case ep_InvalidWorths => k_is)
    (case eq_InvalidWorths => k_is)
    (case eb_InvalidWorths => kernel_rfl)
    (case e_top => first | kernel_rfl | rfl | decide)
    (case e_kit => kernel_rfl)
    (case e_nd => decide)
    (case nd_Tx => decide)
    (case nd_T => decide)
    (case q_MOST_WORTH => k_is)
    (case q_LARGEST => k_is)

