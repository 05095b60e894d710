import PyProof.Rows.All
import Wide.All
import OpenK.AllK
import Wide.FinOn
import HandS.ForMost
import HandS.ForExc
import HandS.ExcIs
import HandS.Wide
import HandS.WideBits
import HandS.Deep
import HandS.TupAny
import HandS.IsInst
import HandS.Ends
import HandS.Style
import HandS.EndBits
import HandS.Conv
import HandS.SetFor
import HandS.SortInts
import HandS.More
import HandS.NoneIn
import PySem.Challenge.RW_packhall_k79_whole_any_so_many
set_option Elab.async false
set_option linter.all false
set_option maxRecDepth 100000
set_option maxHeartbeats 4000000
/-! VL: values as trees. A tree's list, dict or instance is either one's own (o = true: it may be changed, nothing else reaches it) or shared and never changed again. -/
namespace VL
open PySem PySem.Spec PyProof.Rows L2

inductive Kd where
  | lst | tup | rd | dK (ks : List Key) | dT (ks : List (List Key)) | ins (c : Nat) (fs : List Str)
inductive D where
  | any | non | bl (b : Bool) | int (i : Int) | str (s : Str) | exc (c : Nat) | ty (n : String) | cls (c : Nat)
  | node (k : Kd) (o : Bool) (xs : List D)

inductive Bs where
  | sl (i : Nat) | tm (j : Nat) | fo
  deriving DecidableEq
structure Loc where
  b : Bs
  p : List Nat
  deriving DecidableEq
def Loc.sub (l : Loc) (i : Nat) : Loc := ⟨l.b, l.p ++ [i]⟩
def Loc.app (l : Loc) (q : List Nat) : Loc := ⟨l.b, l.p ++ q⟩
theorem Loc.sub_app (l : Loc) (i : Nat) (q : List Nat) : (l.sub i).app q = l.app (i :: q) := by
  unfold Loc.sub Loc.app; simp
theorem Loc.app_nil (l : Loc) : l.app [] = l := by
  unfold Loc.app; simp
abbrev Ow := Addr → Option Loc

/-- an exception object of the class cls at a, kept as a value -/
def ExT (cls : Value) (a : Addr) : HO := .ext fun h => ∃ (oe : Obj) (vs : Array Value), h.get? a = some oe ∧ Zc cls none oe ∧ oe.data = .fields vs
/-- what may be owned -/
def OwnO : Option HO → Prop
  | some (.lst _) => True
  | some (.dK _) => True
  | some (.dT _) => True
  | some (.ins _ _ _) => True
  | _ => False
def OwnAt (k : Kd) (o : Bool) (l : Loc) (x : Option Loc) : Prop := match k with
  | .rd => True
  | _ => x = if o = true then some l else none
theorem OwnAt.cases {k : Kd} {o : Bool} {l : Loc} {x : Option Loc} (h : OwnAt k o l x) : k = .rd ∨ x = if o = true then some l else none := by
  cases k <;> first | exact .inl rfl | exact .inr h
theorem OwnAt.mk {k : Kd} {o : Bool} {l : Loc} {x : Option Loc} (h : x = if o = true then some l else none) : OwnAt k o l x := by
  cases k <;> first | exact h | exact trivial
/-- the text's classes by number, and the written part -/
structure GX where
  ad : Nat → Addr
  K : PySem.W.Frag
instance : CoeFun GX (fun _ => Nat → Addr) := ⟨GX.ad⟩
def Holds (G : GX) (H : Hp) (a : Addr) : Kd → List V → Prop
  | .lst, vs => H a = some (.lst vs)
  | .tup, vs => H a = some (.tup vs)
  | .rd, vs => (∃ o, H a = some (.frz o (.lst vs))) ∨ ∃ (o : Obj) (its : Array Value) (n : Nat), G.K.lookup a = some o ∧ o.cls = .type "list" ∧ o.dict = none ∧ o.data = .seq its n ∧ its.size ≤ sizeLine ∧ Vals vs its.toList
  | .dK ks, vs => H a = some (.dK (ks.zip vs)) ∧ ks.length = vs.length
  | .dT ks, vs => H a = some (.dT (ks.zip vs)) ∧ ks.length = vs.length
  | .ins c fs, vs => (∃ dx, H a = some (.ins (G c) dx (fs.zip vs))) ∧ fs.length = vs.length
theorem Holds.there {G : GX} {H : Hp} {a : Addr} {k : Kd} {vs : List V} (h : Holds G H a k vs) (n : k ≠ .rd) : ∃ o, H a = some o := by
  cases k with
  | lst => exact ⟨_, h⟩
  | tup => exact ⟨_, h⟩
  | rd => exact absurd rfl n
  | dK ks => exact ⟨_, h.1⟩
  | dT ks => exact ⟨_, h.1⟩
  | ins c fs => obtain ⟨⟨dx, h⟩, _⟩ := h; exact ⟨_, h⟩
theorem Holds.seq {G : GX} {H : Hp} {a : Addr} {vs : List V} (h : Holds G H a .rd vs) : SqL G.K H a vs := by
  rcases h with ⟨o, h⟩ | h
  · exact .inl (.inr ⟨o, h⟩)
  · exact .inr h
theorem Holds.keep {G : GX} {H H' : Hp} {a : Addr} {k : Kd} {vs : List V} (h : Holds G H a k vs) (e : ∀ o, H a = some o → H' a = some o) : Holds G H' a k vs := by
  cases k with
  | lst => exact e _ h
  | tup => exact e _ h
  | rd =>
    rcases h with ⟨o, h⟩ | h
    · exact .inl ⟨o, e _ h⟩
    · exact .inr h
  | dK ks => exact ⟨e _ h.1, h.2⟩
  | dT ks => exact ⟨e _ h.1, h.2⟩
  | ins c fs => obtain ⟨⟨dx, h⟩, z⟩ := h; exact ⟨⟨dx, e _ h⟩, z⟩

mutual
def Rep (G : GX) (ow : Ow) (H : Hp) : D → Loc → V → Prop
  | .any, _, _ => True
  | .non, _, v => v = .non
  | .bl b, _, v => v = .bl b
  | .int i, _, v => v = .int i
  | .str s, _, v => v = .str s
  | .exc c, _, v => ∃ a, v = .ref a ∧ H a = some (ExT (.ref (G c)) a)
  | .ty n, _, v => v = .ty n
  | .cls c, _, v => v = .ref (G c)
  | .node k o xs, l, v => ∃ a vs, v = .ref a ∧ Holds G H a k vs ∧ OwnAt k o l (ow a) ∧ Reps G ow H xs l 0 vs
def Reps (G : GX) (ow : Ow) (H : Hp) : List D → Loc → Nat → List V → Prop
  | [], _, _, vs => vs = []
  | d :: ds, l, i, vs => ∃ v ws, vs = v :: ws ∧ Rep G ow H d (l.sub i) v ∧ Reps G ow H ds l (i + 1) ws
end

mutual
def frz : D → D
  | .any => .any
  | .non => .non
  | .bl b => .bl b
  | .int i => .int i
  | .str s => .str s
  | .exc c => .exc c
  | .ty n => .ty n
  | .cls c => .cls c
  | .node k _ xs => .node k false (frzs xs)
def frzs : List D → List D
  | [] => []
  | d :: ds => frz d :: frzs ds
end
theorem frzs_map : ∀ xs : List D, frzs xs = xs.map frz
  | [] => by simp [frzs]
  | d :: ds => by simp [frzs, frzs_map ds]
mutual
theorem frz_frz : ∀ d : D, frz (frz d) = frz d
  | .any => rfl
  | .non => rfl
  | .bl _ => rfl
  | .int _ => rfl
  | .str _ => rfl
  | .exc _ => rfl
  | .ty _ => rfl
  | .cls _ => rfl
  | .node k o xs => by simp only [frz, frzs_frzs xs]
theorem frzs_frzs : ∀ ds : List D, frzs (frzs ds) = frzs ds
  | [] => by simp only [frzs]
  | d :: ds => by simp only [frzs, frz_frz d, frzs_frzs ds]
end
/-- only what lies beneath is frozen -/
def frzB : D → D
  | .node k o xs => .node k o (frzs xs)
  | d => d

section
variable {G : GX} {ow ow' : Ow} {H H' : Hp}
mutual
/-- the one rule of change: objects that the tree leans on stay, and who owns them is told anew -/
theorem Rep.mono : ∀ (d : D) {l l' : Loc} {v : V}, (∀ a o, H a = some o → (ow a = none ∨ ∃ q, ow a = some (l.app q)) → H' a = some o) → (∀ a o, H a = some o → ¬ OwnO (some o) → H' a = some o) → (∀ a o, H a = some o → ow a = none → ow' a = none) →
    (∀ a o q, H a = some o → ow a = some (l.app q) → ow' a = some (l'.app q)) → Rep G ow H d l v → Rep G ow' H' d l' v
  | .any, _, _, _, _, _, _, _, _ => trivial
  | .non, _, _, _, _, _, _, _, h => h
  | .bl _, _, _, _, _, _, _, _, h => h
  | .int _, _, _, _, _, _, _, _, h => h
  | .str _, _, _, _, _, _, _, _, h => h
  | .ty _, _, _, _, _, _, _, _, h => h
  | .cls _, _, _, _, _, _, _, _, h => h
  | .exc _, _, _, _, _, hE, _, _, h => by
    obtain ⟨a, e, h⟩ := h
    exact ⟨a, e, hE a _ h (fun z => z)⟩
  | .node k o xs, l, l', v, hA, hE, hB, hC, h => by
    obtain ⟨a, vs, e, h1, h2, h3⟩ := h
    rcases h2.cases with hk | h2
    · subst hk
      refine ⟨a, vs, e, ?_, trivial, Reps.mono xs hA hE hB hC h3⟩
      rcases h1 with ⟨o', h1⟩ | h1
      · exact .inl ⟨o', hE a _ h1 (fun z => z)⟩
      · exact .inr h1
    by_cases hk : k = .rd
    · subst hk
      refine ⟨a, vs, e, ?_, trivial, Reps.mono xs hA hE hB hC h3⟩
      rcases h1 with ⟨o', h1⟩ | h1
      · exact .inl ⟨o', hE a _ h1 (fun z => z)⟩
      · exact .inr h1
    obtain ⟨ob, hob⟩ := h1.there hk
    refine ⟨a, vs, e, h1.keep fun o' z => hA a o' z ?_, .mk ?_, Reps.mono xs hA hE hB hC h3⟩
    · cases o with
      | true => exact .inr ⟨[], by rw [Loc.app_nil]; simpa using h2⟩
      | false => exact .inl (by simpa using h2)
    · cases o with
      | true =>
        have z := hC a ob [] hob (by rw [Loc.app_nil]; simpa using h2)
        rw [Loc.app_nil] at z
        simpa using z
      | false => simpa using hB a ob hob (by simpa using h2)
theorem Reps.mono : ∀ (ds : List D) {l l' : Loc} {i : Nat} {vs : List V}, (∀ a o, H a = some o → (ow a = none ∨ ∃ q, ow a = some (l.app q)) → H' a = some o) → (∀ a o, H a = some o → ¬ OwnO (some o) → H' a = some o) → (∀ a o, H a = some o → ow a = none → ow' a = none) →
    (∀ a o q, H a = some o → ow a = some (l.app q) → ow' a = some (l'.app q)) → Reps G ow H ds l i vs → Reps G ow' H' ds l' i vs
  | [], _, _, _, _, _, _, _, _, h => h
  | d :: ds, l, l', i, vs, hA, hE, hB, hC, h => by
    obtain ⟨v, ws, e, h1, h2⟩ := h
    refine ⟨v, ws, e, Rep.mono d (fun a o z q => hA a o z ?_) hE hB (fun a o q z r => ?_) h1, Reps.mono ds hA hE hB hC h2⟩
    · rcases q with q | ⟨q, r⟩
      · exact .inl q
      · exact .inr ⟨i :: q, by rw [r, Loc.sub_app]⟩
    · rw [Loc.sub_app] at r ⊢
      exact hC a o (i :: q) z r
end
mutual
/-- frozen: all that it owned is nobody's -/
theorem Rep.frz : ∀ (d : D) {l l' : Loc} {v : V}, (∀ a o, H a = some o → (ow a = none ∨ ∃ q, ow a = some (l.app q)) → H' a = some o ∧ ow' a = none) → (∀ a o, H a = some o → ¬ OwnO (some o) → H' a = some o) →
    Rep G ow H d l v → Rep G ow' H' (VL.frz d) l' v
  | .any, _, _, _, _, _, _ => trivial
  | .non, _, _, _, _, _, h => h
  | .bl _, _, _, _, _, _, h => h
  | .int _, _, _, _, _, _, h => h
  | .str _, _, _, _, _, _, h => h
  | .ty _, _, _, _, _, _, h => h
  | .cls _, _, _, _, _, _, h => h
  | .exc _, _, _, _, _, hE, h => by
    obtain ⟨a, e, h⟩ := h
    exact ⟨a, e, hE a _ h (fun z => z)⟩
  | .node k o xs, l, l', v, hA, hE, h => by
    obtain ⟨a, vs, e, h1, h2, h3⟩ := h
    by_cases hk : k = .rd
    · subst hk
      refine ⟨a, vs, e, ?_, trivial, Reps.frz xs hA hE h3⟩
      rcases h1 with ⟨o', h1⟩ | h1
      · exact .inl ⟨o', hE a _ h1 (fun z => z)⟩
      · exact .inr h1
    have h2 := h2.cases.resolve_left hk
    obtain ⟨ob, hob⟩ := h1.there hk
    have own : ow a = none ∨ ∃ q, ow a = some (l.app q) := by
      cases o with
      | true => exact .inr ⟨[], by rw [Loc.app_nil]; simpa using h2⟩
      | false => exact .inl (by simpa using h2)
    show ∃ a vs, v = .ref a ∧ Holds G H' a k vs ∧ OwnAt k false l' (ow' a) ∧ Reps G ow' H' (VL.frzs xs) l' 0 vs
    exact ⟨a, vs, e, h1.keep fun o' z => (hA a o' z own).1, .mk (by simpa using (hA a ob hob own).2), Reps.frz xs hA hE h3⟩
theorem Reps.frz : ∀ (ds : List D) {l l' : Loc} {i j : Nat} {vs : List V}, (∀ a o, H a = some o → (ow a = none ∨ ∃ q, ow a = some (l.app q)) → H' a = some o ∧ ow' a = none) → (∀ a o, H a = some o → ¬ OwnO (some o) → H' a = some o) →
    Reps G ow H ds l i vs → Reps G ow' H' (VL.frzs ds) l' j vs
  | [], _, _, _, _, _, _, _, h => h
  | d :: ds, l, l', i, j, vs, hA, hE, h => by
    obtain ⟨v, ws, e, h1, h2⟩ := h
    show ∃ v ws, vs = v :: ws ∧ Rep G ow' H' (VL.frz d) (l'.sub j) v ∧ Reps G ow' H' (VL.frzs ds) l' (j + 1) ws
    refine ⟨v, ws, e, Rep.frz d (fun a o z q => hA a o z ?_) hE h1, Reps.frz ds hA hE h2⟩
    rcases q with q | ⟨q, r⟩
    · exact .inl q
    · exact .inr ⟨i :: q, by rw [r, Loc.sub_app]⟩
end
end

/-! ### places of a list of trees -/
theorem Reps.length {G : GX} {ow : Ow} {H : Hp} : ∀ {ds : List D} {l : Loc} {i : Nat} {vs : List V}, Reps G ow H ds l i vs → ds.length = vs.length
  | [], _, _, _, h => by
    have e : _ = [] := h
    subst e; rfl
  | d :: ds, l, i, vs, h => by
    obtain ⟨v, ws, e, _, h2⟩ := h
    subst e
    simp [Reps.length h2]
theorem Reps.get {G : GX} {ow : Ow} {H : Hp} : ∀ {ds : List D} {l : Loc} {i : Nat} {vs : List V}, Reps G ow H ds l i vs → ∀ (j : Nat) (d : D), ds[j]? = some d → ∃ v, vs[j]? = some v ∧ Rep G ow H d (l.sub (i + j)) v
  | [], _, _, _, _, j, d, e => by simp at e
  | d :: ds, l, i, vs, h, 0, d', e => by
    obtain ⟨v, ws, ev, h1, _⟩ := h
    subst ev
    simp at e; subst e
    exact ⟨v, rfl, h1⟩
  | d :: ds, l, i, vs, h, j + 1, d', e => by
    obtain ⟨v, ws, ev, _, h2⟩ := h
    subst ev
    obtain ⟨u, e1, e2⟩ := Reps.get h2 j d' (by simpa using e)
    refine ⟨u, by simpa using e1, ?_⟩
    rw [show i + (j + 1) = i + 1 + j by omega]
    exact e2
theorem Reps.of_get {G : GX} {ow : Ow} {H : Hp} : ∀ {ds : List D} {l : Loc} {i : Nat} {vs : List V}, ds.length = vs.length → (∀ (j : Nat) (d : D) (v : V), ds[j]? = some d → vs[j]? = some v → Rep G ow H d (l.sub (i + j)) v) → Reps G ow H ds l i vs
  | [], _, _, vs, hl, _ => by
    have : vs = [] := by simpa using hl.symm
    exact this
  | d :: ds, l, i, [], hl, _ => by simp at hl
  | d :: ds, l, i, v :: vs, hl, h => by
    refine ⟨v, vs, rfl, h 0 d v rfl rfl, Reps.of_get (by simpa using hl) fun j d' v' e1 e2 => ?_⟩
    have z := h (j + 1) d' v' (by simpa using e1) (by simpa using e2)
    rw [show i + 1 + j = i + (j + 1) by omega]
    exact z
end VL

namespace VL
open PySem PySem.Spec PyProof.Rows L2

/-- the frame of a def: the heap at its entry, the cells that it may change though they stood there, the slots that keep their value -/
structure Fc where
  H0 : Hp
  io : Addr → Prop
  fo : Addr → Prop
  pin : List (Nat × V)
abbrev Rho := List (Option D)
structure StW (G : GX) (C : Fc) (ow : Ow) (r : Rho) (T : List (D × V)) (s : L2.St) (H : Hp) : Prop where
  len : r.length = s.length
  sl : ∀ (i : Nat) (d : D), r[i]? = some (some d) → ∃ v, s[i]? = some (some v) ∧ Rep G ow H d ⟨.sl i, []⟩ v
  tm : ∀ (j : Nat) (d : D) (v : V), T[j]? = some (d, v) → Rep G ow H d ⟨.tm j, []⟩ v
  old : ∀ a o, ¬ C.io a → C.H0 a = some o → H a = some o
  own : ∀ a l, ow a = some l → l.b = .fo ∨ C.H0 a = none ∨ C.io a
  fo : ∀ a, C.fo a → ow a = some ⟨.fo, []⟩
  mu : ∀ a l, ow a = some l → OwnO (H a)
  pin : ∀ p ∈ C.pin, s[p.1]? = some (some p.2)
theorem OwnO.mut {o : Option HO} (h : OwnO o) : Mut o := by
  cases o with
  | none => exact h
  | some u => cases u <;> first | exact trivial | exact h.elim
def StOk (G : GX) (C : Fc) (r : Rho) (T : List (D × V)) (s : L2.St) (H : Hp) : Prop := ∃ ow, StW G C ow r T s H
def Ext (H H' : Hp) : Prop := ∀ a o, H a = some o → H' a = some o
theorem Ext.refl {H : Hp} : Ext H H := fun _ _ h => h
theorem Ext.trans {H H' H'' : Hp} (h : Ext H H') (h' : Ext H' H'') : Ext H H'' := fun a o e => h' a o (h a o e)
theorem Ext.new {H : Hp} {p : Addr} {o : HO} (h : H p = none) : Ext H (upd H p o) := fun a u e => by
  rw [upd_ne (ne_of_none e h)]; exact e

/-- a thing without parts -/
def atom : D → Bool
  | .node _ _ _ => false
  | _ => true
theorem frz_atom {d : D} (h : atom d = true) : frz d = d := by
  cases d with
  | node k o xs => cases h
  | _ => rfl

section
variable {G : GX} {C : Fc} {ow ow' : Ow} {r : Rho} {T T1 T2 : List (D × V)} {s : L2.St} {H H' : Hp}
/-- a tree without own parts stands at any place, for whoever -/
theorem Rep.move {d : D} {l l' : Loc} {v : V} (e : VL.frz d = d) (hA : ∀ a o, H a = some o → (ow a = none ∨ ∃ q, ow a = some (l.app q)) → H' a = some o ∧ ow' a = none) (hE : ∀ a o, H a = some o → ¬ OwnO (some o) → H' a = some o) (h : Rep G ow H d l v) : Rep G ow' H' d l' v := by
  have z := Rep.frz (l' := l') d hA hE h
  rw [e] at z
  exact z
mutual
/-- .. the tree frozen: only unowned cells count -/
theorem Rep.moveF : ∀ (d : D) {l l' : Loc} {v : V}, VL.frz d = d → (∀ a o, H a = some o → ow a = none → H' a = some o ∧ ow' a = none) → (∀ a o, H a = some o → ¬ OwnO (some o) → H' a = some o) → Rep G ow H d l v → Rep G ow' H' d l' v
  | .any, _, _, _, _, _, _, _ => trivial
  | .non, _, _, _, _, _, _, h => h
  | .bl _, _, _, _, _, _, _, h => h
  | .int _, _, _, _, _, _, _, h => h
  | .str _, _, _, _, _, _, _, h => h
  | .ty _, _, _, _, _, _, _, h => h
  | .cls _, _, _, _, _, _, _, h => h
  | .exc _, _, _, _, _, _, hE, h => by
    obtain ⟨a, e, h⟩ := h
    exact ⟨a, e, hE a _ h (fun z => z)⟩
  | .node k o xs, l, l', v, e, hA, hE, h => by
    have e' : D.node k false (VL.frzs xs) = .node k o xs := e
    injection e' with _ e1 e2
    subst e1
    obtain ⟨a, vs, ev, h1, h2, h3⟩ := h
    by_cases hk : k = .rd
    · subst hk
      refine ⟨a, vs, ev, ?_, trivial, Reps.moveF xs e2 hA hE h3⟩
      rcases h1 with ⟨o', h1⟩ | h1
      · exact .inl ⟨o', hE a _ h1 (fun z => z)⟩
      · exact .inr h1
    have h2 := h2.cases.resolve_left hk
    obtain ⟨ob, hob⟩ := h1.there hk
    have n : ow a = none := by simpa using h2
    exact ⟨a, vs, ev, h1.keep fun o' z => (hA a o' z n).1, .mk (by simpa using (hA a ob hob n).2), Reps.moveF xs e2 hA hE h3⟩
theorem Reps.moveF : ∀ (ds : List D) {l l' : Loc} {i j : Nat} {vs : List V}, VL.frzs ds = ds → (∀ a o, H a = some o → ow a = none → H' a = some o ∧ ow' a = none) → (∀ a o, H a = some o → ¬ OwnO (some o) → H' a = some o) → Reps G ow H ds l i vs → Reps G ow' H' ds l' j vs
  | [], _, _, _, _, _, _, _, _, h => h
  | d :: ds, l, l', i, j, vs, e, hA, hE, h => by
    have e' : VL.frz d :: VL.frzs ds = d :: ds := e
    injection e' with e1 e2
    obtain ⟨v, ws, ev, h1, h2⟩ := h
    exact ⟨v, ws, ev, Rep.moveF d e1 hA hE h1, Reps.moveF ds e2 hA hE h2⟩
end

theorem StW.ext (S : StW G C ow r T s H) (e : Ext H H') : StW G C ow r T s H' where
  len := S.len
  sl := fun i d q => by
    obtain ⟨v, h1, h2⟩ := S.sl i d q
    exact ⟨v, h1, h2.mono d (fun a o z _ => e a o z) (fun a o z _ => e a o z) (fun _ _ _ z => z) fun _ _ _ _ z => z⟩
  tm := fun j d v q => (S.tm j d v q).mono d (fun a o z _ => e a o z) (fun a o z _ => e a o z) (fun _ _ _ z => z) fun _ _ _ _ z => z
  old := fun a o n q => e a o (S.old a o n q)
  own := S.own
  fo := S.fo
  mu := fun a l q => by
    have m := S.mu a l q
    cases z : H a with
    | none => rw [z] at m; exact m.elim
    | some o => rw [z] at m; rw [e a o z]; exact m
  pin := S.pin
theorem StOk.ext (S : StOk G C r T s H) (e : Ext H H') : StOk G C r T s H' := let ⟨ow, W⟩ := S; ⟨ow, W.ext e⟩
/-- fewer temporaries -/
theorem StW.drop (S : StW G C ow r (T ++ T2) s H) : StW G C ow r T s H :=
  ⟨S.len, S.sl, fun j d v q => S.tm j d v (by
    have hj : j < T.length := (List.getElem?_eq_some_iff.mp q).1
    rw [List.getElem?_append_left hj]; exact q), S.old, S.own, S.fo, S.mu, S.pin⟩
theorem StOk.drop (S : StOk G C r (T ++ T2) s H) : StOk G C r T s H := let ⟨ow, W⟩ := S; ⟨ow, W.drop⟩
/-- the last temporary -/
theorem StW.last {d : D} {v : V} (S : StW G C ow r (T ++ [(d, v)]) s H) : Rep G ow H d ⟨.tm T.length, []⟩ v := S.tm T.length d v (by simp)
/-- one more that owns nothing -/
theorem StW.push {d : D} {v : V} (S : StW G C ow r T s H) (h : Rep G ow H d ⟨.tm T.length, []⟩ v) : StW G C ow r (T ++ [(d, v)]) s H :=
  ⟨S.len, S.sl, fun j d' v' q => by
    by_cases hj : j < T.length
    · rw [List.getElem?_append_left hj] at q
      exact S.tm j d' v' q
    · rw [List.getElem?_append_right (by omega)] at q
      have e : j = T.length := by
        have := (List.getElem?_eq_some_iff.mp q).1
        simp at this; omega
      subst e
      simp at q
      obtain ⟨e1, e2⟩ := q
      subst e1; subst e2
      exact h, S.old, S.own, S.fo, S.mu, S.pin⟩
theorem Rep.of_atom {d : D} {l l' : Loc} {v : V} (a : atom d = true) (h : Rep G ow H d l v) : Rep G ow' H d l' v := by
  cases d with
  | node k o xs => cases a
  | _ => exact h
theorem StOk.pushA {d : D} {v : V} (S : StOk G C r T s H) (a : atom d = true) (h : ∀ ow l, Rep G ow H d l v) : StOk G C r (T ++ [(d, v)]) s H := let ⟨ow, W⟩ := S; ⟨ow, W.push (h _ _)⟩
theorem StOk.pushI (i : Int) (S : StOk G C r T s H) : StOk G C r (T ++ [(.int i, .int i)]) s H := S.pushA rfl fun _ _ => rfl
theorem StOk.pushB (b : Bool) (S : StOk G C r T s H) : StOk G C r (T ++ [(.bl b, .bl b)]) s H := S.pushA rfl fun _ _ => rfl
theorem StOk.pushN (S : StOk G C r T s H) : StOk G C r (T ++ [(.non, .non)]) s H := S.pushA rfl fun _ _ => rfl
theorem StOk.pushS (x : Str) (S : StOk G C r T s H) : StOk G C r (T ++ [(.str x, .str x)]) s H := S.pushA rfl fun _ _ => rfl

/-- freed: what base b owned is nobody's -/
def free (ow : Ow) (b : Bs) : Ow := fun a => match ow a with
  | some l => if l.b = b then none else some l
  | none => none
theorem free_none {b : Bs} {a : Addr} (h : ow a = none) : free ow b a = none := by unfold free; rw [h]
theorem free_at {b : Bs} {a : Addr} {l : Loc} (h : ow a = some l) (e : l.b = b) : free ow b a = none := by unfold free; rw [h]; simp [e]
theorem free_else {b : Bs} {a : Addr} {l : Loc} (h : ow a = some l) (e : l.b ≠ b) : free ow b a = some l := by unfold free; rw [h]; simp [e]
theorem of_free {b : Bs} {a : Addr} {l : Loc} (h : free ow b a = some l) : ow a = some l ∧ l.b ≠ b := by
  unfold free at h
  split at h
  · rename_i l' e
    split at h
    · cases h
    · rename_i n
      cases h
      exact ⟨e, n⟩
  · cases h
theorem app_b (l : Loc) (q : List Nat) : (l.app q).b = l.b := rfl
theorem Rep.free {d : D} {l : Loc} {v : V} {b : Bs} (h : Rep G ow H d l v) (n : l.b ≠ b) : Rep G (VL.free ow b) H d l v :=
  h.mono d (fun _ _ z _ => z) (fun _ _ z _ => z) (fun _ _ _ z => free_none z) fun a o q _ z => free_else z (by rw [app_b]; exact n)
theorem Rep.freeze {d : D} {l l' : Loc} {v : V} (h : Rep G ow H d l v) : Rep G (VL.free ow l.b) H (VL.frz d) l' v :=
  Rep.frz d (fun a o z q => ⟨z, by
    rcases q with q | ⟨q, e⟩
    · exact free_none q
    · exact free_at e (app_b l q)⟩) (fun _ _ z _ => z) h
/-- the slot j's tree is frozen -/
theorem StW.frzSl {j : Nat} {d : D} (S : StW G C ow r T s H) (e : r[j]? = some (some d)) : StW G C (free ow (.sl j)) (r.set j (some (frz d))) T s H where
  len := by simpa using S.len
  sl := fun i d' q => by
    by_cases hi : i = j
    · subst hi
      have hlt : i < r.length := (List.getElem?_eq_some_iff.mp e).1
      rw [List.getElem?_set_self hlt] at q
      cases q
      obtain ⟨v, h1, h2⟩ := S.sl i d e
      exact ⟨v, h1, h2.freeze⟩
    · rw [List.getElem?_set_ne (Ne.symm hi)] at q
      obtain ⟨v, h1, h2⟩ := S.sl i d' q
      exact ⟨v, h1, h2.free (fun z => hi (by injection z))⟩
  tm := fun k d' v q => (S.tm k d' v q).free (fun z => nomatch z)
  old := S.old
  own := fun a l q => S.own a l (of_free q).1
  fo := fun a q => free_else (S.fo a q) (fun z => nomatch z)
  mu := fun a l q => S.mu a l (of_free q).1
  pin := S.pin
theorem set_self {r : Rho} {j : Nat} {x : Option D} (h : r[j]? = some x) : r.set j x = r := by
  apply List.ext_getElem?
  intro i
  by_cases hi : i = j
  · subst hi
    rw [List.getElem?_set_self (List.getElem?_eq_some_iff.mp h).1, h]
  · rw [List.getElem?_set_ne (Ne.symm hi)]
/-- a frozen slot's value, once more -/
theorem StW.copy {j : Nat} {d : D} {v : V} (S : StW G C ow r T s H) (e : r[j]? = some (some d)) (f : frz d = d) (hv : s[j]? = some (some v)) : StW G C ow r (T ++ [(d, v)]) s H := by
  obtain ⟨v', h1, h2⟩ := S.sl j d e
  rw [hv] at h1
  cases h1
  exact S.push (Rep.moveF d f (fun a o z q => ⟨z, q⟩) (fun _ _ z _ => z) h2)
/-- the temporary k is frozen -/
theorem StW.frzTm {d : D} {v : V} (S : StW G C ow r (T1 ++ (d, v) :: T2) s H) : StW G C (VL.free ow (.tm T1.length)) r (T1 ++ (frz d, v) :: T2) s H where
  len := S.len
  sl := fun i d' q => by
    obtain ⟨v', h1, h2⟩ := S.sl i d' q
    exact ⟨v', h1, h2.free (fun z => nomatch z)⟩
  tm := fun k d' v' q => by
    by_cases hk : k = T1.length
    · subst hk
      have z : (T1 ++ (frz d, v) :: T2)[T1.length]? = some (frz d, v) := by simp
      rw [z] at q
      cases q
      exact Rep.freeze (l := ⟨.tm T1.length, []⟩) (S.tm T1.length d v (by simp))
    · refine (S.tm k d' v' ?_).free (fun z => hk (by injection z))
      by_cases hlt : k < T1.length
      · rw [List.getElem?_append_left hlt] at q ⊢; exact q
      · rw [List.getElem?_append_right (by omega)] at q ⊢
        obtain ⟨m, hm⟩ : ∃ m, k - T1.length = m + 1 := ⟨k - T1.length - 1, by omega⟩
        rw [hm] at q ⊢
        simpa using q
  old := S.old
  own := fun a l q => S.own a l (of_free q).1
  fo := fun a q => free_else (S.fo a q) (fun z => nomatch z)
  mu := fun a l q => S.mu a l (of_free q).1
  pin := S.pin

/-- the base b becomes the place l; what lay at the base l.b (if another) is dropped -/
def moved (ow : Ow) (b : Bs) (l : Loc) : Ow := fun a => match ow a with
  | some m => if m.b = b then some (l.app m.p) else some m
  | none => none
theorem moved_none {b : Bs} {l : Loc} {a : Addr} (h : ow a = none) : moved ow b l a = none := by unfold moved; rw [h]
theorem moved_at {b : Bs} {l m : Loc} {a : Addr} (h : ow a = some m) (e : m.b = b) : moved ow b l a = some (l.app m.p) := by unfold moved; rw [h]; simp [e]
theorem moved_else {b : Bs} {l m : Loc} {a : Addr} (h : ow a = some m) (e : m.b ≠ b) : moved ow b l a = some m := by unfold moved; rw [h]; simp [e]
theorem moved_some {b : Bs} {l m : Loc} {a : Addr} (h : moved ow b l a = some m) : ∃ m', ow a = some m' ∧ (m.b = l.b ∨ m.b = m'.b) := by
  unfold moved at h
  split at h
  · rename_i m' e
    refine ⟨m', e, ?_⟩
    split at h
    · cases h; exact .inl rfl
    · cases h; exact .inr rfl
  · cases h
theorem Rep.moved {d : D} {b : Bs} {l : Loc} {v : V} (h : Rep G ow H d ⟨b, []⟩ v) : Rep G (VL.moved ow b l) H d l v :=
  h.mono d (fun _ _ z _ => z) (fun _ _ z _ => z) (fun _ _ _ z => moved_none z) fun a o q _ z => by
    refine (moved_at z rfl).trans ?_
    simp [Loc.app]
theorem Rep.unmoved {d : D} {b : Bs} {l m : Loc} {v : V} (h : Rep G ow H d m v) (n : m.b ≠ b) : Rep G (VL.moved ow b l) H d m v :=
  h.mono d (fun _ _ z _ => z) (fun _ _ z _ => z) (fun _ _ _ z => moved_none z) fun a o q _ z => moved_else z (by rw [app_b]; exact n)
/-- a name is given the last temporary -/
theorem StW.set {i : Nat} {d : D} {v : V} (S : StW G C ow r (T ++ [(d, v)]) s H) (hp : ∀ p ∈ C.pin, p.1 ≠ i) : StW G C (VL.moved (free ow (.sl i)) (.tm T.length) ⟨.sl i, []⟩) (r.set i (some d)) T (s.set i (some v)) H where
  len := by simpa using S.len
  sl := fun j d' q => by
    by_cases hj : j = i
    · subst hj
      have hlt : j < r.length := by
        have := (List.getElem?_eq_some_iff.mp q).1
        simpa using this
      rw [List.getElem?_set_self hlt] at q
      cases q
      refine ⟨v, by rw [List.getElem?_set_self (by rw [← S.len]; exact hlt)], ?_⟩
      exact Rep.moved (Rep.free (b := .sl j) S.last (fun z => nomatch z))
    · rw [List.getElem?_set_ne (Ne.symm hj)] at q
      obtain ⟨v', h1, h2⟩ := S.sl j d' q
      refine ⟨v', by rw [List.getElem?_set_ne (Ne.symm hj)]; exact h1, ?_⟩
      exact Rep.unmoved (Rep.free (b := .sl i) h2 (fun z => hj (by injection z))) (fun z => nomatch z)
  tm := fun k d' v' q => by
    have hk : k < T.length := (List.getElem?_eq_some_iff.mp q).1
    have z := S.tm k d' v' (by rw [List.getElem?_append_left hk]; exact q)
    exact Rep.unmoved (b := .tm T.length) (Rep.free (b := .sl i) z (fun z => nomatch z)) (fun z => by injection z with z; omega)
  old := S.old
  own := fun a l q => by
    obtain ⟨m, z, e⟩ := moved_some q
    rcases S.own a m (of_free z).1 with h | h
    · unfold VL.moved at q
      rw [z] at q
      have n : m.b ≠ .tm T.length := by rw [h]; exact fun z => nomatch z
      simp only [if_neg n] at q
      cases q
      exact .inl h
    · exact .inr h
  fo := fun a q => moved_else (free_else (S.fo a q) (fun z => nomatch z)) (fun z => nomatch z)
  mu := fun a l q => by
    obtain ⟨m, z, _⟩ := moved_some q
    exact S.mu a m (of_free z).1
  pin := fun p hm => by
    rw [List.getElem?_set_ne (Ne.symm (hp p hm))]
    exact S.pin p hm
theorem StOk.set {i : Nat} {d : D} {v : V} (S : StOk G C r (T ++ [(d, v)]) s H) (hp : ∀ p ∈ C.pin, p.1 ≠ i) : StOk G C (r.set i (some d)) T (s.set i (some v)) H := let ⟨ow, W⟩ := S; ⟨_, W.set hp⟩
/-- a name is forgotten -/
theorem StOk.wipe1 {i : Nat} {x : Option V} (S : StOk G C r T s H) (hp : ∀ p ∈ C.pin, p.1 ≠ i) : StOk G C (r.set i none) T (s.set i x) H := by
  obtain ⟨ow, W⟩ := S
  refine ⟨ow, by simpa using W.len, fun j d q => ?_, W.tm, W.old, W.own, W.fo, W.mu, fun p hm => ?_⟩
  · by_cases hj : j = i
    · subst hj
      have hlt : j < r.length := by
        have := (List.getElem?_eq_some_iff.mp q).1
        simpa using this
      rw [List.getElem?_set_self hlt] at q
      cases q
    · rw [List.getElem?_set_ne (Ne.symm hj)] at q
      obtain ⟨v, h1, h2⟩ := W.sl j d q
      exact ⟨v, by rw [List.getElem?_set_ne (Ne.symm hj)]; exact h1, h2⟩
  · rw [List.getElem?_set_ne (Ne.symm (hp p hm))]
    exact W.pin p hm

/-- a new cell of the last temporaries -/
def laid (ow : Ow) (n : Nat) (a : Addr) (o : Bool) : Ow := fun b => if b = a then (if o = true then some ⟨.tm n, []⟩ else none) else match ow b with
  | some ⟨.tm j, p⟩ => if n ≤ j then some ⟨.tm n, (j - n) :: p⟩ else some ⟨.tm j, p⟩
  | x => x
theorem laid_none {n : Nat} {a b : Addr} {o : Bool} (h : ow b = none) (e : b ≠ a) : laid ow n a o b = none := by unfold laid; rw [if_neg e, h]
theorem laid_sl {n i : Nat} {a b : Addr} {o : Bool} {p : List Nat} (h : ow b = some ⟨.sl i, p⟩) (e : b ≠ a) : laid ow n a o b = some ⟨.sl i, p⟩ := by unfold laid; rw [if_neg e, h]
theorem laid_lo {n j : Nat} {a b : Addr} {o : Bool} {p : List Nat} (h : ow b = some ⟨.tm j, p⟩) (e : b ≠ a) (l : j < n) : laid ow n a o b = some ⟨.tm j, p⟩ := by
  unfold laid; rw [if_neg e, h]; exact if_neg (by omega)
theorem laid_hi {n j : Nat} {a b : Addr} {o : Bool} {p : List Nat} (h : ow b = some ⟨.tm j, p⟩) (e : b ≠ a) (l : n ≤ j) : laid ow n a o b = some ⟨.tm n, (j - n) :: p⟩ := by
  unfold laid; rw [if_neg e, h]; exact if_pos l
theorem StW.alloc {k : Kd} {o : Bool} {ho : HO} {ds : List D} {vs : List V} {a : Addr} (S : StW G C ow r (T ++ ds.zip vs) s H) (hl : ds.length = vs.length) (hn : H a = none) (hh : Holds G (upd H a ho) a k vs) (hm : o = true → OwnO (some ho)) :
    StW G C (laid ow T.length a o) r (T ++ [(.node k o ds, .ref a)]) s (upd H a ho) where
  len := S.len
  sl := fun i d q => by
    obtain ⟨v, h1, h2⟩ := S.sl i d q
    refine ⟨v, h1, Rep.mono (l := ⟨.sl i, []⟩) d (fun b o z _ => Ext.new hn b o z) (fun b o z _ => Ext.new hn b o z) (fun b o z e => laid_none e (ne_of_none z hn)) (fun b o q z e => laid_sl (p := [] ++ q) e (ne_of_none z hn)) h2⟩
  tm := fun j d v q => by
    by_cases hj : j < T.length
    · rw [List.getElem?_append_left hj] at q
      have z := S.tm j d v (by rw [List.getElem?_append_left hj]; exact q)
      exact Rep.mono (l := ⟨.tm j, []⟩) d (fun b o z _ => Ext.new hn b o z) (fun b o z _ => Ext.new hn b o z) (fun b o z e => laid_none e (ne_of_none z hn)) (fun b o q z e => laid_lo (p := [] ++ q) e (ne_of_none z hn) hj) z
    · rw [List.getElem?_append_right (by omega)] at q
      have e : j = T.length := by
        have := (List.getElem?_eq_some_iff.mp q).1
        simp at this; omega
      subst e
      simp at q
      obtain ⟨e1, e2⟩ := q
      subst e1; subst e2
      refine ⟨a, vs, rfl, hh, .mk ?_, Reps.of_get hl fun i d v e1 e2 => ?_⟩
      · unfold laid; rw [if_pos rfl]
      · have z := S.tm (T.length + i) d v (by
          rw [List.getElem?_append_right (by omega), Nat.add_sub_cancel_left]
          exact List.getElem?_zip_eq_some.mpr ⟨e1, e2⟩)
        refine Rep.mono (l := ⟨.tm (T.length + i), []⟩) d (fun b o z _ => Ext.new hn b o z) (fun b o z _ => Ext.new hn b o z) (fun b o z e => laid_none e (ne_of_none z hn)) (fun b o q z e => ?_) z
        rw [laid_hi (p := q) (by simpa [Loc.app] using e) (ne_of_none z hn) (by omega)]
        simp [Loc.app, Loc.sub]
  old := fun b u n q => Ext.new hn b u (S.old b u n q)
  own := fun b l q => by
    by_cases hb : b = a
    · subst hb
      cases e : C.H0 b with
      | none => exact .inr (.inl rfl)
      | some u =>
        by_cases hi : C.io b
        · exact .inr (.inr hi)
        · rw [S.old b u hi e] at hn; cases hn
    · cases e : ow b with
      | none => rw [laid_none e hb] at q; cases q
      | some m =>
        obtain ⟨mb, mp⟩ := m
        cases mb with
        | fo =>
          unfold laid at q
          rw [if_neg hb, e] at q
          cases q
          exact .inl rfl
        | sl i => exact (S.own b _ e).elim (fun z => nomatch z) .inr
        | tm i => exact (S.own b _ e).elim (fun z => nomatch z) .inr
  fo := fun b q => by
    have z := S.fo b q
    have hb : b ≠ a := fun x => by
      have m := S.mu b _ z
      rw [x, hn] at m
      exact m
    unfold laid
    rw [if_neg hb, z]
  mu := fun b l q => by
    by_cases hb : b = a
    · subst hb
      rw [upd_same]
      apply hm
      unfold laid at q
      rw [if_pos rfl] at q
      cases o with
      | true => rfl
      | false => cases q
    · rw [upd_ne hb]
      cases e : ow b with
      | none => rw [laid_none e hb] at q; cases q
      | some m => exact S.mu b m e
  pin := S.pin
theorem StOk.alloc {k : Kd} {ho : HO} {ds : List D} {vs : List V} {a : Addr} (o : Bool) (S : StOk G C r (T ++ ds.zip vs) s H) (hl : ds.length = vs.length) (hn : H a = none) (hh : Holds G (upd H a ho) a k vs) (hm : o = true → OwnO (some ho)) :
    StOk G C r (T ++ [(.node k o ds, .ref a)]) s (upd H a ho) := let ⟨ow, W⟩ := S; ⟨_, W.alloc hl hn hh hm⟩
theorem holds_lst {a : Addr} {vs : List V} : Holds G (upd H a (.lst vs)) a .lst vs := upd_same
theorem holds_tup {a : Addr} {vs : List V} : Holds G (upd H a (.tup vs)) a .tup vs := upd_same
end
end VL

namespace VL
open PySem PySem.Spec PyProof.Rows L2

/-- what an expression tells: a value of its own, or the very thing of a name -/
inductive R where
  | val (d : D) | loc (i : Nat)
inductive EO where
  | ok (x : R) (r : Rho) | exc (c : Nat) (r : Rho) | bad
abbrev Ev := Rho → EO
def opd (r : Rho) : R → Option D
  | .val d => some d
  | .loc i => match r[i]? with
    | some (some d) => some d
    | _ => none
def frzO : Option D → Option D
  | some d => some (frzB d)
  | none => none
/-- the parts of a thing have been handed on -/
def touch (r : Rho) : R → Rho
  | .val _ => r
  | .loc i => match r[i]? with
    | some (some d) => r.set i (some (frzB d))
    | _ => r
/-- a name's thing has been handed on -/
def settle (r : Rho) : R → Rho
  | .val _ => r
  | .loc i => match r[i]? with
    | some (some d) => r.set i (some (frz d))
    | _ => r
def pushR : R → V → List (D × V)
  | .val d, v => [(d, v)]
  | .loc _, _ => []
def LocOk (s : L2.St) (v : V) : R → Prop
  | .val _ => True
  | .loc i => s[i]? = some (some v)
def Post (G : GX) (C : Fc) (r : Rho) (T : List (D × V)) (s : L2.St) (H : Hp) (x : R) (v : V) : Prop := StOk G C r (T ++ pushR x v) s H ∧ LocOk s v x
abbrev TmB := List (D × V)
def tV (G : GX) (C : Fc) (W : WX) (f : Ev) : TE := fun s H Q => ∃ r T, StOk G C r T s H ∧ match f r with
  | .ok x r' => ∀ v H', Post G C r' T s H' x v → Q v H'
  | .exc c r' => ∀ H', StOk G C r' T s H' → W (.ref (G c)) none s H'
  | .bad => False
abbrev VE (X : Cx) (G : GX) (C : Fc) (W : WX) (e : Expr) (f : Ev) : Prop := PE X e (tV G C W f)
theorem PE.imp {X : Cx} {e : Expr} {t t' : TE} (h : PE X e t) (i : ∀ s H Q, t' s H Q → t s H Q) : PE X e t' := ⟨fun pins s σ H Q I w => h.run pins s σ H Q I (i _ _ _ w)⟩

section
variable {G : GX} {C : Fc} {ow ow' : Ow} {r : Rho} {T T1 T2 : List (D × V)} {s : L2.St} {H H' : Hp}
theorem Post.any {x : R} {v : V} (P : Post G C r T s H x v) : StOk G C r T s H := P.1.drop
theorem opd_loc {i : Nat} {d : D} (e : opd r (.loc i) = some d) : r[i]? = some (some d) := by
  have e' : (match r[i]? with | some (some d) => some d | _ => none) = some d := e
  cases q : r[i]? with
  | none => rw [q] at e'; cases e'
  | some x =>
    cases x with
    | none => rw [q] at e'; cases e'
    | some d' => rw [q] at e'; cases e'; rfl
theorem touch_loc {i : Nat} {d : D} (q : r[i]? = some (some d)) : touch r (.loc i) = r.set i (some (frzB d)) := by
  show (match r[i]? with | some (some d) => r.set i (some (frzB d)) | _ => r) = _
  rw [q]
theorem settle_loc {i : Nat} {d : D} (q : r[i]? = some (some d)) : settle r (.loc i) = r.set i (some (frz d)) := by
  show (match r[i]? with | some (some d) => r.set i (some (frz d)) | _ => r) = _
  rw [q]
/-- where an operand's tree stands -/
def base (n : Nat) : R → Loc
  | .val _ => ⟨.tm n, []⟩
  | .loc i => ⟨.sl i, []⟩
theorem opd_rep {x : R} {v : V} {d : D} (S : StW G C ow r (T ++ (pushR x v ++ T2)) s H) (h : LocOk s v x) (e : opd r x = some d) : Rep G ow H d (base T.length x) v := by
  cases x with
  | val d' =>
    cases e
    exact S.tm T.length d v (by simp [pushR])
  | loc i =>
    obtain ⟨v', h1, h2⟩ := S.sl i d (opd_loc e)
    have h' : s[i]? = some (some v) := h
    rw [h'] at h1
    cases h1
    exact h2

/-! ### frozen beneath -/
def freeU (ow : Ow) (b : Bs) : Ow := fun a => match ow a with
  | some l => if l.b = b ∧ l.p ≠ [] then none else some l
  | none => none
theorem freeU_none {b : Bs} {a : Addr} (h : ow a = none) : freeU ow b a = none := by unfold freeU; rw [h]
theorem freeU_at {b : Bs} {a : Addr} {l : Loc} (h : ow a = some l) (e : l.b = b) (p : l.p ≠ []) : freeU ow b a = none := by unfold freeU; rw [h]; simp [e, p]
theorem freeU_top {b : Bs} {a : Addr} (h : ow a = some ⟨b, []⟩) : freeU ow b a = some ⟨b, []⟩ := by unfold freeU; rw [h]; simp
theorem freeU_else {b : Bs} {a : Addr} {l : Loc} (h : ow a = some l) (e : l.b ≠ b) : freeU ow b a = some l := by unfold freeU; rw [h]; simp [e]
theorem of_freeU {b : Bs} {a : Addr} {l : Loc} (h : freeU ow b a = some l) : ow a = some l := by
  unfold freeU at h
  split at h
  · rename_i l' e
    split at h
    · cases h
    · cases h
      exact e
  · cases h
theorem Rep.freeU {d : D} {l : Loc} {v : V} {b : Bs} (h : Rep G ow H d l v) (n : l.b ≠ b) : Rep G (VL.freeU ow b) H d l v :=
  h.mono d (fun _ _ z _ => z) (fun _ _ z _ => z) (fun _ _ _ z => freeU_none z) fun a o q _ z => freeU_else z (by rw [app_b]; exact n)
theorem Reps.freeU {ds : List D} {l : Loc} {i : Nat} {vs : List V} {b : Bs} (h : Reps G ow H ds l i vs) (n : l.b ≠ b) : Reps G (VL.freeU ow b) H ds l i vs :=
  h.mono ds (fun _ _ z _ => z) (fun _ _ z _ => z) (fun _ _ _ z => freeU_none z) fun a o q _ z => freeU_else z (by rw [app_b]; exact n)
/-- the children of a tree at a base, frozen: at any place -/
theorem Reps.under {xs : List D} {b : Bs} {i j : Nat} {l' : Loc} {vs : List V} (h : Reps G ow H xs ⟨b, []⟩ i vs) : Reps G (VL.freeU ow b) H (VL.frzs xs) l' j vs := by
  have go : ∀ (xs : List D) (i j : Nat) (vs : List V), Reps G ow H xs ⟨b, []⟩ i vs → Reps G (VL.freeU ow b) H (VL.frzs xs) l' j vs := by
    intro xs
    induction xs with
    | nil => intro i j vs h; exact h
    | cons d ds ih =>
      intro i j vs h
      obtain ⟨v, ws, e, h1, h2⟩ := h
      refine ⟨v, ws, e, ?_, ih (i + 1) (j + 1) ws h2⟩
      refine Rep.frz (l := Loc.sub ⟨b, []⟩ i) d (fun a o z q => ⟨z, ?_⟩) (fun _ _ z _ => z) h1
      rcases q with q | ⟨q, e⟩
      · exact freeU_none q
      · exact freeU_at e rfl (by simp [Loc.sub, Loc.app])
  exact go xs i j vs h
theorem frzB_node {k : Kd} {o : Bool} {xs : List D} : frzB (.node k o xs) = .node k o (frzs xs) := rfl
theorem StW.under {i : Nat} {k : Kd} {o : Bool} {xs : List D} (S : StW G C ow r T s H) (e : r[i]? = some (some (.node k o xs))) : StW G C (VL.freeU ow (.sl i)) (r.set i (some (.node k o (frzs xs)))) T s H where
  len := by simpa using S.len
  sl := fun j d' q => by
    by_cases hi : j = i
    · subst hi
      have hlt : j < r.length := (List.getElem?_eq_some_iff.mp e).1
      rw [List.getElem?_set_self hlt] at q
      cases q
      obtain ⟨v, h1, a, vs, ev, h2, h3, h4⟩ := S.sl j _ e
      refine ⟨v, h1, a, vs, ev, h2, ?_, h4.under⟩
      rcases h3.cases with hk | h3
      · subst hk; trivial
      refine .mk ?_
      cases o with
      | true => exact freeU_top (by simpa using h3)
      | false => exact freeU_none (by simpa using h3)
    · rw [List.getElem?_set_ne (Ne.symm hi)] at q
      obtain ⟨v, h1, h2⟩ := S.sl j d' q
      exact ⟨v, h1, h2.freeU (fun z => hi (by injection z))⟩
  tm := fun k d' v q => (S.tm k d' v q).freeU (fun z => nomatch z)
  old := S.old
  own := fun a l q => S.own a l (of_freeU q)
  fo := fun a q => freeU_else (S.fo a q) (fun z => nomatch z)
  mu := fun a l q => S.mu a l (of_freeU q)
  pin := S.pin
/-- frozen trees beside the state: pushed one by one -/
theorem StW.pushFs : ∀ {ds : List D} {T : List (D × V)} {l : Loc} {i : Nat} {vs : List V}, StW G C ow r T s H → frzs ds = ds → Reps G ow H ds l i vs → StW G C ow r (T ++ ds.zip vs) s H
  | [], T, _, _, _, S, _, _ => by simpa using S
  | d :: ds, T, l, i, vs, S, e, h => by
    obtain ⟨v, ws, ev, h1, h2⟩ := h
    have e' : frz d :: frzs ds = d :: ds := e
    injection e' with e1 e2
    subst ev
    have S1 := S.push (d := d) (v := v) (Rep.moveF d e1 (fun a o z q => ⟨z, q⟩) (fun _ _ z _ => z) h1)
    have S2 := StW.pushFs S1 e2 h2
    simpa using S2
theorem Reps.app {ds es : List D} {l : Loc} {vs ws : List V} (e1 : VL.frzs ds = ds) (e2 : VL.frzs es = es) (h1 : Reps G ow H ds l 0 vs) (h2 : Reps G ow H es l 0 ws) : Reps G ow H (ds ++ es) l 0 (vs ++ ws) := by
  refine Reps.of_get (by rw [List.length_append, List.length_append, h1.length, h2.length]) fun j d v q1 q2 => ?_
  by_cases hj : j < ds.length
  · rw [List.getElem?_append_left hj] at q1
    rw [List.getElem?_append_left (by rw [← h1.length]; exact hj)] at q2
    obtain ⟨v', z1, z2⟩ := h1.get j d q1
    rw [q2] at z1; cases z1
    exact z2
  · rw [List.getElem?_append_right (by omega)] at q1
    rw [List.getElem?_append_right (by rw [← h1.length]; omega)] at q2
    rw [← h1.length] at q2
    obtain ⟨v', z1, z2⟩ := h2.get (j - ds.length) d q1
    rw [q2] at z1; cases z1
    have f : VL.frz d = d := by
      have := congrArg (·[j - ds.length]?) e2
      simp only [frzs_map, List.getElem?_map, q1, Option.map_some] at this
      exact Option.some.inj this
    exact Rep.moveF d f (fun a o z q => ⟨z, q⟩) (fun _ _ z _ => z) z2
/-- an operand's parts, frozen; the operand itself is dropped where it is a temporary -/
theorem StW.parts {x : R} {v : V} {k : Kd} {o : Bool} {xs : List D} (S : StW G C ow r (T ++ pushR x v) s H) (hl : LocOk s v x) (e : opd r x = some (.node k o xs)) :
    ∃ ow' a vs, StW G C ow' (touch r x) T s H ∧ v = .ref a ∧ Holds G H a k vs ∧ (∀ l, Reps G ow' H (frzs xs) l 0 vs) ∧ (∀ b, ow b = none → ow' b = none) := by
  cases x with
  | val d' =>
    cases e
    obtain ⟨a, vs, ev, h1, h2, h3⟩ := S.last
    have S' := (show StW G C ow r (T ++ (D.node k o xs, v) :: []) s H from S).frzTm
    refine ⟨_, a, vs, S'.drop, ev, h1, fun l => ?_, fun b z => free_none z⟩
    exact Reps.frz (l := ⟨.tm T.length, []⟩) xs (fun b u z q => ⟨z, by
      rcases q with q | ⟨q, e⟩
      · exact free_none q
      · exact free_at e rfl⟩) (fun _ _ z _ => z) h3
  | loc i =>
    have q := opd_loc e
    obtain ⟨v', h1, a, vs, ev, h2, h3, h4⟩ := S.sl i _ q
    have h' : s[i]? = some (some v) := hl
    rw [h'] at h1
    cases h1
    have S' := S.under q
    refine ⟨_, a, vs, ?_, ev, h2, fun l => h4.under, fun b z => freeU_none z⟩
    rw [touch_loc q]
    exact S'.drop
end
end VL

namespace VL
open PySem PySem.Spec PyProof.Rows L2

def EO.bd (x : EO) (k : R → Rho → EO) : EO := match x with
  | .ok y r => k y r
  | .exc c r => .exc c r
  | .bad => .bad
@[simp] theorem bd_ok (y : R) (r : Rho) (k : R → Rho → EO) : (EO.ok y r).bd k = k y r := rfl
@[simp] theorem bd_exc (c : Nat) (r : Rho) (k : R → Rho → EO) : (EO.exc c r).bd k = .exc c r := rfl
@[simp] theorem bd_bad (k : R → Rho → EO) : EO.bad.bd k = .bad := rfl
/-- what is wanted of a meaning -/
def Goes (G : GX) (C : Fc) (W : WX) (T : List (D × V)) (s : L2.St) (Q : VK) (o : EO) : Prop := match o with
  | .ok x r' => ∀ v H', Post G C r' T s H' x v → Q v H'
  | .exc c r' => ∀ H', StOk G C r' T s H' → W (.ref (G c)) none s H'
  | .bad => False
section
variable {X : Cx} {G : GX} {C : Fc} {W : WX} {ow ow' : Ow} {r : Rho} {T T1 T2 : List (D × V)} {s : L2.St} {H H' : Hp} {fa fb fc : Ev}
theorem tV_def {f : Ev} {Q : VK} : tV G C W f s H Q = ∃ r T, StOk G C r T s H ∧ Goes G C W T s Q (f r) := rfl
theorem Goes.more {Q : VK} {o : EO} (h : Goes G C W T s Q o) : Goes G C W (T ++ T2) s (fun v H' => ∀ x r', o = .ok x r' → Post G C r' T s H' x v → Q v H') o := by
  cases o with
  | ok x r' => exact fun v H' _ y r'' e P => h v H' (by cases e; exact P)
  | exc c r' => exact fun H' S => h H' S.drop
  | bad => exact h
/-- one operand -/
theorem one {k : R → Rho → EO} {Q : VK} {K : V → Hp → Prop} (S : StOk G C r T s H) (h : Goes G C W T s Q ((fa r).bd k))
    (hk : ∀ x v r1 H1, Post G C r1 T s H1 x v → Goes G C W T s Q (k x r1) → K v H1) : tV G C W fa s H K := by
  refine ⟨r, T, S, ?_⟩
  cases e : fa r with
  | ok x r1 =>
    rw [e] at h
    exact fun v H1 P => hk x v r1 H1 P h
  | exc c r1 => rw [e] at h; exact h
  | bad => rw [e] at h; exact h
/-- two, one behind the other -/
theorem two {k : R → R → Rho → EO} {Q : VK} {K : V → V → Hp → Prop} (S : StOk G C r T s H) (h : Goes G C W T s Q ((fa r).bd fun x r1 => (fb r1).bd (k x)))
    (hk : ∀ x y v u r2 H2, StOk G C r2 (T ++ (pushR x v ++ pushR y u)) s H2 → LocOk s v x → LocOk s u y → Goes G C W T s Q (k x y r2) → K v u H2) :
    tV G C W fa s H fun v H1 => tV G C W fb s H1 fun u H2 => K v u H2 := by
  refine one S h fun x v r1 H1 P h1 => ?_
  refine ⟨r1, T ++ pushR x v, P.1, ?_⟩
  cases e : fb r1 with
  | ok y r2 =>
    rw [e] at h1
    exact fun u H2 P2 => hk x y v u r2 H2 (by rw [← List.append_assoc]; exact P2.1) P.2 P2.2 h1
  | exc c r2 => rw [e] at h1; exact fun H' S' => h1 H' S'.drop
  | bad => rw [e] at h1; exact h1

/-! ### names and constants -/
def cVar (i : Nat) : Ev := fun r => match r[i]? with
  | some (some d) => if atom d = true then .ok (.val d) r else .ok (.loc i) r
  | _ => .bad
theorem ve_var {i : Nat} {x : Str} {pos : Pos} (hN : X.N[i]? = some x) (hv : Vis X.env.scope x) (hd : (x == ("__debug__" : Str)) = false := by decide) (hcd : (x == ("__classdict__" : Str)) = false := by decide) : VE X G C W (.Name x pos) (cVar i) := by
  refine PE.imp (pe_var hN hv hd hcd) fun s H Q h => ?_
  obtain ⟨r, T, S, g⟩ := h
  unfold cVar at g
  cases q : r[i]? with
  | none => rw [q] at g; exact g.elim
  | some o =>
    cases o with
    | none => rw [q] at g; exact g.elim
    | some d =>
      rw [q] at g
      obtain ⟨ow, S⟩ := S
      obtain ⟨v, h1, h2⟩ := S.sl i d q
      refine ⟨v, h1, ?_⟩
      by_cases a : atom d = true
      · simp only [a, if_true] at g
        exact g v H ⟨⟨ow, S.push (h2.of_atom a)⟩, trivial⟩
      · simp only [a, if_false] at g
        exact g v H ⟨⟨ow, by simpa [pushR] using S⟩, h1⟩
def cC (d : D) : Ev := fun r => .ok (.val d) r
theorem ve_c {e : Expr} {v : V} {d : D} (h : PE X e (tC v)) (a : atom d = true) (hr : ∀ ow H l, Rep G ow H d l v) : VE X G C W e (cC d) := by
  refine PE.imp h fun s H Q h => ?_
  obtain ⟨r, T, S, g⟩ := h
  exact g v H ⟨S.pushA a fun ow l => hr ow H l, trivial⟩
theorem ve_int {i j pos} : VE X G C W (.Constant (.int i) j pos) (cC (.int i)) := ve_c pe_int rfl fun _ _ _ => rfl
theorem ve_bl {b j pos} : VE X G C W (.Constant (.bool b) j pos) (cC (.bl b)) := ve_c pe_bl rfl fun _ _ _ => rfl
theorem ve_non {j pos} : VE X G C W (.Constant .none j pos) (cC .non) := ve_c pe_non rfl fun _ _ _ => rfl
theorem ve_str {x j pos} : VE X G C W (.Constant (.str x) j pos) (cC (.str x)) := ve_c pe_str rfl fun _ _ _ => rfl
theorem ve_gint {x : Str} {i : Int} {t : Tok} {pos : Pos} (hg : Gl X x) (hm : X.mg x = some (.int i t)) (hd : (x == ("__debug__" : Str)) = false := by decide) : VE X G C W (.Name x pos) (cC (.int i)) :=
  ve_c (pe_glob (v := .int i) hg hm ⟨t, rfl⟩ hd) rfl fun _ _ _ => rfl
theorem ve_gstr {x : Str} {i : Str} {t : Tok} {pos : Pos} (hg : Gl X x) (hm : X.mg x = some (.str i t)) (hd : (x == ("__debug__" : Str)) = false := by decide) : VE X G C W (.Name x pos) (cC (.str i)) :=
  ve_c (pe_glob (v := .str i) hg hm ⟨t, rfl⟩ hd) rfl fun _ _ _ => rfl

/-! ### operations of two operands -/
abbrev G2 := R → R → Rho → EO
/-- the operation f does what g says -/
def OpS (X : Cx) (f : Value → Value → Sem Value) (g : G2) : Prop := ∃ rr, OpR X f rr ∧ ∀ (G : GX) (C : Fc) (W : WX) (r : Rho) (T : List (D × V)) (s : L2.St) (H : Hp) (x y : R) (v u : V) (Q : VK),
  StOk G C r (T ++ (pushR x v ++ pushR y u)) s H → LocOk s v x → LocOk s u y → Goes G C W T s Q (g x y r) → rr v u H Q
def cBin (g : G2) (fa fb : Ev) : Ev := fun r => (fa r).bd fun x r1 => (fb r1).bd fun y r2 => g x y r2
theorem ve_bin {op : Operator} {g : G2} {a b : Expr} {pos : Pos} (ho : OpS X (binaryOp op) g) (ha : VE X G C W a fa) (hb : VE X G C W b fb) : VE X G C W (.BinOp a op b pos) (cBin g fa fb) := by
  obtain ⟨rr, h1, h2⟩ := ho
  refine PE.imp (pe_op h1 ha hb) fun s H Q h => ?_
  obtain ⟨r, T, S, g⟩ := h
  exact two S g fun x y v u r2 H2 S2 lx ly g2 => h2 G C W r2 T s H2 x y v u Q S2 lx ly g2
theorem ve_cmp {op : CmpOp} {g : G2} {a b : Expr} {pos : Pos} (ho : OpS X (compareOp op) g) (ha : VE X G C W a fa) (hb : VE X G C W b fb) (hm : behindInMarks op b = false) : VE X G C W (.Compare a [op] [b] pos) (cBin g fa fb) := by
  obtain ⟨rr, h1, h2⟩ := ho
  refine PE.imp (pe_cmpR h1 ha hb hm) fun s H Q h => ?_
  obtain ⟨r, T, S, g⟩ := h
  exact two S g fun x y v u r2 H2 S2 lx ly g2 => h2 G C W r2 T s H2 x y v u Q S2 lx ly g2

/-- a scalar out of two operands -/
def g2 (f : D → D → Option D) : G2 := fun x y r => match opd r x, opd r y with
  | some d, some e => (match f d e with
    | some z => if atom z = true then .ok (.val z) r else .bad
    | none => .bad)
  | _, _ => .bad
theorem OpS.scal {f : Value → Value → Sem Value} {rr : R2} {g : D → D → Option D} (h : OpR X f rr)
    (hr : ∀ (G : GX) (ow : Ow) (H : Hp) (d e z : D) (l m : Loc) (v u : V) (Q : VK), Rep G ow H d l v → Rep G ow H e m u → g d e = some z → (∀ w, (∀ ow l, Rep G ow H z l w) → Q w H) → rr v u H Q) : OpS X f (g2 g) := by
  refine ⟨rr, h, fun G C W r T s H x y v u Q S lx ly q => ?_⟩
  obtain ⟨ow, S⟩ := S
  unfold g2 at q
  cases e1 : opd r x with
  | none => rw [e1] at q; exact q.elim
  | some d =>
    cases e2 : opd r y with
    | none => rw [e1, e2] at q; exact q.elim
    | some e =>
      rw [e1, e2] at q
      cases e3 : g d e with
      | none => simp only [e3] at q; exact q.elim
      | some z =>
        simp only [e3] at q
        by_cases a : atom z = true
        · rw [if_pos a] at q
          refine hr G ow H d e z _ _ v u Q (opd_rep S lx e1) (opd_rep (T := T ++ pushR x v) (T2 := []) (by rw [List.append_nil, List.append_assoc]; exact S) ly e2) e3 fun w hw => ?_
          exact q w H ⟨StOk.pushA ⟨ow, S.drop⟩ a hw, trivial⟩
        · rw [if_neg a] at q
          exact q.elim
theorem rep_int {ow : Ow} {i : Int} {l : Loc} {v : V} (h : Rep G ow H (.int i) l v) : v = .int i := h
theorem rep_bl {ow : Ow} {b : Bool} {l : Loc} {v : V} (h : Rep G ow H (.bl b) l v) : v = .bl b := h
theorem rep_str {ow : Ow} {b : Str} {l : Loc} {v : V} (h : Rep G ow H (.str b) l v) : v = .str b := h
theorem rep_non {ow : Ow} {l : Loc} {v : V} (h : Rep G ow H .non l v) : v = .non := h
/-- ints in, ints out, where ok holds -/
def fI (ok : Int → Int → Bool) (g : Int → Int → D) : D → D → Option D
  | .int i, .int j => if ok i j = true then some (g i j) else none
  | _, _ => none
@[simp] theorem fI_int (ok : Int → Int → Bool) (g : Int → Int → D) (i j : Int) : fI ok g (.int i) (.int j) = if ok i j = true then some (g i j) else none := rfl
theorem OpS.ints {f : Value → Value → Sem Value} {P : Int → Int → Prop} {ok : Int → Int → Bool} {g : Int → Int → V} {gd : Int → Int → D} (h : OpR X f (rI P g)) (hp : ∀ i j, ok i j = true → P i j)
    (hg : ∀ G ow H l i j, Rep G ow H (gd i j) l (g i j)) : OpS X f (g2 (fI ok gd)) := by
  refine OpS.scal h fun G ow H d e z l m v u Q h1 h2 e3 q => ?_
  cases d with
  | int i =>
    cases e with
    | int j =>
      rw [fI_int] at e3
      by_cases a : ok i j = true
      · rw [if_pos a] at e3
        cases e3
        exact ⟨i, j, h1, h2, hp i j a, q _ fun _ _ => hg _ _ _ _ i j⟩
      · rw [if_neg a] at e3; cases e3
    | _ => cases e3
  | _ => cases e <;> cases e3
theorem rI_of0 {f : Value → Value → Sem Value} {g : Int → Int → V} (h : OpR X f (rI0 g)) : OpR X f (rI (fun _ _ => True) g) := by
  intro pins s σ H x y v u Q I rx ry q
  obtain ⟨i, j, e1, e2, _, q⟩ := q
  exact h pins s σ H x y v u Q I rx ry ⟨i, j, e1, e2, q⟩
def yes2 : Int → Int → Bool := fun _ _ => true
@[simp] theorem yes2_eq (i j : Int) : yes2 i j = true := rfl
def gLt : G2 := g2 (fI yes2 fun i j => .bl (decide (i < j)))
def gLe : G2 := g2 (fI yes2 fun i j => .bl (decide (i ≤ j)))
def gGt : G2 := g2 (fI yes2 fun i j => .bl (decide (j < i)))
def gGe : G2 := g2 (fI yes2 fun i j => .bl (decide (j ≤ i)))
theorem os_lt : OpS X (compareOp .Lt) gLt := .ints (rI_of0 op_lt) (fun _ _ _ => trivial) fun _ _ _ _ _ _ => rfl
theorem os_le : OpS X (compareOp .LtE) gLe := .ints (rI_of0 op_le) (fun _ _ _ => trivial) fun _ _ _ _ _ _ => rfl
theorem os_gt : OpS X (compareOp .Gt) gGt := .ints (rI_of0 op_gt) (fun _ _ _ => trivial) fun _ _ _ _ _ _ => rfl
theorem os_ge : OpS X (compareOp .GtE) gGe := .ints (rI_of0 op_ge) (fun _ _ _ => trivial) fun _ _ _ _ _ _ => rfl
def gSub : G2 := g2 (fI yes2 fun i j => .int (i - j))
theorem os_sub : OpS X (binaryOp .Sub) gSub := .ints (rI_of0 op_sub) (fun _ _ _ => trivial) fun _ _ _ _ _ _ => rfl
theorem os_isub : OpS X (inplaceOp .Sub) gSub := .ints (rI_of0 iop_sub) (fun _ _ _ => trivial) fun _ _ _ _ _ _ => rfl
def divOk (_ j : Int) : Bool := decide (0 < j) && (decide (j.natAbs < 1073741824) || decide (j.natAbs.log2 < 9000))
theorem op_fdivA : OpR X (binaryOp .FloorDiv) (rI (fun i j => CDiv i j ∨ CDivW i j) fun i j => .int (i / j)) := by
  intro pins s σ H x y v u Q I rx ry q
  obtain ⟨i, j, e1, e2, c | c, q⟩ := q
  · exact op_fdiv pins s σ H x y v u Q I rx ry ⟨i, j, e1, e2, c, q⟩
  · exact op_fdivW pins s σ H x y v u Q I rx ry ⟨i, j, e1, e2, c, q⟩
theorem divOk_of {i j : Int} (h : divOk i j = true) : CDiv i j ∨ CDivW i j := by
  unfold divOk at h
  simp only [Bool.and_eq_true, Bool.or_eq_true, decide_eq_true_eq] at h
  rcases h with ⟨h0, h | h⟩
  · exact .inl ⟨h0, by omega⟩
  · exact .inr ⟨h0, h⟩
def gDiv : G2 := g2 (fI divOk fun i j => .int (i / j))
theorem os_div : OpS X (binaryOp .FloorDiv) gDiv := .ints op_fdivA (fun _ _ h => divOk_of h) fun _ _ _ _ _ _ => rfl
def posOk (_ j : Int) : Bool := decide (0 < j)
def gMod : G2 := g2 (fI posOk fun i j => .int (i % j))
theorem os_mod : OpS X (binaryOp .Mod) gMod := .ints op_mod (fun _ _ h => of_decide_eq_true h) fun _ _ _ _ _ _ => rfl
def powOk (i j : Int) : Bool := decide (0 ≤ j) && decide (j.natAbs ≤ 1000000) && decide (i.natAbs < 2 ^ 64)
theorem powOk_of {i j : Int} (h : powOk i j = true) : CPow i j := by
  unfold powOk at h
  simp only [Bool.and_eq_true, decide_eq_true_eq] at h
  exact ⟨h.1.1, by have := h.1.2; omega, h.2⟩
def gPow : G2 := g2 (fI powOk fun i j => .int (i ^ j.toNat))
theorem os_pow : OpS X (binaryOp .Pow) gPow := .ints op_pow (fun _ _ h => powOk_of h) fun _ _ _ _ _ _ => rfl
def gShl : G2 := g2 (fI powOk fun i j => .int (i * 2 ^ j.toNat))
theorem os_shl : OpS X (binaryOp .LShift) gShl := .ints op_shl (fun _ _ h => powOk_of h) fun _ _ _ _ _ _ => rfl
def mulOk (i j : Int) : Bool := decide (i.natAbs < 2 ^ 64) || decide (j.natAbs < 2 ^ 64) || decide ((Builtin.Int.intBits i : Int) + (Builtin.Int.intBits j : Int) ≤ 134217728)
theorem mulOk_of {i j : Int} (h : mulOk i j = true) : IntMulOk i j := by
  unfold mulOk at h
  simp only [Bool.or_eq_true, decide_eq_true_eq] at h
  rcases h with (h | h) | h
  · exact CMul.ok (.inl ⟨by omega, by omega⟩)
  · exact CMul.ok (.inr ⟨by omega, by omega⟩)
  · exact CMulX.ok h
theorem op_mulA : OpR X (binaryOp .Mult) (rI IntMulOk fun i j => .int (i * j)) := opI fun _ _ _ _ _ _ _ hc q => mul_int q hc

/-! ### lists out of lists -/
/-- a new list of frozen parts -/
theorem StW.made {ds : List D} {vs : List V} {l : Loc} {i : Nat} {Q : VK} (S : StW G C ow r T s H) (e : frzs ds = ds) (h : Reps G ow H ds l i vs) (hq : ∀ v H', Post G C r T s H' (.val (.node .lst true ds)) v → Q v H') :
    ∀ p, H p = none → Q (.ref p) (upd H p (.lst vs)) := fun p hp =>
  hq _ _ ⟨StOk.alloc true ⟨ow, S.pushFs e h⟩ h.length hp holds_lst (fun _ => trivial), trivial⟩
theorem touch_opd {x y : R} {k : Kd} {o : Bool} {xs : List D} (e : opd r x = some (.node k o xs)) : opd (touch r y) x = some (.node k o xs) ∨ opd (touch r y) x = some (.node k o (frzs xs)) := by
  cases x with
  | val d => exact .inl e
  | loc i =>
    have q := opd_loc e
    cases y with
    | val d => exact .inl e
    | loc j =>
      by_cases hij : j = i
      · subst hij
        refine .inr ?_
        have hlt : j < r.length := (List.getElem?_eq_some_iff.mp q).1
        rw [touch_loc q]
        show (match (r.set j (some (frzB (.node k o xs))))[j]? with | some (some d) => some d | _ => none) = _
        rw [List.getElem?_set_self hlt]
        rfl
      · refine .inl ?_
        cases q' : r[j]? with
        | none =>
          have : touch r (.loc j) = r := by show (match r[j]? with | some (some d) => r.set j (some (frzB d)) | _ => r) = _; rw [q']
          rw [this]; exact e
        | some o' =>
          cases o' with
          | none =>
            have : touch r (.loc j) = r := by show (match r[j]? with | some (some d) => r.set j (some (frzB d)) | _ => r) = _; rw [q']
            rw [this]; exact e
          | some d' =>
            rw [touch_loc q']
            show (match (r.set j (some (frzB d')))[i]? with | some (some d) => some d | _ => none) = _
            rw [List.getElem?_set_ne hij, q]
/-- the parts of two operands, both dropped -/
theorem StW.parts2 {x y : R} {v u : V} {k k' : Kd} {o o' : Bool} {xs ys : List D} (S : StW G C ow r (T ++ (pushR x v ++ pushR y u)) s H) (lx : LocOk s v x) (ly : LocOk s u y) (e1 : opd r x = some (.node k o xs)) (e2 : opd r y = some (.node k' o' ys)) :
    ∃ ow' a b vs us, StW G C ow' (touch (touch r y) x) T s H ∧ v = .ref a ∧ u = .ref b ∧ Holds G H a k vs ∧ Holds G H b k' us ∧ (∀ l, Reps G ow' H (frzs xs) l 0 vs) ∧ (∀ l, Reps G ow' H (frzs ys) l 0 us) := by
  obtain ⟨ow1, b, us, S1, eu, hb, ry, n1⟩ := StW.parts (T := T ++ pushR x v) (by rw [List.append_assoc]; exact S) ly e2
  have go : ∀ xs', opd (touch r y) x = some (.node k o xs') → frzs xs' = frzs xs →
      ∃ ow' a b vs us, StW G C ow' (touch (touch r y) x) T s H ∧ v = .ref a ∧ u = .ref b ∧ Holds G H a k vs ∧ Holds G H b k' us ∧ (∀ l, Reps G ow' H (frzs xs) l 0 vs) ∧ (∀ l, Reps G ow' H (frzs ys) l 0 us) := fun xs' e' ef => by
    obtain ⟨ow2, a, vs, S2, ev, ha, rx, n2⟩ := S1.parts lx e'
    refine ⟨ow2, a, b, vs, us, S2, ev, eu, ha, hb, fun l => by rw [← ef]; exact rx l, fun l => ?_⟩
    exact Reps.moveF _ (frzs_frzs ys) (fun c ob z q => ⟨z, n2 c q⟩) (fun _ _ z _ => z) (ry l)
  rcases touch_opd (y := y) e1 with e' | e'
  · exact go xs e' rfl
  · exact go _ e' (frzs_frzs xs)
/-- a + b -/
@[irreducible] def gAdd : G2 := fun x y r => match opd r x, opd r y with
  | some (.int i), some (.int j) => .ok (.val (.int (i + j))) r
  | some (.int i), some (.bl k) => .ok (.val (.int (i + b2i k))) r
  | some (.str a), some (.str b) => if a.length + b.length ≤ 16777216 then .ok (.val (.str (a ++ b))) r else .bad
  | some (.node .lst _ xs), some (.node .lst _ ys) => if xs.length + ys.length ≤ 16777216 then .ok (.val (.node .lst true (frzs xs ++ frzs ys))) (touch (touch r y) x) else .bad
  | _, _ => .bad
theorem frzs_append (xs ys : List D) : frzs (xs ++ ys) = frzs xs ++ frzs ys := by simp [frzs_map]
theorem frzs_length (xs : List D) : (frzs xs).length = xs.length := by simp [frzs_map]
theorem goes_val {z : D} {Q : VK} (h : Goes G C W T s Q (.ok (.val z) r)) (S : StOk G C r T s H) (a : atom z = true) {w : V} (hw : ∀ ow l, Rep G ow H z l w) : Q w H := h w H ⟨S.pushA a hw, trivial⟩
theorem os_add_of {f : Value → Value → Sem Value} (h1 : OpR X f (rI0 fun i j => .int (i + j))) (h2 : OpR X f (fun x y H Q => ∃ i k, x = .int i ∧ y = .bl k ∧ Q (.int (i + b2i k)) H))
    (h3 : OpR X f (fun x y H Q => ∃ i j, x = .str i ∧ y = .str j ∧ i.length + j.length ≤ sizeLine ∧ Q (.str (i ++ j)) H)) (h4 : OpR X f rCat) : OpS X f gAdd := by
  refine ⟨_, h1.or (h2.or (h3.or h4)), fun G C W r T s H x y v u Q S lx ly q => ?_⟩
  obtain ⟨ow, S⟩ := S
  unfold gAdd at q
  split at q
  · rename_i i j e1 e2
    have a1 := opd_rep S lx e1
    have a2 := opd_rep (T := T ++ pushR x v) (T2 := []) (by rw [List.append_nil, List.append_assoc]; exact S) ly e2
    exact .inl ⟨i, j, a1, a2, goes_val q ⟨ow, S.drop⟩ rfl fun _ _ => rfl⟩
  · rename_i i k e1 e2
    have a1 := opd_rep S lx e1
    have a2 := opd_rep (T := T ++ pushR x v) (T2 := []) (by rw [List.append_nil, List.append_assoc]; exact S) ly e2
    exact .inr (.inl ⟨i, k, a1, a2, goes_val q ⟨ow, S.drop⟩ rfl fun _ _ => rfl⟩)
  · rename_i i j e1 e2
    have a1 := opd_rep S lx e1
    have a2 := opd_rep (T := T ++ pushR x v) (T2 := []) (by rw [List.append_nil, List.append_assoc]; exact S) ly e2
    split at q
    · rename_i hz
      exact .inr (.inr (.inl ⟨i, j, a1, a2, by rw [sizeLine_eq]; exact hz, goes_val q ⟨ow, S.drop⟩ rfl fun _ _ => rfl⟩))
    · exact q.elim
  · rename_i o1 xs o2 ys e1 e2
    split at q
    · rename_i hz
      obtain ⟨ow', a, b, vs, us, S', ev, eu, ha, hb, rx, ry⟩ := S.parts2 lx ly e1 e2
      subst ev; subst eu
      have l1 := (rx ⟨.fo, []⟩).length
      have l2 := (ry ⟨.fo, []⟩).length
      rw [frzs_length] at l1 l2
      refine .inr (.inr (.inr ⟨a, b, vs, us, rfl, rfl, ha, hb, by rw [sizeLine_eq, ← l1, ← l2]; exact hz, ?_⟩))
      exact S'.made (l := ⟨.fo, []⟩) (i := 0) (by rw [frzs_append, frzs_frzs, frzs_frzs]) (Reps.app (frzs_frzs xs) (frzs_frzs ys) (rx _) (ry _)) q
    · exact q.elim
  · exact q.elim
theorem os_add : OpS X (binaryOp .Add) gAdd := os_add_of op_add op_add_ib op_add_str op_cat
end
end VL

namespace VL
open PySem PySem.Spec PyProof.Rows L2

theorem reps_flat {G : GX} {ow : Ow} {H : Hp} {ds : List D} {l : Loc} {vs : List V} (e : frzs ds = ds) (h : Reps G ow H ds l 0 vs) : ∀ k : Nat, Reps G ow H (List.replicate k ds).flatten l 0 (List.replicate k vs).flatten ∧ frzs (List.replicate k ds).flatten = (List.replicate k ds).flatten
  | 0 => ⟨rfl, rfl⟩
  | k + 1 => by
    obtain ⟨i1, i2⟩ := reps_flat e h k
    rw [List.replicate_succ, List.replicate_succ, List.flatten_cons, List.flatten_cons]
    exact ⟨Reps.app e i2 h i1, by rw [frzs_append, e, i2]⟩
section
variable {X : Cx} {G : GX} {C : Fc} {W : WX} {ow ow' : Ow} {r : Rho} {T T1 T2 : List (D × V)} {s : L2.St} {H H' : Hp} {fa fb fc : Ev}
/-- a * b -/
@[irreducible] def gMul : G2 := fun x y r => match opd r x, opd r y with
  | some (.int i), some (.int j) => if mulOk i j = true then .ok (.val (.int (i * j))) r else .bad
  | some (.node .lst _ xs), some (.int k) => if k.natAbs < 2 ^ 63 ∧ xs.length * k.toNat ≤ 16777216 then .ok (.val (.node .lst true (List.replicate k.toNat (frzs xs)).flatten)) (touch r x) else .bad
  | _, _ => .bad
theorem os_mul : OpS X (binaryOp .Mult) gMul := by
  refine ⟨_, op_mulA.or op_rep, fun G C W r T s H x y v u Q S lx ly q => ?_⟩
  obtain ⟨ow, S⟩ := S
  unfold gMul at q
  split at q
  · rename_i i j e1 e2
    split at q
    · rename_i hm
      have a1 := opd_rep S lx e1
      have a2 := opd_rep (T := T ++ pushR x v) (T2 := []) (by rw [List.append_nil, List.append_assoc]; exact S) ly e2
      exact .inl ⟨i, j, a1, a2, mulOk_of hm, goes_val q ⟨ow, S.drop⟩ rfl fun _ _ => rfl⟩
    · exact q.elim
  · rename_i o xs k e1 e2
    split at q
    · rename_i hz
      obtain ⟨h12, h3⟩ := hz
      have h1 : -(2 ^ 63) ≤ k := by omega
      have h2 : k < 2 ^ 63 := by omega
      have a2 := opd_rep (T := T ++ pushR x v) (T2 := []) (by rw [List.append_nil, List.append_assoc]; exact S) ly e2
      obtain ⟨ow', a, vs, S', ev, ha, rx, _⟩ := StW.parts (T := T) (StW.drop (T := T ++ pushR x v) (T2 := pushR y u) (by rw [List.append_assoc]; exact S)) lx e1
      subst ev
      have l1 := (rx ⟨.fo, []⟩).length
      rw [frzs_length] at l1
      obtain ⟨r1, r2⟩ := reps_flat (frzs_frzs xs) (rx ⟨.fo, []⟩) k.toNat
      refine .inr ⟨a, k, vs, rfl, a2, ha, h1, h2, by rw [sizeLine_eq, ← l1]; exact h3, ?_⟩
      exact S'.made (l := ⟨.fo, []⟩) (i := 0) r2 r1 q
    · exact q.elim
  · exact q.elim

/-! ### == -/
mutual
def toPy : D → PyData
  | .non => .none
  | .bl b => .bool b
  | .int i => .int i
  | .str s => .str s
  | .node .lst _ xs => .list (toPys xs)
  | .node .tup _ xs => .tuple (toPys xs)
  | _ => .dict []
def toPys : List D → List PyData
  | [] => []
  | d :: ds => toPy d :: toPys ds
end
def eqOk (d : D) : Bool := SeqAt.shaped (toPy d)
mutual
theorem dp_of {K : PySem.W.Frag} : ∀ (d : D) {l : Loc} {v : V}, (toPy d).canLay0 = true → Rep G ow H d l v → Dp K H v (toPy d)
  | .non, _, _, _, h => by
    have e := rep_non h
    subst e; exact .non
  | .bl b, _, _, _, h => by
    have e := rep_bl h
    subst e; exact .bl b
  | .int i, _, _, _, h => by
    have e := rep_int h
    subst e; exact .int i
  | .str x, _, _, _, h => by
    have e := rep_str h
    subst e; exact .str x
  | .any, _, _, c, _ => by simp [toPy, PyData.canLay0] at c
  | .exc _, _, _, c, _ => by simp [toPy, PyData.canLay0] at c
  | .ty _, _, _, c, _ => by simp [toPy, PyData.canLay0] at c
  | .cls _, _, _, c, _ => by simp [toPy, PyData.canLay0] at c
  | .node k o xs, l, v, c, h => by
    obtain ⟨a, vs, e, h1, h2, h3⟩ := h
    subst e
    cases k with
    | lst =>
      have c' : PyData.canLayAll0 (toPys xs) = true := by simpa [toPy, PyData.canLay0] using c
      have z := dps_of (K := K) xs c' h3
      simp only [toPy]
      exact .lst (SqL.of h1) z
    | rd => simp [toPy, PyData.canLay0] at c
    | tup =>
      have c' : PyData.canLayAll0 (toPys xs) = true := by simpa [toPy, PyData.canLay0] using c
      have z := dps_of (K := K) xs c' h3
      simp only [toPy]
      exact .tup (SqT.of h1) z
    | dK ks => simp [toPy, PyData.canLay0] at c
    | dT ks => simp [toPy, PyData.canLay0] at c
    | ins c' fs => simp [toPy, PyData.canLay0] at c
theorem dps_of {K : PySem.W.Frag} : ∀ (ds : List D) {l : Loc} {i : Nat} {vs : List V}, PyData.canLayAll0 (toPys ds) = true → Reps G ow H ds l i vs → DpAll K H vs (toPys ds)
  | [], _, _, vs, _, h => by
    have e : vs = [] := h
    subst e
    simp only [toPys]
    exact .nil
  | d :: ds, l, i, vs, c, h => by
    obtain ⟨v, ws, e, h1, h2⟩ := h
    subst e
    have c' : (toPy d).canLay0 = true ∧ PyData.canLayAll0 (toPys ds) = true := by simpa [toPys, PyData.canLayAll0] using c
    simp only [toPys]
    exact .cons (dp_of d c'.1 h1) (dps_of ds c'.2 h2)
end
def eqD (d e : D) : Option D := if (eqOk d && eqOk e) = true then some (.bl (PyData.eqv (toPy d) (toPy e))) else none
def neD (d e : D) : Option D := if (eqOk d && eqOk e) = true then some (.bl (!PyData.eqv (toPy d) (toPy e))) else none
theorem op_isNW : OpR X (compareOp .Is) (fun x y H Q => y = .non ∧ Q (.bl (decide (x = .non))) H) := op_isN
def gEq : G2 := g2 eqD
def gNe : G2 := g2 neD
theorem os_eq (hu : X.A.units + 64 < cLine) : OpS X (compareOp .Eq) gEq := by
  refine OpS.scal (op_eqD hu) fun G ow H d e z l m v u Q h1 h2 e3 q => ?_
  unfold eqD at e3
  split at e3
  · rename_i c
    rw [Bool.and_eq_true] at c
    cases e3
    exact ⟨_, _, dp_of d (SeqAt.canLay_of_shaped c.1) h1, dp_of e (SeqAt.canLay_of_shaped c.2) h2, c.1, c.2, q _ fun _ _ => rfl⟩
  · cases e3
theorem os_ne (hu : X.A.units + 64 < cLine) : OpS X (compareOp .NotEq) gNe := by
  refine OpS.scal (op_neD hu) fun G ow H d e z l m v u Q h1 h2 e3 q => ?_
  unfold neD at e3
  split at e3
  · rename_i c
    rw [Bool.and_eq_true] at c
    cases e3
    exact ⟨_, _, dp_of d (SeqAt.canLay_of_shaped c.1) h1, dp_of e (SeqAt.canLay_of_shaped c.2) h2, c.1, c.2, q _ fun _ _ => rfl⟩
  · cases e3
/-- is None -/
def isN : D → D → Option D
  | d, .non => (match d with
    | .any => none
    | .non => some (.bl true)
    | _ => some (.bl false))
  | _, _ => none
def isnotN : D → D → Option D
  | d, .non => (match d with
    | .any => none
    | .non => some (.bl false)
    | _ => some (.bl true))
  | _, _ => none
theorem rep_isnon {d : D} {l : Loc} {v : V} (h : Rep G ow H d l v) (n : d ≠ .any) : decide (v = .non) = (match d with | .non => true | _ => false) := by
  cases d with
  | any => exact absurd rfl n
  | non =>
    have e := rep_non h
    subst e
    rfl
  | bl b => have e := rep_bl h; subst e; rfl
  | int b => have e := rep_int h; subst e; rfl
  | str b => have e := rep_str h; subst e; rfl
  | exc c => obtain ⟨a, e, _⟩ := h; subst e; rfl
  | ty m => have e : v = .ty m := h; subst e; rfl
  | cls c => have e : v = .ref (G c) := h; subst e; rfl
  | node k o xs => obtain ⟨a, vs, e, _⟩ := h; subst e; rfl
def gIs : G2 := g2 isN
def gIsNot : G2 := g2 isnotN
theorem os_is : OpS X (compareOp .Is) gIs := by
  refine OpS.scal op_isN fun G ow H d e z l m v u Q h1 h2 e3 q => ?_
  cases e with
  | non =>
    refine ⟨rep_non h2, ?_⟩
    cases d with
    | any => cases e3
    | _ => cases e3; rw [rep_isnon h1 (fun z => nomatch z)]; exact q _ fun _ _ => rfl
  | _ => cases e3
theorem os_isnot : OpS X (compareOp .IsNot) gIsNot := by
  refine OpS.scal op_notN fun G ow H d e z l m v u Q h1 h2 e3 q => ?_
  cases e with
  | non =>
    refine ⟨rep_non h2, ?_⟩
    cases d with
    | any => cases e3
    | _ => cases e3; rw [rep_isnon h1 (fun z => nomatch z)]; exact q _ fun _ _ => rfl
  | _ => cases e3

/-! ### in -/
def flatD : D → Bool
  | .non => true
  | .bl _ => true
  | .int _ => true
  | .str _ => true
  | _ => false
theorem toPys_map : ∀ xs : List D, toPys xs = xs.map toPy
  | [] => by simp [toPys]
  | d :: ds => by simp [toPys, toPys_map ds]
theorem flat_rep {d : D} {l : Loc} {v : V} (f : flatD d = true) (h : Rep G ow H d l v) : flatV v = true ∧ atom d = true := by
  cases d with
  | non => have e := rep_non h; subst e; exact ⟨rfl, rfl⟩
  | bl b => have e := rep_bl h; subst e; exact ⟨rfl, rfl⟩
  | int b => have e := rep_int h; subst e; exact ⟨rfl, rfl⟩
  | str b => have e := rep_str h; subst e; exact ⟨rfl, rfl⟩
  | _ => cases f
theorem flat_eq {d e : D} {l m : Loc} {v u : V} (f : flatD d = true) (g : flatD e = true) (h : Rep G ow H d l v) (h' : Rep G ow H e m u) : eqV v u = PyData.eqv (toPy d) (toPy e) := by
  cases d with
  | non =>
    have e1 := rep_non h; subst e1
    cases e with
    | non => have e2 := rep_non h'; subst e2; simp [eqV, toPy, PyData.eqv]
    | bl b => have e2 := rep_bl h'; subst e2; simp [eqV, toPy, PyData.eqv]
    | int b => have e2 := rep_int h'; subst e2; simp [eqV, toPy, PyData.eqv]
    | str b => have e2 := rep_str h'; subst e2; simp [eqV, toPy, PyData.eqv]
    | _ => cases g
  | bl b =>
    have e1 := rep_bl h; subst e1
    cases e with
    | non => have e2 := rep_non h'; subst e2; simp [eqV, toPy, PyData.eqv]
    | bl b => have e2 := rep_bl h'; subst e2; simp [eqV, toPy, PyData.eqv]
    | int b => have e2 := rep_int h'; subst e2; simp [eqV, toPy, PyData.eqv]
    | str b => have e2 := rep_str h'; subst e2; simp [eqV, toPy, PyData.eqv]
    | _ => cases g
  | int b =>
    have e1 := rep_int h; subst e1
    cases e with
    | non => have e2 := rep_non h'; subst e2; simp [eqV, toPy, PyData.eqv]
    | bl b => have e2 := rep_bl h'; subst e2; simp [eqV, toPy, PyData.eqv]
    | int b => have e2 := rep_int h'; subst e2; simp [eqV, toPy, PyData.eqv]
    | str b => have e2 := rep_str h'; subst e2; simp [eqV, toPy, PyData.eqv]
    | _ => cases g
  | str b =>
    have e1 := rep_str h; subst e1
    cases e with
    | non => have e2 := rep_non h'; subst e2; simp [eqV, toPy, PyData.eqv]
    | bl b => have e2 := rep_bl h'; subst e2; simp [eqV, toPy, PyData.eqv]
    | int b => have e2 := rep_int h'; subst e2; simp [eqV, toPy, PyData.eqv]
    | str b => have e2 := rep_str h'; subst e2; simp [eqV, toPy, PyData.eqv]
    | _ => cases g
  | _ => cases f
theorem flat_all : ∀ {xs : List D} {l : Loc} {i : Nat} {vs : List V}, xs.all flatD = true → Reps G ow H xs l i vs → vs.all flatV = true
  | [], _, _, vs, _, h => by
    have e : vs = [] := h
    subst e; rfl
  | d :: ds, l, i, vs, f, h => by
    obtain ⟨v, ws, e, h1, h2⟩ := h
    subst e
    rw [List.all_cons, Bool.and_eq_true] at f ⊢
    exact ⟨(flat_rep f.1 h1).1, flat_all f.2 h2⟩
theorem flat_any {d : D} {m : Loc} {v : V} (g : flatD d = true) (h' : Rep G ow H d m v) : ∀ {xs : List D} {l : Loc} {i : Nat} {vs : List V}, xs.all flatD = true → Reps G ow H xs l i vs → inV v vs = xs.any fun e => PyData.eqv (toPy e) (toPy d)
  | [], _, _, vs, _, h => by
    have e : vs = [] := h
    subst e; rfl
  | d' :: ds, l, i, vs, f, h => by
    obtain ⟨v', ws, e, h1, h2⟩ := h
    subst e
    rw [List.all_cons, Bool.and_eq_true] at f
    have z := flat_any g h' f.2 h2
    unfold inV at z ⊢
    rw [List.any_cons, List.any_cons, z, flat_eq f.1 g h1 h']
/-- x in a list of data, in a tuple of flat ones -/
def inD (d e : D) : Option Bool := match e with
  | .node .lst _ xs => if (eqOk d && eqOk e) = true then some (xs.any fun z => PyData.eqv (toPy z) (toPy d)) else none
  | .node .tup _ xs => if (flatD d && xs.all flatD) = true then some (xs.any fun z => PyData.eqv (toPy z) (toPy d)) else none
  | .str b => (match d with
    | .str a => some (!(Builtin.Str.occurrences b a 0 b.length 1).isEmpty)
    | _ => none)
  | _ => none
def rInAll (K : PySem.W.Frag) (neg : Bool) : R2 := fun x y H Q => (if neg = true then rNotInD K x y H Q else rInD K x y H Q) ∨ rIn K neg x y H Q ∨ (∃ i j, x = .str i ∧ y = .str j ∧ Q (.bl (if neg then !(!(Builtin.Str.occurrences j i 0 j.length 1).isEmpty) else !(Builtin.Str.occurrences j i 0 j.length 1).isEmpty)) H)
theorem inD_ok {K : PySem.W.Frag} {d e : D} {l m : Loc} {v u : V} {b neg : Bool} {Q : VK} (h1 : Rep G ow H d l v) (h2 : Rep G ow H e m u) (e3 : inD d e = some b) (q : Q (.bl (if neg then !b else b)) H) : rInAll K neg v u H Q := by
  have deep : ∀ xs, e = .node .lst false xs ∨ e = .node .lst true xs → (eqOk d && eqOk e) = true → b = (xs.any fun z => PyData.eqv (toPy z) (toPy d)) → rInAll K neg v u H Q := fun xs he c eb => by
    rw [Bool.and_eq_true] at c
    have ep : toPy e = .list (toPys xs) := by rcases he with he | he <;> rw [he] <;> simp [toPy]
    have k1 := dp_of (K := K) d (SeqAt.canLay_of_shaped c.1) h1
    have k2 := dp_of (K := K) e (SeqAt.canLay_of_shaped c.2) h2
    have c2 : SeqAt.shaped (.list (toPys xs)) = true := by rw [← ep]; exact c.2
    rw [ep] at k2
    have ea : (toPys xs).any (fun z => PyData.eqv z (toPy d)) = b := by rw [toPys_map, List.any_map, eb]; rfl
    refine .inl ?_
    cases neg with
    | true => exact ⟨_, _, k1, k2, c.1, c2, by rw [ea]; exact q⟩
    | false => exact ⟨_, _, k1, k2, c.1, c2, by rw [ea]; exact q⟩
  unfold inD at e3
  split at e3
  · rename_i o xs
    split at e3
    · rename_i c
      cases e3
      exact deep xs (by cases o <;> simp) c rfl
    · cases e3
  · rename_i o xs
    split at e3
    · rename_i c
      rw [Bool.and_eq_true] at c
      cases e3
      obtain ⟨a, vs, eu, k1, _, k3⟩ := h2
      subst eu
      refine .inr (.inl ⟨a, vs, rfl, .inr (SqT.of k1), (flat_rep c.1 h1).1, flat_all c.2 k3, ?_⟩)
      rw [flat_any c.1 h1 c.2 k3]
      exact q
    · cases e3
  · rename_i z
    split at e3
    · rename_i a
      cases e3
      exact .inr (.inr ⟨a, z, rep_str h1, rep_str h2, q⟩)
    · cases e3
  · cases e3
def gIn : G2 := g2 fun d e => (inD d e).map .bl
def gNotIn : G2 := g2 fun d e => (inD d e).map fun b => .bl (!b)
theorem os_in (hu : X.A.units + 65 < cLine) : OpS X (compareOp .In) gIn := by
  have R : OpR X (compareOp .In) (rInAll X.K false) := (op_inD hu).or (op_in_seq.or op_in_str)
  refine OpS.scal R fun G ow H d e z l m v u Q h1 h2 e3 q => ?_
  cases e4 : inD d e with
  | none => rw [e4] at e3; cases e3
  | some b =>
    rw [e4] at e3
    cases e3
    exact inD_ok (neg := false) h1 h2 e4 (q _ fun _ _ => rfl)
theorem os_notin (hu : X.A.units + 65 < cLine) : OpS X (compareOp .NotIn) gNotIn := by
  have R : OpR X (compareOp .NotIn) (rInAll X.K true) := (op_notInD hu).or (op_notIn_seq.or op_notin_str)
  refine OpS.scal R fun G ow H d e z l m v u Q h1 h2 e3 q => ?_
  cases e4 : inD d e with
  | none => rw [e4] at e3; cases e3
  | some b =>
    rw [e4] at e3
    cases e3
    exact inD_ok (neg := true) h1 h2 e4 (q _ fun _ _ => rfl)

/-! ### truths, tests -/
def tVT (G : GX) (C : Fc) (W : WX) (f : Ev) : TT := fun s H Q => ∃ r T, StOk G C r T s H ∧ match f r with
  | .ok (.val (.bl b)) r' => ∀ H', StOk G C r' T s H' → Q b H'
  | .exc c r' => ∀ H', StOk G C r' T s H' → W (.ref (G c)) none s H'
  | _ => False
abbrev VT (X : Cx) (G : GX) (C : Fc) (W : WX) (e : Expr) (f : Ev) : Prop := PT X e (tVT G C W f)
theorem PT.imp {e : Expr} {t t' : TT} (h : PT X e t) (i : ∀ s H Q, t' s H Q → t s H Q) : PT X e t' := ⟨fun pins s σ H Q I w => h.run pins s σ H Q I (i _ _ _ w)⟩
theorem PW.imp {e : Expr} {t t' : TT} (h : PW X e t) (i : ∀ s H Q, t' s H Q → t s H Q) : PW X e t' := ⟨fun wh pins s σ H Q I w => h.run wh pins s σ H Q I (i _ _ _ w)⟩
/-- a value that is True or False, from its meaning -/
theorem tV_bl {f : Ev} {Q : Bool → Hp → Prop} (h : tVT G C W f s H Q) : tV G C W f s H fun v H' => ∃ k, v = .bl k ∧ Q k H' := by
  obtain ⟨r, T, S, h⟩ := h
  refine ⟨r, T, S, ?_⟩
  split at h
  · rename_i b r' e
    rw [e]
    exact fun v H' P => ⟨b, by
      obtain ⟨ow, S'⟩ := P.1
      exact S'.last, h H' P.any⟩
  · rename_i c r' e
    rw [e]
    exact h
  · exact h.elim
theorem vt_cmp {op : CmpOp} {g : G2} {a b : Expr} {pos : Pos} (ho : OpS X (compareOp op) g) (ha : VE X G C W a fa) (hb : VE X G C W b fb) (hm : behindInMarks op b = false) : VT X G C W (.Compare a [op] [b] pos) (cBin g fa fb) := by
  obtain ⟨rr, h1, h2⟩ := ho
  refine PT.imp (pt_cmpR h1 ha hb hm) fun s H Q h => ?_
  have z := tV_bl h
  obtain ⟨r, T, S, gg⟩ := z
  exact two S gg fun x y v u r2 H2 S2 lx ly g2 => h2 G C W r2 T s H2 x y v u _ S2 lx ly g2
def truthD : D → Option Bool
  | .non => some false
  | .bl b => some b
  | .int i => some (i != 0)
  | .str x => if x.length ≤ 16777216 then some ((x.length : Int) != 0) else none
  | .node .lst _ xs => some (!xs.isEmpty)
  | .node .tup _ xs => some (!xs.isEmpty)
  | .node (.dK _) _ xs => some (!xs.isEmpty)
  | _ => none
def cTru (fa : Ev) : Ev := fun r => (fa r).bd fun x r1 => match opd r1 x with
  | some d => (match truthD d with
    | some b => .ok (.val (.bl b)) r1
    | none => .bad)
  | none => .bad
theorem empty_reps {xs : List D} {l : Loc} {i : Nat} {vs : List V} (h : Reps G ow H xs l i vs) : (!xs.isEmpty) = !vs.isEmpty := by
  have := h.length
  cases xs <;> cases vs <;> simp at this ⊢
theorem truth_ok {K : PySem.W.Frag} {d : D} {l : Loc} {v : V} {b : Bool} (h : Rep G ow H d l v) (e : truthD d = some b) : TruV K v H b := by
  cases d with
  | non => have e1 := rep_non h; subst e1; cases e; rfl
  | bl k => have e1 := rep_bl h; subst e1; cases e; rfl
  | int k => have e1 := rep_int h; subst e1; cases e; rfl
  | str k =>
    have e1 := rep_str h; subst e1
    simp only [truthD] at e
    split at e
    · cases e; exact ⟨by rw [sizeLine_eq]; assumption, rfl⟩
    · cases e
  | any => cases e
  | exc c => cases e
  | ty c => cases e
  | cls c => cases e
  | node k o xs =>
    obtain ⟨a, vs, ev, h1, h2, h3⟩ := h
    subst ev
    cases k with
    | lst => cases e; exact .inl ⟨vs, SqL.of h1, empty_reps h3⟩
    | rd => cases e
    | tup => cases e; exact .inr (.inl ⟨vs, SqT.of h1, empty_reps h3⟩)
    | dK ks =>
      cases e
      refine .inr (.inr ⟨_, h1.1, ?_⟩)
      rw [empty_reps h3]
      have z := h1.2
      cases ks with
      | nil => cases vs with
        | nil => rfl
        | cons _ _ => cases z
      | cons _ _ => cases vs with
        | nil => cases z
        | cons _ _ => rfl
    | dT ks => cases e
    | ins c fs => cases e
theorem vt_truth {a : Expr} (ha : VE X G C W a fa) (he : ∀ whole, isTrue a X.env whole = (do let v ← whole; standAt a.pos; holding [v] (truthy v))) : VT X G C W a (cTru fa) := by
  refine PT.imp (pt_truth ha he) fun s H Q h => ?_
  obtain ⟨r, T, S, g⟩ := h
  refine ⟨r, T, S, ?_⟩
  unfold cTru at g
  cases e : fa r with
  | ok x r1 =>
    rw [e] at g
    simp only [bd_ok] at g
    intro v H' P
    cases e1 : opd r1 x with
    | none => rw [e1] at g; exact g.elim
    | some d =>
      rw [e1] at g
      cases e2 : truthD d with
      | none => simp only [e2] at g
      | some b =>
        simp only [e2] at g
        obtain ⟨ow, S'⟩ := P.1
        exact ⟨b, truth_ok (opd_rep (T2 := []) (by rw [List.append_nil]; exact S') P.2 e1) e2, g H' P.any⟩
  | exc c r1 => rw [e] at g; exact g
  | bad => rw [e] at g; exact g
/-- an expression that tells True or False, as a test -/
theorem vt_val {a : Expr} (ha : VE X G C W a fa) (he : ∀ whole, isTrue a X.env whole = (do let v ← whole; standAt a.pos; holding [v] (truthy v))) : VT X G C W a fa := by
  refine PT.imp (pt_truth ha he) fun s H Q h => ?_
  have z := tV_bl h
  obtain ⟨r, T, S, g⟩ := z
  refine ⟨r, T, S, ?_⟩
  cases e : fa r with
  | ok x r1 =>
    rw [e] at g
    exact fun v H' P => by
      obtain ⟨k, ev, q⟩ := g v H' P
      subst ev
      exact ⟨k, rfl, q⟩
  | exc c r1 => rw [e] at g; exact g
  | bad => rw [e] at g; exact g
def cAnd (fa fb : Ev) : Ev := fun r => (fa r).bd fun x r1 => match x with
  | .val (.bl true) => fb r1
  | .val (.bl false) => .ok (.val (.bl false)) r1
  | _ => .bad
def cOr (fa fb : Ev) : Ev := fun r => (fa r).bd fun x r1 => match x with
  | .val (.bl true) => .ok (.val (.bl true)) r1
  | .val (.bl false) => fb r1
  | _ => .bad
def cNot (fa : Ev) : Ev := fun r => (fa r).bd fun x r1 => match x with
  | .val (.bl b) => .ok (.val (.bl (!b))) r1
  | _ => .bad
abbrev VW (X : Cx) (G : GX) (C : Fc) (W : WX) (e : Expr) (f : Ev) : Prop := PW X e (tVT G C W f)
theorem tVT_and {Q : Bool → Hp → Prop} (h : tVT G C W (cAnd fa fb) s H Q) : tAnd (tVT G C W fa) (tVT G C W fb) s H Q := by
  obtain ⟨r, T, S, g⟩ := h
  refine ⟨r, T, S, ?_⟩
  unfold cAnd at g
  cases e : fa r with
  | ok x r1 =>
    rw [e] at g
    simp only [bd_ok] at g
    split at g
    · rename_i b r' e'
      split at e'
      · exact fun H' S' => (if_pos rfl).mpr ⟨r1, T, S', by rw [e']; exact g⟩
      · cases e'
        exact fun H' S' => (if_neg Bool.false_ne_true).mpr (g H' S')
      · cases e'
    · rename_i c r' e'
      split at e'
      · exact fun H' S' => (if_pos rfl).mpr ⟨r1, T, S', by rw [e']; exact g⟩
      · cases e'
      · cases e'
    · exact g.elim
  | exc c r1 => rw [e] at g; exact g
  | bad => rw [e] at g; exact g
theorem tVT_or {Q : Bool → Hp → Prop} (h : tVT G C W (cOr fa fb) s H Q) : tOr (tVT G C W fa) (tVT G C W fb) s H Q := by
  obtain ⟨r, T, S, g⟩ := h
  refine ⟨r, T, S, ?_⟩
  unfold cOr at g
  cases e : fa r with
  | ok x r1 =>
    rw [e] at g
    simp only [bd_ok] at g
    split at g
    · rename_i b r' e'
      split at e'
      · cases e'
        exact fun H' S' => (if_pos rfl).mpr (g H' S')
      · exact fun H' S' => (if_neg Bool.false_ne_true).mpr ⟨r1, T, S', by rw [e']; exact g⟩
      · cases e'
    · rename_i c r' e'
      split at e'
      · cases e'
      · exact fun H' S' => (if_neg Bool.false_ne_true).mpr ⟨r1, T, S', by rw [e']; exact g⟩
      · cases e'
    · exact g.elim
  | exc c r1 => rw [e] at g; exact g
  | bad => rw [e] at g; exact g
theorem vw_and1 {a : Expr} {pos : Pos} (ha : VT X G C W a fa) : VW X G C W (.BoolOp .And [a] pos) fa := pw_and1 ha
theorem vw_or1 {a : Expr} {pos : Pos} (ha : VT X G C W a fa) : VW X G C W (.BoolOp .Or [a] pos) fa := pw_or1 ha
theorem vw_and {a b : Expr} {rest : List Expr} {pos : Pos} (ha : VT X G C W a fa) (hb : VW X G C W (.BoolOp .And (b :: rest) pos) fb) : VW X G C W (.BoolOp .And (a :: b :: rest) pos) (cAnd fa fb) :=
  PW.imp (pw_and ha hb) fun _ _ _ h => tVT_and h
theorem vw_or {a b : Expr} {rest : List Expr} {pos : Pos} (ha : VT X G C W a fa) (hb : VW X G C W (.BoolOp .Or (b :: rest) pos) fb) : VW X G C W (.BoolOp .Or (a :: b :: rest) pos) (cOr fa fb) :=
  PW.imp (pw_or ha hb) fun _ _ _ h => tVT_or h
theorem VW.pt {e : Expr} {f : Ev} (h : VW X G C W e f) : VT X G C W e f := L2.PW.pt h
theorem vt_not {a : Expr} {pos : Pos} (ha : VT X G C W a fa) : VT X G C W (.UnaryOp .Not a pos) (cNot fa) := by
  refine PT.imp (pt_not ha) fun s H Q h => ?_
  obtain ⟨r, T, S, g⟩ := h
  refine ⟨r, T, S, ?_⟩
  unfold cNot at g
  cases e : fa r with
  | ok x r1 =>
    rw [e] at g
    simp only [bd_ok] at g
    split at g
    · rename_i b r' e'
      split at e'
      · rename_i k
        cases e'
        exact g
      · cases e'
    · rename_i c r' e'
      split at e' <;> cases e'
    · exact g.elim
  | exc c r1 => rw [e] at g; exact g
  | bad => rw [e] at g; exact g
/-! .. as values -/
theorem tV_of_tVT {Q : VK} (h : tV G C W fa s H Q) : (∀ r, (∃ b r', fa r = .ok (.val (.bl b)) r') ∨ (∃ c r', fa r = .exc c r') ∨ ¬ ∃ x r', fa r = .ok x r') → tVT G C W fa s H fun b H' => Q (.bl b) H' := by
  intro hb
  obtain ⟨r, T, S, g⟩ := h
  refine ⟨r, T, S, ?_⟩
  rcases hb r with ⟨b, r', e⟩ | ⟨c, r', e⟩ | hn
  · rw [e] at g ⊢
    exact fun H' S' => g (.bl b) H' ⟨S'.pushB b, trivial⟩
  · rw [e] at g ⊢; exact g
  · cases e : fa r with
    | ok x r' => exact absurd ⟨x, r', e⟩ hn
    | exc c r' => rw [e] at g; exact g
    | bad => rw [e] at g; exact g
theorem ve_one {op : BoolOp} {a : Expr} {pos : Pos} (ha : VE X G C W a fa) : VE X G C W (.BoolOp op [a] pos) fa := pe_one ha
theorem ve_and {a b : Expr} {rest : List Expr} {pos : Pos} (ha : VE X G C W a fa) (hb : VE X G C W (.BoolOp .And (b :: rest) pos) fb) : VE X G C W (.BoolOp .And (a :: b :: rest) pos) (cAnd fa fb) := by
  refine PE.imp (pe_and ha hb) fun s H Q h => ?_
  obtain ⟨r, T, S, g⟩ := h
  refine one S g fun x v r1 H1 P g1 => ?_
  split at g1
  · obtain ⟨ow, S'⟩ := P.1
    have e := rep_bl S'.last
    subst e
    exact ⟨true, rfl, (if_pos rfl).mpr ⟨r1, T, P.any, g1⟩⟩
  · obtain ⟨ow, S'⟩ := P.1
    have e := rep_bl S'.last
    subst e
    exact ⟨false, rfl, (if_neg Bool.false_ne_true).mpr (g1 _ _ ⟨P.any.pushB false, trivial⟩)⟩
  · exact g1.elim
theorem ve_or {a b : Expr} {rest : List Expr} {pos : Pos} (ha : VE X G C W a fa) (hb : VE X G C W (.BoolOp .Or (b :: rest) pos) fb) : VE X G C W (.BoolOp .Or (a :: b :: rest) pos) (cOr fa fb) := by
  refine PE.imp (pe_or ha hb) fun s H Q h => ?_
  obtain ⟨r, T, S, g⟩ := h
  refine one S g fun x v r1 H1 P g1 => ?_
  split at g1
  · obtain ⟨ow, S'⟩ := P.1
    have e := rep_bl S'.last
    subst e
    exact ⟨true, rfl, (if_pos rfl).mpr (g1 _ _ ⟨P.any.pushB true, trivial⟩)⟩
  · obtain ⟨ow, S'⟩ := P.1
    have e := rep_bl S'.last
    subst e
    exact ⟨false, rfl, (if_neg Bool.false_ne_true).mpr ⟨r1, T, P.any, g1⟩⟩
  · exact g1.elim
theorem ve_not {a : Expr} {pos : Pos} (ha : VE X G C W a fa) : VE X G C W (.UnaryOp .Not a pos) (cNot fa) := by
  refine PE.imp (pe_not ha) fun s H Q h => ?_
  obtain ⟨r, T, S, g⟩ := h
  refine one S g fun x v r1 H1 P g1 => ?_
  split at g1
  · rename_i b
    obtain ⟨ow, S'⟩ := P.1
    have e := rep_bl S'.last
    subst e
    exact ⟨b, rfl, g1 _ _ ⟨P.any.pushB _, trivial⟩⟩
  · exact g1.elim
def cIfE (ft fa fb : Ev) : Ev := fun r => (ft r).bd fun x r1 => match x with
  | .val (.bl true) => fa r1
  | .val (.bl false) => fb r1
  | _ => .bad
theorem ve_if {c a b : Expr} {pos : Pos} (hc : VT X G C W c fc) (ha : VE X G C W a fa) (hb : VE X G C W b fb) : VE X G C W (.IfExp c a b pos) (cIfE fc fa fb) := by
  refine PE.imp (pe_ifExp hc ha hb) fun s H Q h => ?_
  obtain ⟨r, T, S, g⟩ := h
  refine ⟨r, T, S, ?_⟩
  unfold cIfE at g
  cases e : fc r with
  | ok x r1 =>
    rw [e] at g
    simp only [bd_ok] at g
    cases x with
    | loc i => exact g.elim
    | val d =>
      cases d with
      | bl b =>
        cases b with
        | true => exact fun H' S' => (if_pos rfl).mpr ⟨r1, T, S', g⟩
        | false => exact fun H' S' => (if_neg Bool.false_ne_true).mpr ⟨r1, T, S', g⟩
      | _ => exact g.elim
  | exc c r1 => rw [e] at g; exact g
  | bad => rw [e] at g; exact g
def cNeg (fa : Ev) : Ev := fun r => (fa r).bd fun x r1 => match x with
  | .val (.int i) => .ok (.val (.int (-i))) r1
  | _ => .bad
theorem ve_neg {a : Expr} {pos : Pos} (ha : VE X G C W a fa) : VE X G C W (.UnaryOp .USub a pos) (cNeg fa) := by
  refine PE.imp (pe_un un_neg ha) fun s H Q h => ?_
  obtain ⟨r, T, S, g⟩ := h
  refine one S g fun x v r1 H1 P g1 => ?_
  split at g1
  · rename_i i
    obtain ⟨ow, S'⟩ := P.1
    have e := rep_int S'.last
    subst e
    exact ⟨i, rfl, g1 _ _ ⟨P.any.pushI _, trivial⟩⟩
  · exact g1.elim
end
end VL

namespace VL
open PySem PySem.Spec PyProof.Rows L2
section
variable {X : Cx} {G : GX} {C : Fc} {W : WX} {ow ow' : Ow} {r : Rho} {T T1 T2 : List (D × V)} {s : L2.St} {H H' : Hp} {fa fb fc : Ev}
/-- one operand, with more temporaries beneath -/
theorem oneX {k : R → Rho → EO} {Q : VK} {K : V → Hp → Prop} (S : StOk G C r (T ++ T2) s H) (h : Goes G C W T s Q ((fa r).bd k))
    (hk : ∀ x v r1 H1, Post G C r1 (T ++ T2) s H1 x v → Goes G C W T s Q (k x r1) → K v H1) : tV G C W fa s H K := by
  refine ⟨r, T ++ T2, S, ?_⟩
  cases e : fa r with
  | ok x r1 =>
    rw [e] at h
    exact fun v H1 P => hk x v r1 H1 P h
  | exc c r1 => rw [e] at h; exact fun H' S' => h H' S'.drop
  | bad => rw [e] at h; exact h
/-! ### a thing is handed on: what a name holds is shared from then on -/
def cSet (fa : Ev) : Ev := fun r => (fa r).bd fun x r1 => match x with
  | .val d => .ok (.val d) r1
  | .loc i => (match opd r1 (.loc i) with
    | some d => .ok (.val (frz d)) (settle r1 (.loc i))
    | none => .bad)
theorem ve_set {e : Expr} (h : VE X G C W e fa) : VE X G C W e (cSet fa) := by
  refine PE.imp h fun s H Q h => ?_
  obtain ⟨r, T, S, g⟩ := h
  refine ⟨r, T, S, ?_⟩
  unfold cSet at g
  cases e : fa r with
  | ok x r1 =>
    rw [e] at g
    simp only [bd_ok] at g
    intro v H' P
    cases x with
    | val d => exact g v H' P
    | loc i =>
      cases e1 : opd r1 (.loc i) with
      | none => simp only [e1] at g
      | some d =>
        simp only [e1] at g
        have q := opd_loc e1
        rw [settle_loc q] at g
        obtain ⟨⟨ow, S'⟩, l⟩ := P
        have S' : StW G C ow r1 T s H' := by simpa [pushR] using S'
        have hlt : i < r1.length := (List.getElem?_eq_some_iff.mp q).1
        have S2 := S'.frzSl q
        exact g v H' ⟨⟨_, S2.copy (j := i) (d := frz d) (by rw [List.getElem?_set_self hlt]) (frz_frz d) l⟩, trivial⟩
  | exc c r1 => rw [e] at g; exact g
  | bad => rw [e] at g; exact g

/-! ### an item -/
def pick (r : Rho) (x : R) (d : D) : EO := if atom d = true then .ok (.val d) r else .ok (.val (frz d)) (touch r x)
def gIx : G2 := fun x y r => match opd r x, opd r y with
  | some (.node .lst _ xs), some (.int i) => (match atI xs i with | some d => pick r x d | none => .bad)
  | some (.node .rd _ xs), some (.int i) => (match atI xs i with | some d => pick r x d | none => .bad)
  | some (.node .tup _ xs), some (.int i) => (match atI xs i with | some d => pick r x d | none => .bad)
  | some (.str z), some (.int i) => if z.length ≤ 16777216 then (match atI z.cps.toList i with | some c => .ok (.val (.str ⟨#[c]⟩)) r | none => .bad) else .bad
  | _, _ => .bad
theorem atI_len {α β : Type} {xs : List α} {ys : List β} {i : Int} {d : α} (hl : xs.length = ys.length) (h : atI xs i = some d) : ∃ j : Nat, xs[j]? = some d ∧ ∀ y, ys[j]? = some y → atI ys i = some y := by
  unfold atI at h ⊢
  rw [← hl]
  cases e : ixN xs.length i with
  | none => rw [e] at h; cases h
  | some j =>
    rw [e] at h
    exact ⟨j, h, fun y hy => hy⟩
theorem frzs_get {xs : List D} {j : Nat} {d : D} (h : xs[j]? = some d) : (frzs xs)[j]? = some (frz d) := by
  rw [frzs_map, List.getElem?_map, h]; rfl
theorem pick_ok {x y : R} {v u : V} {k : Kd} {o : Bool} {xs : List D} {i : Int} {d : D} {Q : VK} (S : StW G C ow r (T ++ (pushR x v ++ pushR y u)) s H) (lx : LocOk s v x) (e1 : opd r x = some (.node k o xs)) (ei : atI xs i = some d) (q : Goes G C W T s Q (pick r x d)) :
    ∃ a vs w, v = .ref a ∧ Holds G H a k vs ∧ atI vs i = some w ∧ Q w H := by
  by_cases a : atom d = true
  · obtain ⟨p, vs, ev, h1, h2, h3⟩ := opd_rep S lx e1
    obtain ⟨j, ej, hj⟩ := atI_len h3.length ei
    obtain ⟨w, ew, rw'⟩ := h3.get j d ej
    unfold pick at q
    rw [if_pos a] at q
    exact ⟨p, vs, w, ev, h1, hj w ew, goes_val q ⟨ow, S.drop⟩ a fun _ _ => rw'.of_atom a⟩
  · obtain ⟨ow', p, vs, S', ev, h1, rx, _⟩ := StW.parts (T := T) (StW.drop (T := T ++ pushR x v) (T2 := pushR y u) (by rw [List.append_assoc]; exact S)) lx e1
    have l1 := (rx ⟨.fo, []⟩).length
    rw [frzs_length] at l1
    obtain ⟨j, ej, hj⟩ := atI_len l1 ei
    obtain ⟨w, ew, rw'⟩ := (rx ⟨.fo, []⟩).get j (frz d) (frzs_get ej)
    unfold pick at q
    rw [if_neg a] at q
    exact ⟨p, vs, w, ev, h1, hj w ew, q w H ⟨⟨ow', S'.push (Rep.moveF _ (frz_frz d) (fun a o z q => ⟨z, q⟩) (fun _ _ z _ => z) rw')⟩, trivial⟩⟩
theorem ve_ix {a b : Expr} {pos : Pos} (hK : G.K = X.K) (ha : VE X G C W a fa) (hb : VE X G C W b fb) (hs : PlainIx b) : VE X G C W (.Subscript a b pos) (cBin gIx fa fb) := by
  refine PE.imp (pe_ix ix_seq ha hb hs) fun s H Q h => ?_
  obtain ⟨r, T, S, g⟩ := h
  refine two S g fun x y v u r2 H2 S2 lx ly q => ?_
  obtain ⟨ow, S2⟩ := S2
  have i2 : ∀ i, opd r2 y = some (.int i) → u = .int i := fun i e2 => opd_rep (T := T ++ pushR x v) (T2 := []) (by rw [List.append_nil, List.append_assoc]; exact S2) ly e2
  unfold gIx at q
  split at q
  · rename_i o xs i e1 e2
    split at q
    · rename_i d ei
      obtain ⟨p, vs, w, ev, h1, h2, h3⟩ := pick_ok S2 lx e1 ei q
      subst ev
      exact .inl ⟨p, vs, i, w, rfl, i2 i e2, SqL.of h1, h2, h3⟩
    · exact q.elim
  · rename_i o xs i e1 e2
    split at q
    · rename_i d ei
      obtain ⟨p, vs, w, ev, h1, h2, h3⟩ := pick_ok S2 lx e1 ei q
      subst ev
      exact .inl ⟨p, vs, i, w, rfl, i2 i e2, hK ▸ h1.seq, h2, h3⟩
    · exact q.elim
  · rename_i o xs i e1 e2
    split at q
    · rename_i d ei
      obtain ⟨p, vs, w, ev, h1, h2, h3⟩ := pick_ok S2 lx e1 ei q
      subst ev
      exact .inr (.inl ⟨p, vs, i, w, rfl, i2 i e2, SqT.of h1, h2, h3⟩)
    · exact q.elim
  · rename_i z i e1 e2
    split at q
    · rename_i hz
      split at q
      · rename_i c ec
        have a1 := opd_rep S2 lx e1
        exact .inr (.inr ⟨z, i, c, a1, i2 i e2, by rw [sizeLine_eq]; exact hz, ec, goes_val q ⟨ow, S2.drop⟩ rfl fun _ _ => rfl⟩)
      · exact q.elim
    · exact q.elim
  · exact q.elim

/-! ### a slice -/
def part (f : Option Ev) (r : Rho) (k : Option Int → Rho → EO) : EO := match f with
  | none => k none r
  | some f => (f r).bd fun y r' => match y with
    | .val (.int i) => k (some i) r'
    | _ => .bad
abbrev VO (X : Cx) (G : GX) (C : Fc) (W : WX) (e : Option Expr) (f : Option Ev) : Prop := ∃ t, PO X e t ∧ ∀ (r : Rho) (T T2 : List (D × V)) (s : L2.St) (H : Hp) (Q : VK) (K : Option Int → Hp → Prop) (k : Option Int → Rho → EO),
  StOk G C r (T ++ T2) s H → Goes G C W T s Q (part f r k) → (∀ i r1 H1, StOk G C r1 (T ++ T2) s H1 → Goes G C W T s Q (k i r1) → K i H1) → t s H K
theorem vo_none : VO X G C W none none := ⟨_, po_none, fun r T T2 s H Q K k S g h => h none r H S g⟩
theorem vo_some {e : Expr} (h : VE X G C W e fa) : VO X G C W (some e) (some fa) := by
  refine ⟨_, po_some h, fun r T T2 s H Q K k S g hk => ?_⟩
  refine oneX (k := fun y r' => match y with | .val (.int i) => k (some i) r' | _ => .bad) S g fun x v r1 H1 P g1 => ?_
  cases x with
  | loc i => exact g1.elim
  | val d =>
    cases d with
    | int i =>
      obtain ⟨ow, S'⟩ := P.1
      exact ⟨i, rep_int S'.last, hk (some i) r1 H1 P.any g1⟩
    | _ => exact g1.elim
def cutD (xs : List D) (lo hi : Option Int) : List D := (xs.drop (HT.sIx xs.length 0 lo)).take (HT.sIx xs.length xs.length hi - HT.sIx xs.length 0 lo)
def gSl (x : R) (lo hi : Option Int) (r : Rho) : EO := match opd r x with
  | some (.node .lst _ xs) => .ok (.val (.node .lst true (cutD (frzs xs) lo hi))) (touch r x)
  | some (.node .rd _ xs) => .ok (.val (.node .lst true (cutD (frzs xs) lo hi))) (touch r x)
  | some (.node .tup _ xs) => .ok (.val (.node .tup false (cutD (frzs xs) lo hi))) (touch r x)
  | _ => .bad
def cSl (fa : Ev) (lo hi : Option Ev) : Ev := fun r => (fa r).bd fun x r1 => part lo r1 fun l r2 => part hi r2 fun h r3 => gSl x l h r3
theorem frzs_take (xs : List D) (n : Nat) : frzs (xs.take n) = (frzs xs).take n := by rw [frzs_map, frzs_map, List.map_take]
theorem frzs_drop (xs : List D) (n : Nat) : frzs (xs.drop n) = (frzs xs).drop n := by rw [frzs_map, frzs_map, List.map_drop]
theorem Reps.cut {ds : List D} {l : Loc} {vs : List V} (e : VL.frzs ds = ds) (h : Reps G ow H ds l 0 vs) (lo hi : Option Int) : Reps G ow H (cutD ds lo hi) l 0 (cutV vs lo hi) ∧ VL.frzs (cutD ds lo hi) = cutD ds lo hi := by
  have hl := h.length
  unfold cutD cutV
  rw [← hl]
  generalize HT.sIx ds.length 0 lo = a
  generalize HT.sIx ds.length ds.length hi - a = b
  refine ⟨Reps.of_get (by simp [hl]) fun j d v q1 q2 => ?_, by rw [frzs_take, frzs_drop, e]⟩
  have hj : j < b := by
    have := (List.getElem?_eq_some_iff.mp q1).1
    simp at this; omega
  rw [List.getElem?_take_of_lt hj, List.getElem?_drop] at q1 q2
  obtain ⟨v', z1, z2⟩ := h.get (a + j) d q1
  rw [q2] at z1
  cases z1
  have f : VL.frz d = d := by
    have := congrArg (·[a + j]?) e
    simp only [frzs_map, List.getElem?_map, q1, Option.map_some] at this
    exact Option.some.inj this
  exact Rep.moveF d f (fun a o z q => ⟨z, q⟩) (fun _ _ z _ => z) z2
theorem StW.madeT {ds : List D} {vs : List V} {l : Loc} {i : Nat} {Q : VK} (S : StW G C ow r T s H) (e : frzs ds = ds) (h : Reps G ow H ds l i vs) (hq : ∀ v H', Post G C r T s H' (.val (.node .tup false ds)) v → Q v H') :
    ∀ p, H p = none → Q (.ref p) (upd H p (.tup vs)) := fun p hp =>
  hq _ _ ⟨StOk.alloc false ⟨ow, S.pushFs e h⟩ h.length hp holds_tup (fun z => nomatch z), trivial⟩
theorem ve_slice {a : Expr} {lo hi : Option Expr} {flo fhi : Option Ev} {p2 pos : Pos} (hK : G.K = X.K) (ha : VE X G C W a fa) (hl : VO X G C W lo flo) (hh : VO X G C W hi fhi) : VE X G C W (.Subscript a (.Slice lo hi none p2) pos) (cSl fa flo fhi) := by
  obtain ⟨tl, l1, l2⟩ := hl
  obtain ⟨th, h1, h2⟩ := hh
  refine PE.imp (pe_slice (sl_list.or sl_tupA) ha l1 h1) fun s H Q h => ?_
  obtain ⟨r, T, S, g⟩ := h
  refine one S g fun x v r1 H1 P g1 => ?_
  refine l2 r1 T (pushR x v) s H1 _ _ _ P.1 g1 fun lo' r2 H2 S2 g2 => ?_
  refine h2 r2 T (pushR x v) s H2 _ _ _ S2 g2 fun hi' r3 H3 S3 g3 => ?_
  obtain ⟨ow, S3⟩ := S3
  unfold gSl at g3
  split at g3
  · rename_i o xs e1
    obtain ⟨ow', p, vs, S', ev, h1, rx, _⟩ := S3.parts P.2 e1
    subst ev
    obtain ⟨c1, c2⟩ := (rx ⟨.fo, []⟩).cut (frzs_frzs xs) lo' hi'
    exact .inl ⟨p, vs, rfl, SqL.of h1, S'.made c2 c1 g3⟩
  · rename_i o xs e1
    obtain ⟨ow', p, vs, S', ev, h1, rx, _⟩ := S3.parts P.2 e1
    subst ev
    obtain ⟨c1, c2⟩ := (rx ⟨.fo, []⟩).cut (frzs_frzs xs) lo' hi'
    exact .inl ⟨p, vs, rfl, hK ▸ h1.seq, S'.made c2 c1 g3⟩
  · rename_i o xs e1
    obtain ⟨ow', p, vs, S', ev, h1, rx, _⟩ := S3.parts P.2 e1
    subst ev
    obtain ⟨c1, c2⟩ := (rx ⟨.fo, []⟩).cut (frzs_frzs xs) lo' hi'
    have l1 := (rx ⟨.fo, []⟩).length
    refine .inr ⟨p, vs, rfl, SqT.of h1, fun hw => ?_, fun _ => S'.madeT c2 c1 g3⟩
    have ec : cutD (frzs xs) lo' hi' = frzs xs := by
      unfold cutD
      rw [l1, hw.1, hw.2, List.drop_zero, Nat.sub_zero, ← l1, List.take_length]
    rw [ec] at g3
    have n : ow' p = none := by
      cases e : ow' p with
      | none => rfl
      | some l =>
        have m := S'.mu p l e
        rw [show H3 p = some (.tup vs) from h1] at m
        exact m.elim
    exact g3 _ _ ⟨⟨ow', S'.push ⟨p, vs, rfl, h1, n, rx _⟩⟩, trivial⟩
  · exact g3.elim
end
end VL

namespace VL
open PySem PySem.Spec PyProof.Rows L2

/-! ### arguments -/
inductive AO where
  | ok (xs : List R) (r : Rho) | exc (c : Nat) (r : Rho) | bad
abbrev Av := Rho → AO
def pushs : List R → List V → List (D × V)
  | x :: xs, v :: vs => pushR x v ++ pushs xs vs
  | _, _ => []
def LocsOk (s : L2.St) : List R → List V → Prop
  | [], [] => True
  | x :: xs, v :: vs => LocOk s v x ∧ LocsOk s xs vs
  | _, _ => False
def AO.bd (x : AO) (k : List R → Rho → EO) : EO := match x with
  | .ok y r => k y r
  | .exc c r => .exc c r
  | .bad => .bad
@[simp] theorem abd_ok (y : List R) (r : Rho) (k : List R → Rho → EO) : (AO.ok y r).bd k = k y r := rfl
@[simp] theorem abd_exc (c : Nat) (r : Rho) (k : List R → Rho → EO) : (AO.exc c r).bd k = .exc c r := rfl
@[simp] theorem abd_bad (k : List R → Rho → EO) : AO.bad.bd k = .bad := rfl
def cNil : Av := fun r => .ok [] r
def cCons (fa : Ev) (fs : Av) : Av := fun r => match fa r with
  | .ok x r1 => (match fs r1 with
    | .ok xs r2 => .ok (x :: xs) r2
    | .exc c r2 => .exc c r2
    | .bad => .bad)
  | .exc c r1 => .exc c r1
  | .bad => .bad
def opds (r : Rho) : List R → Option (List D)
  | [] => some []
  | x :: xs => match opd r x, opds r xs with
    | some d, some ds => some (d :: ds)
    | _, _ => none
def settles (r : Rho) : List R → Rho
  | [] => r
  | x :: xs => settles (settle r x) xs
section
variable {X : Cx} {G : GX} {C : Fc} {W : WX} {ow ow' : Ow} {r : Rho} {T T1 T2 : List (D × V)} {s : L2.St} {H H' : Hp} {fa fb fc : Ev} {fs : Av}
def tVA (G : GX) (C : Fc) (W : WX) (f : Av) : TA := fun s H Q => ∃ r T, StOk G C r T s H ∧ match f r with
  | .ok xs r' => ∀ vs H', StOk G C r' (T ++ pushs xs vs) s H' → LocsOk s xs vs → Q vs H'
  | .exc c r' => ∀ H', StOk G C r' T s H' → W (.ref (G c)) none s H'
  | .bad => False
abbrev VA (X : Cx) (G : GX) (C : Fc) (W : WX) (es : List Expr) (f : Av) : Prop := PA X es (tVA G C W f)
theorem PA.imp {es : List Expr} {t t' : TA} (h : PA X es t) (i : ∀ s H Q, t' s H Q → t s H Q) : PA X es t' := ⟨fun pos pins s σ H Q I w => h.run pos pins s σ H Q I (i _ _ _ w)⟩
theorem va_nil : VA X G C W [] cNil := by
  refine PA.imp pa_nil fun s H Q h => ?_
  obtain ⟨r, T, S, g⟩ := h
  exact g [] H (by simpa [pushs] using S) trivial
theorem va_cons {e : Expr} {es : List Expr} (he : VE X G C W e fa) (hr : VA X G C W es fs) (hs : starEach (e :: es) X.env = (false, eval e X.env) :: starEach es X.env := by rfl) : VA X G C W (e :: es) (cCons fa fs) := by
  refine PA.imp (pa_cons he hr hs) fun s H Q h => ?_
  obtain ⟨r, T, S, g⟩ := h
  refine ⟨r, T, S, ?_⟩
  unfold cCons at g
  cases e1 : fa r with
  | ok x r1 =>
    rw [e1] at g
    intro v H1 P
    refine ⟨r1, T ++ pushR x v, P.1, ?_⟩
    cases e2 : fs r1 with
    | ok xs r2 =>
      simp only [e2] at g
      intro vs H2 S2 l2
      exact g (v :: vs) H2 (by show StOk G C r2 (T ++ (pushR x v ++ pushs xs vs)) s H2; rw [← List.append_assoc]; exact S2) ⟨P.2, l2⟩
    | exc c r2 => simp only [e2] at g; exact fun H' S' => g H' S'.drop
    | bad => simp only [e2] at g
  | exc c r1 => rw [e1] at g; exact g
  | bad => rw [e1] at g; exact g
/-- arguments first -/
theorem many {k : List R → Rho → EO} {Q : VK} {K : List V → Hp → Prop} (S : StOk G C r (T ++ T2) s H) (h : Goes G C W T s Q ((fs r).bd k))
    (hk : ∀ xs vs r1 H1, StOk G C r1 (T ++ T2 ++ pushs xs vs) s H1 → LocsOk s xs vs → Goes G C W T s Q (k xs r1) → K vs H1) : tVA G C W fs s H K := by
  refine ⟨r, T ++ T2, S, ?_⟩
  cases e : fs r with
  | ok xs r1 =>
    rw [e] at h
    exact fun vs H1 S1 l1 => hk xs vs r1 H1 S1 l1 h
  | exc c r1 => rw [e] at h; exact fun H' S' => h H' S'.drop
  | bad => rw [e] at h; exact h

/-! ### all arguments are shared -/
theorem frz_opd_settle {x y : R} {d : D} (e : opd r y = some d) : ∃ d', opd (settle r x) y = some d' ∧ frz d' = frz d := by
  cases y with
  | val z => exact ⟨d, e, rfl⟩
  | loc j =>
    have q := opd_loc e
    cases x with
    | val z => exact ⟨d, e, rfl⟩
    | loc i =>
      by_cases hij : i = j
      · subst hij
        rw [settle_loc q]
        refine ⟨frz d, ?_, frz_frz d⟩
        show (match (r.set i (some (frz d)))[i]? with | some (some d) => some d | _ => none) = _
        rw [List.getElem?_set_self (List.getElem?_eq_some_iff.mp q).1]
      · refine ⟨d, ?_, rfl⟩
        cases q' : r[i]? with
        | none =>
          have z : settle r (.loc i) = r := by show (match r[i]? with | some (some d) => r.set i (some (frz d)) | _ => r) = _; rw [q']
          rw [z]; exact e
        | some o' =>
          cases o' with
          | none =>
            have z : settle r (.loc i) = r := by show (match r[i]? with | some (some d) => r.set i (some (frz d)) | _ => r) = _; rw [q']
            rw [z]; exact e
          | some d' =>
            rw [settle_loc q']
            show (match (r.set i (some (frz d')))[j]? with | some (some d) => some d | _ => none) = _
            rw [List.getElem?_set_ne hij, q]
theorem frzs_opds_settle {x : R} : ∀ {ys : List R} {ds : List D}, opds r ys = some ds → ∃ ds', opds (settle r x) ys = some ds' ∧ frzs ds' = frzs ds
  | [], ds, e => ⟨ds, e, rfl⟩
  | y :: ys, ds, e => by
    unfold opds at e
    cases e1 : opd r y with
    | none => rw [e1] at e; cases e
    | some d =>
      cases e2 : opds r ys with
      | none => rw [e1, e2] at e; cases e
      | some ds' =>
        rw [e1, e2] at e
        cases e
        obtain ⟨d1, h1, h2⟩ := frz_opd_settle (x := x) e1
        obtain ⟨ds1, h3, h4⟩ := frzs_opds_settle (x := x) e2
        refine ⟨d1 :: ds1, by unfold opds; rw [h1, h3], ?_⟩
        show frz d1 :: frzs ds1 = frz d :: frzs ds'
        rw [h2, h4]
theorem StW.settles : ∀ {xs : List R} {vs : List V} {ow : Ow} {r : Rho} {T : List (D × V)} {ds : List D}, StW G C ow r (T ++ pushs xs vs) s H → LocsOk s xs vs → opds r xs = some ds →
    ∃ ow', StW G C ow' (VL.settles r xs) T s H ∧ (∀ l i, Reps G ow' H (frzs ds) l i vs) ∧ (∀ a, ow a = none → ow' a = none) ∧ ∀ a l, ow' a = some l → ow a = some l
  | [], [], ow, r, T, ds, S, _, e => by
    cases e
    exact ⟨ow, by have z : StW G C ow r T s H := by (simpa [pushs] using S)
                  exact z, fun l i => rfl, fun _ h => h, fun _ _ h => h⟩
  | [], _ :: _, _, _, _, _, _, l, _ => l.elim
  | _ :: _, [], _, _, _, _, _, l, _ => l.elim
  | x :: xs, v :: vs, ow, r, T, ds, S, l, e => by
    unfold opds at e
    cases e1 : opd r x with
    | none => rw [e1] at e; cases e
    | some d =>
      cases e2 : opds r xs with
      | none => rw [e1, e2] at e; cases e
      | some ds' =>
        rw [e1, e2] at e
        cases e
        cases x with
        | val d0 =>
          cases e1
          have S1 := StW.frzTm (T1 := T) (T2 := pushs xs vs) (d := d) (v := v) S
          have S2 : StW G C (VL.free ow (.tm T.length)) r ((T ++ [(frz d, v)]) ++ pushs xs vs) s H := by simpa using S1
          obtain ⟨ow', S3, h1, h2, h3⟩ := StW.settles S2 l.2 e2
          refine ⟨ow', S3.drop, fun l' i => ⟨v, vs, rfl, ?_, h1 _ _⟩, fun a q => h2 a (free_none q), fun a m q => (of_free (h3 a m q)).1⟩
          have z := S3.tm T.length (frz d) v (by simp)
          exact Rep.moveF _ (frz_frz d) (fun a o z q => ⟨z, q⟩) (fun _ _ z _ => z) z
        | loc i =>
          have q := opd_loc e1
          have S1 : StW G C ow r (T ++ pushs xs vs) s H := by simpa [pushs, pushR] using S
          have S2 := S1.frzSl q
          have hs : settle r (.loc i) = r.set i (some (frz d)) := settle_loc q
          obtain ⟨ds1, g1, g2⟩ := frzs_opds_settle (x := .loc i) e2
          rw [hs] at g1
          obtain ⟨ow', S3, h1, h2, h3⟩ := StW.settles S2 l.2 g1
          refine ⟨ow', by show StW G C ow' (VL.settles (settle r (.loc i)) xs) T s H; rw [hs]; exact S3, fun l' j => ⟨v, vs, rfl, ?_, ?_⟩, fun a q => h2 a (free_none q), fun a m q => (of_free (h3 a m q)).1⟩
          · obtain ⟨v', z1, z2⟩ := S2.sl i (frz d) (by rw [List.getElem?_set_self (List.getElem?_eq_some_iff.mp q).1])
            have h' : s[i]? = some (some v) := l.1
            rw [h'] at z1
            cases z1
            exact Rep.moveF _ (frz_frz d) (fun a o z q => ⟨z, h2 a q⟩) (fun _ _ z _ => z) z2
          · rw [g2] at h1
            exact h1 _ _
theorem LocsOk.length {s : L2.St} : ∀ {xs : List R} {vs : List V}, LocsOk s xs vs → xs.length = vs.length
  | [], [], _ => rfl
  | [], _ :: _, l => l.elim
  | _ :: _, [], l => l.elim
  | _ :: xs, _ :: vs, l => by simp [LocsOk.length l.2]

/-! ### displays -/
def valsR : List R → Option (List D)
  | [] => some []
  | .val d :: xs => (match valsR xs with
    | some ds => some (d :: ds)
    | none => none)
  | .loc _ :: _ => none
theorem pushs_vals : ∀ {xs : List R} {vs : List V} {ds : List D}, LocsOk s xs vs → valsR xs = some ds → pushs xs vs = ds.zip vs ∧ ds.length = vs.length
  | [], [], _, _, e => by cases e; exact ⟨rfl, rfl⟩
  | [], _ :: _, _, l, _ => l.elim
  | _ :: _, [], _, l, _ => l.elim
  | .val d :: xs, v :: vs, ds, l, e => by
    unfold valsR at e
    cases e2 : valsR xs with
    | none => rw [e2] at e; cases e
    | some ds' =>
      rw [e2] at e
      cases e
      obtain ⟨h1, h2⟩ := pushs_vals l.2 e2
      refine ⟨?_, by simp [h2]⟩
      show [(d, v)] ++ pushs xs vs = _
      rw [h1]
      rfl
  | .loc _ :: _, _ :: _, _, _, e => by cases e
def cLst (fs : Av) : Ev := fun r => (fs r).bd fun xs r1 => match valsR xs with
  | some ds => if ds.length ≤ 16777216 then .ok (.val (.node .lst true ds)) r1 else .bad
  | none => .bad
def cTup (fs : Av) : Ev := fun r => (fs r).bd fun xs r1 => match valsR xs with
  | some ds => if ds.length ≤ 16777216 then .ok (.val (.node .tup false ds)) r1 else .bad
  | none => .bad
theorem ve_lst {es : List Expr} {pos : Pos} (h : VA X G C W es fs) : VE X G C W (.List es pos) (cLst fs) := by
  refine PE.imp (pe_lst h) fun s H Q h => ?_
  obtain ⟨r, T, S, g⟩ := h
  refine many (T2 := []) (by simpa using S) g fun xs vs r1 H1 S1 l1 g1 => ?_
  cases e : valsR xs with
  | none => simp only [e] at g1; exact g1.elim
  | some ds =>
    simp only [e] at g1
    split at g1
    · rename_i hz
      obtain ⟨p1, p2⟩ := pushs_vals l1 e
      rw [p1, List.append_nil] at S1
      exact ⟨by rw [← p2, sizeLine_eq]; exact hz, fun p hp => g1 _ _ ⟨StOk.alloc true S1 p2 hp holds_lst (fun _ => trivial), trivial⟩⟩
    · exact g1.elim
theorem ve_tup {es : List Expr} {k : Nat} {pos : Pos} (h : VA X G C W es fs) : VE X G C W (.Tuple es k pos) (cTup fs) := by
  refine PE.imp (pe_tup h) fun s H Q h => ?_
  obtain ⟨r, T, S, g⟩ := h
  refine many (T2 := []) (by simpa using S) g fun xs vs r1 H1 S1 l1 g1 => ?_
  cases e : valsR xs with
  | none => simp only [e] at g1; exact g1.elim
  | some ds =>
    simp only [e] at g1
    split at g1
    · rename_i hz
      obtain ⟨p1, p2⟩ := pushs_vals l1 e
      rw [p1, List.append_nil] at S1
      exact ⟨by rw [← p2, sizeLine_eq]; exact hz, fun p hp => g1 _ _ ⟨StOk.alloc false S1 p2 hp holds_tup (fun z => nomatch z), trivial⟩⟩
    · exact g1.elim

/-! ### built-in functions -/
/-- the call does what g says: of operands, perhaps a name's own thing -/
def CallS (X : Cx) (f : Value) (g : List R → Rho → EO) : Prop := ∃ rr, CallR X f rr ∧ ∀ (G : GX) (hG : G.K = X.K) (C : Fc) (W : WX) (r : Rho) (T : List (D × V)) (s : L2.St) (H : Hp) (xs : List R) (vs : List V) (Q : VK),
  StOk G C r (T ++ pushs xs vs) s H → LocsOk s xs vs → Goes G C W T s Q (g xs r) → rr vs H Q
def cB (g : List R → Rho → EO) (fs : Av) : Ev := fun r => (fs r).bd g
section
variable {x : Str} {p pos : Pos} {e : Expr} {es : List Expr} {id TT : String}
theorem ve_callB {g : List R → Rho → EO} (hK : G.K = X.K) (hc : CallS X (.builtin id) g) (hg : Gl X x) (hm : X.mg x = none) (hv : bootBuiltins x = some (.builtin id)) (ha : VA X G C W (e :: es) fs) (hn : x ≠ "__name__" := by decide) (hdb : (x == ("__debug__" : Str)) = false := by decide)
    (he : starEach (e :: es) X.env = (false, eval e X.env) :: starEach es X.env := by rfl) (hpl : (backTo pos (starEach es X.env)).any (·.1) = false := by rfl) : VE X G C W (.Call (.Name x p) (e :: es) [] pos) (cB g fs) := by
  obtain ⟨rr, h1, h2⟩ := hc
  refine PE.imp (pe_callB h1 hg hm hv ha hn hdb he hpl) fun s H Q h => ?_
  obtain ⟨r, T, S, g⟩ := h
  exact many (T2 := []) (by simpa using S) g fun xs vs r1 H1 S1 l1 g1 => h2 G hK C W r1 T s H1 xs vs Q (by simpa using S1) l1 g1
theorem ve_callTy {g : List R → Rho → EO} (hK : G.K = X.K) (hc : CallS X (.type TT) g) (hg : Gl X x) (hm : X.mg x = none) (hv : bootBuiltins x = some (.type TT)) (ha : VA X G C W (e :: es) fs) (hn : x ≠ "__name__" := by decide) (hdb : (x == ("__debug__" : Str)) = false := by decide)
    (he : starEach (e :: es) X.env = (false, eval e X.env) :: starEach es X.env := by rfl) (hpl : (backTo pos (starEach es X.env)).any (·.1) = false := by rfl) : VE X G C W (.Call (.Name x p) (e :: es) [] pos) (cB g fs) := by
  obtain ⟨rr, h1, h2⟩ := hc
  refine PE.imp (pe_callTy h1 hg hm hv ha hn hdb he hpl) fun s H Q h => ?_
  obtain ⟨r, T, S, g⟩ := h
  exact many (T2 := []) (by simpa using S) g fun xs vs r1 H1 S1 l1 g1 => h2 G hK C W r1 T s H1 xs vs Q (by simpa using S1) l1 g1
end
/-- of one operand, a scalar -/
def b1 (f : D → Option D) : List R → Rho → EO := fun xs r => match xs with
  | [x] => (match opd r x with
    | some d => (match f d with
      | some z => if atom z = true then .ok (.val z) r else .bad
      | none => .bad)
    | none => .bad)
  | _ => .bad
theorem one_arg {x : R} {vs : List V} (l : LocsOk s [x] vs) : ∃ v, vs = [v] ∧ LocOk s v x ∧ pushs [x] vs = pushR x v := by
  cases vs with
  | nil => exact l.elim
  | cons v vs =>
    cases vs with
    | nil => exact ⟨v, rfl, l.1, by simp [pushs]⟩
    | cons _ _ => exact l.2.elim
theorem CallS.scal {f : Value} {rr : List V → Hp → VK → Prop} {g : D → Option D} (h : CallR X f rr)
    (hr : ∀ (G : GX) (hG : G.K = X.K) (ow : Ow) (H : Hp) (d z : D) (l : Loc) (v : V) (Q : VK), Rep G ow H d l v → g d = some z → (∀ w, (∀ ow l, Rep G ow H z l w) → Q w H) → rr [v] H Q) : CallS X f (b1 g) := by
  refine ⟨rr, h, fun G hG C W r T s H xs vs Q S l q => ?_⟩
  unfold b1 at q
  split at q
  · rename_i x
    obtain ⟨v, ev, lx, ep⟩ := one_arg l
    rw [ep] at S
    subst ev
    obtain ⟨ow, S⟩ := S
    cases e1 : opd r x with
    | none => simp only [e1] at q; exact q.elim
    | some d =>
      simp only [e1] at q
      cases e2 : g d with
      | none => simp only [e2] at q; exact q.elim
      | some z =>
        simp only [e2] at q
        split at q
        · rename_i a
          refine hr G hG ow H d z _ v Q (opd_rep (T2 := []) (by rw [List.append_nil]; exact S) lx e1) e2 fun w hw => ?_
          exact q w H ⟨StOk.pushA ⟨ow, S.drop⟩ a hw, trivial⟩
        · exact q.elim
  · exact q.elim
def lenD : D → Option D
  | .node .lst _ xs => some (.int xs.length)
  | .node .rd _ xs => some (.int xs.length)
  | .node .tup _ xs => some (.int xs.length)
  | .str z => if z.length ≤ 16777216 then some (.int z.length) else none
  | _ => none
theorem cs_len : CallS X (.builtin "len") (b1 lenD) := by
  refine CallS.scal call_len fun G hG ow H d z l v Q h e q => ?_
  cases d with
  | node k o xs =>
    obtain ⟨a, vs, ev, h1, h2, h3⟩ := h
    subst ev
    have hl := h3.length
    cases k with
    | lst => cases e; exact ⟨_, vs.length, rfl, .inl ⟨vs, SqL.of h1, rfl⟩, by rw [← hl]; exact q _ fun _ _ => rfl⟩
    | rd => cases e; exact ⟨_, vs.length, rfl, .inl ⟨vs, hG ▸ h1.seq, rfl⟩, by rw [← hl]; exact q _ fun _ _ => rfl⟩
    | tup => cases e; exact ⟨_, vs.length, rfl, .inr ⟨vs, SqT.of h1, rfl⟩, by rw [← hl]; exact q _ fun _ _ => rfl⟩
    | _ => cases e
  | str x =>
    have ev := rep_str h
    subst ev
    simp only [lenD] at e
    split at e
    · cases e; exact ⟨_, x.length, rfl, ⟨by rw [sizeLine_eq]; assumption, rfl⟩, q _ fun _ _ => rfl⟩
    · cases e
  | _ => cases e
/-- a new list of the operand's parts -/
def gListOf : List R → Rho → EO := fun xs r => match xs with
  | [x] => (match opd r x with
    | some (.node .lst _ xs) => .ok (.val (.node .lst true (frzs xs))) (touch r x)
    | some (.node .rd _ xs) => .ok (.val (.node .lst true (frzs xs))) (touch r x)
    | some (.node .tup _ xs) => .ok (.val (.node .lst true (frzs xs))) (touch r x)
    | _ => .bad)
  | _ => .bad
theorem cs_list : CallS X (.type "list") gListOf := by
  refine ⟨_, call_list_of, fun G hG C W r T s H xs vs Q S l q => ?_⟩
  unfold gListOf at q
  split at q
  · rename_i x
    obtain ⟨v, ev, lx, ep⟩ := one_arg l
    rw [ep] at S
    subst ev
    obtain ⟨ow, S⟩ := S
    split at q
    · rename_i o xs e1
      obtain ⟨ow', p, vs, S', ev, h1, rx, _⟩ := S.parts lx e1
      subst ev
      exact ⟨p, vs, rfl, .inl (SqL.of h1), S'.made (frzs_frzs xs) (rx ⟨.fo, []⟩) q⟩
    · rename_i o xs e1
      obtain ⟨ow', p, vs, S', ev, h1, rx, _⟩ := S.parts lx e1
      subst ev
      exact ⟨p, vs, rfl, .inl (hG ▸ h1.seq), S'.made (frzs_frzs xs) (rx ⟨.fo, []⟩) q⟩
    · rename_i o xs e1
      obtain ⟨ow', p, vs, S', ev, h1, rx, _⟩ := S.parts lx e1
      subst ev
      exact ⟨p, vs, rfl, .inr (SqT.of h1), S'.made (frzs_frzs xs) (rx ⟨.fo, []⟩) q⟩
    · exact q.elim
  · exact q.elim
/-- two ints -/
def b2 (f : Int → Int → Int) : List R → Rho → EO := fun xs r => match xs with
  | [x, y] => (match opd r x, opd r y with
    | some (.int i), some (.int j) => .ok (.val (.int (f i j))) r
    | _, _ => .bad)
  | _ => .bad
theorem cs_int2 {f : Value} {g : Int → Int → Int} (h : CallR X f (fun xs H Q => ∃ i j, xs = [.int i, .int j] ∧ Q (.int (g i j)) H)) : CallS X f (b2 g) := by
  refine ⟨_, h, fun G hG C W r T s H xs vs Q S l q => ?_⟩
  unfold b2 at q
  split at q
  · rename_i x y
    cases vs with
    | nil => exact l.elim
    | cons v vs =>
      cases vs with
      | nil => exact l.2.elim
      | cons u vs =>
        cases vs with
        | cons _ _ => exact l.2.2.elim
        | nil =>
          obtain ⟨ow, S⟩ := S
          have S' : StW G C ow r (T ++ (pushR x v ++ pushR y u)) s H := by simpa [pushs] using S
          split at q
          · rename_i i j e1 e2
            have a1 := opd_rep S' l.1 e1
            have a2 := opd_rep (T := T ++ pushR x v) (T2 := []) (by rw [List.append_nil, List.append_assoc]; exact S') l.2.1 e2
            exact ⟨i, j, by rw [show v = .int i from a1, show u = .int j from a2], goes_val q ⟨ow, S.drop⟩ rfl fun _ _ => rfl⟩
          · exact q.elim
  · exact q.elim
def gMax2 := b2 fun i j => if j > i then j else i
def gMin2 := b2 fun i j => if j < i then j else i
theorem cs_max2 (hc : X.calm = true) : CallS X (.builtin "max") gMax2 := cs_int2 (call_max2 hc)
theorem cs_min2 (hc : X.calm = true) : CallS X (.builtin "min") gMin2 := cs_int2 (call_min2 hc)
def absD : D → Option D
  | .int i => some (.int (if i < 0 then -i else i))
  | _ => none
theorem cs_abs : CallS X (.builtin "abs") (b1 absD) := by
  refine CallS.scal call_abs fun G hG ow H d z l v Q h e q => ?_
  cases d with
  | int i => cases e; exact ⟨i, by rw [rep_int h], q _ fun _ _ => rfl⟩
  | _ => cases e
def intD : D → Option D
  | .int i => some (.int i)
  | .bl k => some (.int (if k then 1 else 0))
  | _ => none
theorem cs_int : CallS X (.type "int") (b1 intD) := by
  refine CallS.scal call_int1 fun G hG ow H d z l v Q h e q => ?_
  cases d with
  | int i => cases e; exact .inl ⟨i, by rw [rep_int h], q _ fun _ _ => rfl⟩
  | bl k => cases e; exact .inr ⟨k, by rw [rep_bl h], q _ fun _ _ => rfl⟩
  | _ => cases e
/-- the ints of a list -/
def intsOf : List D → Option (List Int)
  | [] => some []
  | .int i :: ds => (match intsOf ds with
    | some ns => some (i :: ns)
    | none => none)
  | _ :: _ => none
theorem ints_rep : ∀ {ds : List D} {ns : List Int} {l : Loc} {i : Nat} {vs : List V}, intsOf ds = some ns → Reps G ow H ds l i vs → vs = ns.map V.int
  | [], _, _, _, vs, e, h => by
    cases e
    exact h
  | d :: ds, ns, l, i, vs, e, h => by
    obtain ⟨v, ws, ev, h1, h2⟩ := h
    cases d with
    | int n =>
      unfold intsOf at e
      cases e2 : intsOf ds with
      | none => rw [e2] at e; cases e
      | some ns' =>
        rw [e2] at e
        cases e
        rw [ev, rep_int h1, ints_rep e2 h2]
        rfl
    | _ => cases e
theorem intsOf_eq : ∀ {ds : List D} {ns : List Int}, intsOf ds = some ns → ds = ns.map D.int
  | [], _, e => by cases e; rfl
  | d :: ds, ns, e => by
    cases d with
    | int n =>
      unfold intsOf at e
      cases e2 : intsOf ds with
      | none => rw [e2] at e; cases e
      | some ns' =>
        rw [e2] at e
        cases e
        rw [intsOf_eq e2]
        rfl
    | _ => cases e
theorem intsOf_map (ns : List Int) : intsOf (ns.map D.int) = some ns := by
  induction ns with
  | nil => rfl
  | cons n ns ih => show (match intsOf (ns.map D.int) with | some ms => some (n :: ms) | none => none) = _; rw [ih]
def sumD : D → Option D
  | .node .lst _ xs => (intsOf xs).map fun ns => .int ns.sum
  | .node .rd _ xs => (intsOf xs).map fun ns => .int ns.sum
  | _ => none
theorem cs_sum (hc : X.calm = true) : CallS X (.builtin "sum") (b1 sumD) := by
  refine CallS.scal (cr_sum hc) fun G hG ow H d z l v Q h e q => ?_
  cases d with
  | node k o xs =>
    obtain ⟨a, vs, ev, h1, h2, h3⟩ := h
    cases k with
    | lst =>
      simp only [sumD] at e
      cases e2 : intsOf xs with
      | none => rw [e2] at e; cases e
      | some ns =>
        rw [e2] at e
        cases e
        exact ⟨a, ns, by rw [ev], by rw [← ints_rep e2 h3]; exact SqL.of h1, q _ fun _ _ => rfl⟩
    | rd =>
      simp only [sumD] at e
      cases e2 : intsOf xs with
      | none => rw [e2] at e; cases e
      | some ns =>
        rw [e2] at e
        cases e
        exact ⟨a, ns, by rw [ev], by rw [← ints_rep e2 h3]; exact hG ▸ h1.seq, q _ fun _ _ => rfl⟩
    | _ => cases e
  | _ => cases e
end
end VL

namespace VL
open PySem PySem.Spec PyProof.Rows L2

inductive SO where
  | nx (r : Rho) | rt (x : R) (r : Rho) | bk (r : Rho) | ct (r : Rho) | exc (c : Nat) (r : Rho) | bad
abbrev Sv := Rho → SO
def EO.st (x : EO) (k : R → Rho → SO) : SO := match x with
  | .ok y r => k y r
  | .exc c r => .exc c r
  | .bad => .bad
@[simp] theorem st_ok (y : R) (r : Rho) (k : R → Rho → SO) : (EO.ok y r).st k = k y r := rfl
@[simp] theorem st_exc (c : Nat) (r : Rho) (k : R → Rho → SO) : (EO.exc c r).st k = .exc c r := rfl
@[simp] theorem st_bad (k : R → Rho → SO) : EO.bad.st k = .bad := rfl
def GoesS (G : GX) (C : Fc) (W : WX) (T : List (D × V)) (D : Ends) (o : SO) : Prop := match o with
  | .nx r' => ∀ s' H', StOk G C r' T s' H' → D.nx s' H'
  | .rt x r' => ∀ s' v H', Post G C r' T s' H' x v → D.rt v H'
  | .bk r' => ∀ s' H', StOk G C r' T s' H' → D.bk s' H'
  | .ct r' => ∀ s' H', StOk G C r' T s' H' → D.ct s' H'
  | .exc c r' => ∀ s' H', StOk G C r' T s' H' → W (.ref (G c)) none s' H'
  | .bad => False
def tVS (G : GX) (C : Fc) (W : WX) (f : Sv) : TS := fun D s H => ∃ r T, StOk G C r T s H ∧ GoesS G C W T D (f r)
abbrev VS (X : Cx) (G : GX) (C : Fc) (W : WX) (st : Stmt) (f : Sv) : Prop := PS X st (tVS G C W f)
abbrev VSs (X : Cx) (G : GX) (C : Fc) (W : WX) (st : List Stmt) (f : Sv) : Prop := PSs X st (tVS G C W f)
section
variable {X : Cx} {G : GX} {C : Fc} {W : WX} {ow ow' : Ow} {r : Rho} {T T1 T2 : List (D × V)} {s : L2.St} {H H' : Hp} {fa fb fc : Ev} {f g : Sv}
theorem PS.imp {st : Stmt} {t t' : TS} (h : PS X st t) (i : ∀ D s H, t' D s H → t D s H) : PS X st t' := ⟨fun pins s σ H D I w => h.run pins s σ H D I (i _ _ _ w)⟩
theorem PSs.imp {st : List Stmt} {t t' : TS} (h : PSs X st t) (i : ∀ D s H, t' D s H → t D s H) : PSs X st t' := ⟨fun pins s σ H D I w => h.run pins s σ H D I (i _ _ _ w)⟩
/-- an expression within a statement -/
theorem oneS {k : R → Rho → SO} {D : Ends} {K : V → Hp → Prop} (S : StOk G C r T s H) (h : GoesS G C W T D ((fa r).st k))
    (hk : ∀ x v r1 H1, Post G C r1 T s H1 x v → GoesS G C W T D (k x r1) → K v H1) : tV G C W fa s H K := by
  refine ⟨r, T, S, ?_⟩
  cases e : fa r with
  | ok x r1 => rw [e] at h; exact fun v H1 P => hk x v r1 H1 P h
  | exc c r1 => rw [e] at h; exact fun H' S' => h s H' S'
  | bad => rw [e] at h; exact h

/-! ### blocks -/
def cSkip : Sv := fun r => .nx r
def SO.sq (x : SO) (g : Sv) : SO := match x with
  | .nx r => g r
  | o => o
@[simp] theorem sq_nx (r : Rho) (g : Sv) : (SO.nx r).sq g = g r := rfl
@[simp] theorem sq_rt (x : R) (r : Rho) (g : Sv) : (SO.rt x r).sq g = .rt x r := rfl
@[simp] theorem sq_bk (r : Rho) (g : Sv) : (SO.bk r).sq g = .bk r := rfl
@[simp] theorem sq_ct (r : Rho) (g : Sv) : (SO.ct r).sq g = .ct r := rfl
@[simp] theorem sq_exc (c : Nat) (r : Rho) (g : Sv) : (SO.exc c r).sq g = .exc c r := rfl
@[simp] theorem sq_bad (g : Sv) : SO.bad.sq g = .bad := rfl
def cSeq (f g : Sv) : Sv := fun r => (f r).sq g
theorem vss_nil : VSs X G C W [] cSkip := PSs.imp pss_nil fun D s H ⟨r, T, S, h⟩ => h s H S
theorem vss_cons {st : Stmt} {rest : List Stmt} (h1 : VS X G C W st f) (h2 : VSs X G C W rest g) : VSs X G C W (st :: rest) (cSeq f g) := by
  refine PSs.imp (pss_cons h1 h2) fun D s H h => ?_
  obtain ⟨r, T, S, h⟩ := h
  refine ⟨r, T, S, ?_⟩
  unfold cSeq at h
  cases e : f r with
  | nx r1 => rw [e] at h; exact fun s' H' S' => ⟨r1, T, S', h⟩
  | rt x r1 => rw [e] at h; exact h
  | bk r1 => rw [e] at h; exact h
  | ct r1 => rw [e] at h; exact h
  | exc c r1 => rw [e] at h; exact h
  | bad => rw [e] at h; exact h
theorem vss_one {st : Stmt} (h1 : VS X G C W st f) : VSs X G C W [st] f := pss_one h1
theorem vs_pass {pos : Pos} : VS X G C W (.Pass pos) cSkip := PS.imp ps_pass fun D s H ⟨r, T, S, h⟩ => h s H S
def cBrk : Sv := fun r => .bk r
def cCnt : Sv := fun r => .ct r
theorem vs_break {pos : Pos} : VS X G C W (.Break pos) cBrk := PS.imp ps_break fun D s H ⟨r, T, S, h⟩ => h s H S
theorem vs_continue {pos : Pos} : VS X G C W (.Continue pos) cCnt := PS.imp ps_continue fun D s H ⟨r, T, S, h⟩ => h s H S
def cExpr (fa : Ev) : Sv := fun r => (fa r).st fun _ r1 => .nx r1
theorem vs_expr {e : Expr} {pos : Pos} (he : VE X G C W e fa) (hs : swapsWith e none pos.line X.env = pure false := by rfl) : VS X G C W (.Expr e pos) (cExpr fa) := by
  refine PS.imp (ps_expr he hs) fun D s H h => ?_
  obtain ⟨r, T, S, h⟩ := h
  exact oneS S h fun x v r1 H1 P h1 => h1 s H1 P.any
def cRet (fa : Ev) : Sv := fun r => (fa r).st fun x r1 => .rt x r1
theorem vs_ret {e : Expr} {pos : Pos} (he : VE X G C W e fa) : VS X G C W (.Return (some e) pos) (cRet fa) := by
  refine PS.imp (ps_ret he) fun D s H h => ?_
  obtain ⟨r, T, S, h⟩ := h
  exact oneS S h fun x v r1 H1 P h1 => h1 s v H1 P
def cRetN : Sv := fun r => .rt (.val .non) r
theorem vs_retN {pos : Pos} : VS X G C W (.Return none pos) cRetN := PS.imp ps_retN fun D s H ⟨r, T, S, h⟩ => h s .non H ⟨S.pushN, trivial⟩
def cIfS (ft : Ev) (f g : Sv) : Sv := fun r => (ft r).st fun x r1 => match x with
  | .val (.bl true) => f r1
  | .val (.bl false) => g r1
  | _ => .bad
theorem vs_if {c : Expr} {a b : List Stmt} {pos : Pos} (hc : VT X G C W c fc) (ha : VSs X G C W a f) (hb : VSs X G C W b g) : VS X G C W (.If c a b pos) (cIfS fc f g) := by
  refine PS.imp (ps_if hc ha hb) fun D s H h => ?_
  obtain ⟨r, T, S, h⟩ := h
  refine ⟨r, T, S, ?_⟩
  unfold cIfS at h
  cases e : fc r with
  | ok x r1 =>
    rw [e] at h
    simp only [st_ok] at h
    cases x with
    | loc i => exact h.elim
    | val d =>
      cases d with
      | bl b =>
        cases b with
        | true => exact fun H' S' => (if_pos rfl).mpr ⟨r1, T, S', h⟩
        | false => exact fun H' S' => (if_neg Bool.false_ne_true).mpr ⟨r1, T, S', h⟩
      | _ => exact h.elim
  | exc c r1 => rw [e] at h; exact fun H' S' => h s H' S'
  | bad => rw [e] at h; exact h

/-! ### names are given things -/
/-- the first of the last temporaries goes to slot i; the others move up -/
def movedM (ow : Ow) (n i : Nat) : Ow := fun a => match ow a with
  | some ⟨.tm j, p⟩ => if j = n then some ⟨.sl i, p⟩ else if n < j then some ⟨.tm (j - 1), p⟩ else some ⟨.tm j, p⟩
  | some ⟨.sl j, p⟩ => if j = i then none else some ⟨.sl j, p⟩
  | x => x
theorem StW.setM {i : Nat} {d : D} {v : V} (S : StW G C ow r (T ++ (d, v) :: T2) s H) (hp : ∀ p ∈ C.pin, p.1 ≠ i) : StW G C (movedM ow T.length i) (r.set i (some d)) (T ++ T2) (s.set i (some v)) H where
  len := by simpa using S.len
  sl := fun j d' q => by
    by_cases hj : j = i
    · subst hj
      have hlt : j < r.length := by
        have := (List.getElem?_eq_some_iff.mp q).1
        simpa using this
      rw [List.getElem?_set_self hlt] at q
      cases q
      refine ⟨v, by rw [List.getElem?_set_self (by rw [← S.len]; exact hlt)], ?_⟩
      have z := S.tm T.length d v (by simp)
      refine Rep.mono (l := ⟨.tm T.length, []⟩) d (fun _ _ z _ => z) (fun _ _ z _ => z) (fun a o _ n => by unfold movedM; rw [n]) (fun a o q _ n => ?_) z
      have n' : ow a = some ⟨.tm T.length, [] ++ q⟩ := n
      unfold movedM
      rw [n']
      simp [Loc.app]
    · rw [List.getElem?_set_ne (Ne.symm hj)] at q
      obtain ⟨v', h1, h2⟩ := S.sl j d' q
      refine ⟨v', by rw [List.getElem?_set_ne (Ne.symm hj)]; exact h1, ?_⟩
      refine Rep.mono (l := ⟨.sl j, []⟩) d' (fun _ _ z _ => z) (fun _ _ z _ => z) (fun a o _ n => by unfold movedM; rw [n]) (fun a o q _ n => ?_) h2
      have n' : ow a = some ⟨.sl j, [] ++ q⟩ := n
      unfold movedM
      rw [n']
      simp [Loc.app, hj]
  tm := fun k d' v' q => by
    by_cases hk : k < T.length
    · rw [List.getElem?_append_left hk] at q
      have z := S.tm k d' v' (by rw [List.getElem?_append_left hk]; exact q)
      refine Rep.mono (l := ⟨.tm k, []⟩) d' (fun _ _ z _ => z) (fun _ _ z _ => z) (fun a o _ n => by unfold movedM; rw [n]) (fun a o q _ n => ?_) z
      have n' : ow a = some ⟨.tm k, [] ++ q⟩ := n
      unfold movedM
      rw [n']
      have h1 : ¬ k = T.length := by omega
      have h2 : ¬ T.length < k := by omega
      simp [Loc.app, h1, h2]
    · rw [List.getElem?_append_right (by omega)] at q
      have z := S.tm (k + 1) d' v' (by
        rw [List.getElem?_append_right (by omega), show k + 1 - T.length = (k - T.length) + 1 by omega]
        simpa using q)
      refine Rep.mono (l := ⟨.tm (k + 1), []⟩) d' (fun _ _ z _ => z) (fun _ _ z _ => z) (fun a o _ n => by unfold movedM; rw [n]) (fun a o q _ n => ?_) z
      have n' : ow a = some ⟨.tm (k + 1), [] ++ q⟩ := n
      unfold movedM
      rw [n']
      have h1 : ¬ k + 1 = T.length := by omega
      have h2 : T.length < k + 1 := by omega
      simp [Loc.app, h1, h2]
  old := S.old
  own := fun a l q => by
    cases e : ow a with
    | none => unfold movedM at q; rw [e] at q; cases q
    | some m =>
      obtain ⟨mb, mp⟩ := m
      cases mb with
      | fo =>
        unfold movedM at q; rw [e] at q; cases q
        exact .inl rfl
      | sl j => exact (S.own a _ e).elim (fun z => nomatch z) .inr
      | tm j => exact (S.own a _ e).elim (fun z => nomatch z) .inr
  fo := fun a q => by
    have z := S.fo a q
    unfold movedM; rw [z]
  mu := fun a l q => by
    cases e : ow a with
    | none => unfold movedM at q; rw [e] at q; cases q
    | some m => exact S.mu a m e
  pin := fun p hm => by
    rw [List.getElem?_set_ne (Ne.symm (hp p hm))]
    exact S.pin p hm
/-- the last temporary, a tuple, falls into its parts -/
def spread (ow : Ow) (n : Nat) : Ow := fun a => match ow a with
  | some ⟨.tm j, p⟩ => if j < n then some ⟨.tm j, p⟩ else if j = n then (match p with
    | k :: p' => some ⟨.tm (n + k), p'⟩
    | [] => none) else none
  | x => x
theorem StW.spread {k : Kd} {o : Bool} {ds : List D} {v : V} (S : StW G C ow r (T ++ [(.node k o ds, v)]) s H) : ∃ a vs, v = .ref a ∧ Holds G H a k vs ∧ ds.length = vs.length ∧ StW G C (VL.spread ow T.length) r (T ++ ds.zip vs) s H := by
  obtain ⟨a, vs, ev, h1, h2, h3⟩ := S.last
  refine ⟨a, vs, ev, h1, h3.length, S.len, fun i d q => ?_, fun j d v q => ?_, S.old, fun b l q => ?_, fun b q => ?_, fun b l q => ?_, S.pin⟩
  · obtain ⟨v', z1, z2⟩ := S.sl i d q
    refine ⟨v', z1, Rep.mono (l := ⟨.sl i, []⟩) d (fun _ _ z _ => z) (fun _ _ z _ => z) (fun a o _ n => by unfold VL.spread; rw [n]) (fun a o q _ n => ?_) z2⟩
    have n' : ow a = some ⟨.sl i, [] ++ q⟩ := n
    unfold VL.spread
    rw [n']
    rfl
  · by_cases hj : j < T.length
    · rw [List.getElem?_append_left hj] at q
      have z := S.tm j d v (by rw [List.getElem?_append_left hj]; exact q)
      refine Rep.mono (l := ⟨.tm j, []⟩) d (fun _ _ z _ => z) (fun _ _ z _ => z) (fun a o _ n => by unfold VL.spread; rw [n]) (fun a o q _ n => ?_) z
      have n' : ow a = some ⟨.tm j, [] ++ q⟩ := n
      unfold VL.spread
      rw [n']
      simp [Loc.app, hj]
    · rw [List.getElem?_append_right (by omega)] at q
      obtain ⟨q1, q2⟩ := List.getElem?_zip_eq_some.mp q
      obtain ⟨v', z1, z2⟩ := h3.get (j - T.length) d q1
      rw [q2] at z1
      cases z1
      refine Rep.mono (l := Loc.sub ⟨.tm T.length, []⟩ (0 + (j - T.length))) d (fun _ _ z _ => z) (fun _ _ z _ => z) (fun a o _ n => by unfold VL.spread; rw [n]) (fun a o q _ n => ?_) z2
      have n' : ow a = some ⟨.tm T.length, (j - T.length) :: q⟩ := by
        rw [n]; simp [Loc.sub, Loc.app]
      unfold VL.spread
      rw [n']
      simp [Loc.app]
      omega
  · cases e : ow b with
    | none => unfold VL.spread at q; rw [e] at q; cases q
    | some m =>
      obtain ⟨mb, mp⟩ := m
      cases mb with
      | fo =>
        unfold VL.spread at q; rw [e] at q; cases q
        exact .inl rfl
      | sl j => exact (S.own b _ e).elim (fun z => nomatch z) .inr
      | tm j => exact (S.own b _ e).elim (fun z => nomatch z) .inr
  · have z := S.fo b q
    unfold VL.spread; rw [z]
  · cases e : ow b with
    | none => unfold VL.spread at q; rw [e] at q; cases q
    | some m => exact S.mu b m e

/-! ### targets -/
/-- a name, or names in a tuple -/
inductive Tg where
  | nm (i : Nat) | tp (is : List Nat) | tl (is : List Nat)
def setAll (r : Rho) : List Nat → List D → Rho
  | i :: is, d :: ds => setAll (r.set i (some d)) is ds
  | _, _ => r
def tgt : Tg → D → Rho → Option Rho
  | .nm i, d, r => some (r.set i (some d))
  | .tp is, .node .tup _ ds, r => if is.length = ds.length then some (setAll r is ds) else none
  | .tl is, .node .lst _ ds, r => if is.length = ds.length then some (setAll r is ds) else none
  | _, _, _ => none
def Tg.slots : Tg → List Nat
  | .nm i => [i]
  | .tp is => is
  | .tl is => is
/-- alike but at the slots is -/
def But (is : List Nat) (s s' : L2.St) : Prop := s'.length = s.length ∧ ∀ j, j ∉ is → s'[j]? = s[j]?
theorem But.refl {is : List Nat} {s : L2.St} : But is s s := ⟨rfl, fun _ _ => rfl⟩
theorem But.set {i : Nat} {x : Option V} {s : L2.St} : But [i] s (s.set i x) := ⟨by simp, fun j h => List.getElem?_set_ne (fun e => h (by simp [e]))⟩
theorem But.cons {i : Nat} {is : List Nat} {x : Option V} {s s' : L2.St} (h : But is (s.set i x) s') : But (i :: is) s s' :=
  ⟨h.1.trans (by simp), fun j n => (h.2 j (fun z => n (List.mem_cons_of_mem _ z))).trans (List.getElem?_set_ne (fun e => n (by simp [e])))⟩
def tVG (G : GX) (C : Fc) (t : Tg) : TG := fun v s H Q => ∃ r T d, StOk G C r (T ++ [(d, v)]) s H ∧ match tgt t d r with
  | some r' => ∀ s' H', StOk G C r' T s' H' → But t.slots s s' → Q s' H'
  | none => False
abbrev VG (X : Cx) (G : GX) (C : Fc) (e : Expr) (t : Tg) : Prop := PG X e (tVG G C t)
theorem PG.imp {e : Expr} {t t' : TG} (h : PG X e t) (i : ∀ v s H Q, t' v s H Q → t v s H Q) : PG X e t' := ⟨fun pins s σ H v u Q I rr w => h.run pins s σ H v u Q I rr (i _ _ _ _ w)⟩
theorem vg_name {i : Nat} {x : Str} {pos : Pos} (hN : X.N.Nodup) (hi : X.N[i]? = some x) (hx : L2.Loc X.env.scope x) (hp : ∀ p ∈ C.pin, p.1 ≠ i) (hf : X.fn x = true ∨ X.env.scope.names.lookup x = some .local := by first | exact .inl rfl | exact .inr rfl | assumption) : VG X G C (.Name x pos) (.nm i) := by
  refine PG.imp (pg_name hN hi hx hf) fun v s H Q h => ?_
  obtain ⟨r, T, d, S, h⟩ := h
  exact h _ _ (S.set hp) But.set
/-- the parts are on their way -/
def tVGs (G : GX) (C : Fc) (is : List Nat) : TGs := fun vs s H Q => ∃ r T ds, ds.length = vs.length ∧ is.length = ds.length ∧ StOk G C r (T ++ ds.zip vs) s H ∧ ∀ s' H', StOk G C (setAll r is ds) T s' H' → But is s s' → Q s' H'
abbrev VGs (X : Cx) (G : GX) (C : Fc) (es : List Expr) (is : List Nat) : Prop := PGs X es (tVGs G C is)
theorem vgs_nil : VGs X G C [] [] := by
  refine ⟨fun pins s σ H vs us Q I rr h => pgs_nil.run pins s σ H vs us Q I rr ?_⟩
  obtain ⟨r, T, ds, h1, h2, S, h⟩ := h
  have e1 : ds = [] := List.eq_nil_of_length_eq_zero h2.symm
  subst e1
  have e2 : vs = [] := List.eq_nil_of_length_eq_zero h1.symm
  subst e2
  have S' : StOk G C r T σ H := by simpa using S
  exact ⟨rfl, h _ _ S' But.refl⟩
theorem vgs_cons {i : Nat} {x : Str} {pos : Pos} {es : List Expr} {is : List Nat} (hN : X.N.Nodup) (hi : X.N[i]? = some x) (hx : L2.Loc X.env.scope x) (hp : ∀ p ∈ C.pin, p.1 ≠ i) (h2 : VGs X G C es is)
    (hf : X.fn x = true ∨ X.env.scope.names.lookup x = some .local := by first | exact .inl rfl | exact .inr rfl | assumption)
    (hs : (assignEach (.Name x pos :: es) X.env).map (·.2) = assign (.Name x pos) X.env :: (assignEach es X.env).map (·.2) := by rfl) : VGs X G C (.Name x pos :: es) (i :: is) := by
  refine ⟨fun pins s σ H vs us Q I rr h => (pgs_cons (pg_name hN hi hx hf) h2 hs).run pins s σ H vs us Q I rr ?_⟩
  obtain ⟨r, T, ds, h1, h2, S, h⟩ := h
  cases ds with
  | nil => cases h2
  | cons d ds =>
    cases vs with
    | nil => cases h1
    | cons v vs =>
      refine ⟨v, vs, rfl, r.set i (some d), T, ds, by simpa using h1, by simpa using h2, ?_, fun s' H' S' b => h s' H' S' b.cons⟩
      obtain ⟨ow, S⟩ := S
      exact ⟨_, StW.setM (T := T) (T2 := ds.zip vs) S hp⟩
theorem vg_tup {es : List Expr} {is : List Nat} {k : Nat} {pos : Pos} (hc : X.calm = true) (h : VGs X G C es is)
    (hn : (assignEach es X.env).length = is.length := by rfl) (hst : (assignEach es X.env).findIdx? (·.1) = none := by rfl) : VG X G C (.Tuple es k pos) (.tp is) := by
  refine PG.imp (pg_tup hc h hn hst) fun v s H Q h => ?_
  obtain ⟨r, T, d, S, h⟩ := h
  obtain ⟨ow, S⟩ := S
  cases d with
  | node k o ds =>
    cases k with
    | tup =>
      obtain ⟨a, vs, ev, h1, h2, S'⟩ := S.spread
      by_cases hl : is.length = ds.length
      · have e : tgt (.tp is) (.node .tup o ds) r = some (setAll r is ds) := if_pos hl
        rw [e] at h
        exact ⟨a, vs, ev, SqT.of h1, by rw [← h2]; exact hl.symm, r, T, ds, h2, hl, ⟨_, S'⟩, h⟩
      · have e : tgt (.tp is) (.node .tup o ds) r = none := if_neg hl
        rw [e] at h
        exact h.elim
    | _ => exact h.elim
  | _ => exact h.elim
/-- a target is given a value; what a name held is shared -/
def asgK (t : Tg) (x : R) (r1 : Rho) : SO := match x with
  | .val d => (match tgt t d r1 with
    | some r2 => .nx r2
    | none => .bad)
  | .loc _ => .bad
@[simp] theorem asgK_nm (i : Nat) (d : D) (r : Rho) : asgK (.nm i) (.val d) r = .nx (r.set i (some d)) := rfl
def cAsg (t : Tg) (fa : Ev) : Sv := fun r => (cSet fa r).st (asgK t)
theorem asg_go {t : Tg} {D : Ends} {v : V} {x : R} {r1 : Rho} {H1 : Hp} (P : Post G C r1 T s H1 x v) (h : GoesS G C W T D (asgK t x r1)) : tVG G C t v s H1 D.nx := by
  cases x with
  | loc i => exact h.elim
  | val d =>
    refine ⟨r1, T, d, P.1, ?_⟩
    unfold asgK at h
    cases e : tgt t d r1 with
    | some r2 => simp only [e] at h ⊢; exact fun s' H' S' _ => h s' H' S'
    | none => simp only [e] at h; exact h.elim
theorem vs_asg {tg e : Expr} {t : Tg} {pos : Pos} (he : VE X G C W e fa) (hg : VG X G C tg t) (hs : swapsWithSole [tg] e pos.line X.env = pure false := by rfl) (hw : swappedStores [tg] e X.env = pure none := by rfl)
    (h1 : (assignEach [tg] X.env).map (·.2) = [assign tg X.env] := by rfl) : VS X G C W (.Assign [tg] e pos) (cAsg t fa) := by
  refine PS.imp (ps_asg (ve_set he) hg hs hw h1) fun D s H h => ?_
  obtain ⟨r, T, S, h⟩ := h
  exact oneS (fa := cSet fa) S h fun x v r1 H1 P g => asg_go P g
theorem vs_set {i : Nat} {x : Str} {e : Expr} {pos pos' : Pos} (hN : X.N.Nodup) (hi : X.N[i]? = some x) (hx : L2.Loc X.env.scope x) (hp : ∀ p ∈ C.pin, p.1 ≠ i) (he : VE X G C W e fa) (hs : swapsWith e (some (.Name x pos')) pos.line X.env = pure false := by rfl)
    (hf : X.fn x = true ∨ X.env.scope.names.lookup x = some .local := by first | exact .inl rfl | exact .inr rfl | assumption) : VS X G C W (.Assign [.Name x pos'] e pos) (cAsg (.nm i) fa) := by
  refine PS.imp (ps_set hN hi hx (ve_set he) hs hf) fun D s H h => ?_
  obtain ⟨r, T, S, h⟩ := h
  refine oneS (fa := cSet fa) S h fun x v r1 H1 P g => ?_
  cases x with
  | loc i => exact g.elim
  | val d => exact g _ _ (P.1.set hp)

/-! ### name op= e -/
abbrev TIpS (X : Cx) (op : Operator) (g : G2) : Prop := OpS X (inplaceOp op) g
def cAug (i : Nat) (g : G2) (fb : Ev) : Sv := fun r => match r[i]? with
  | some (some d) => if atom d = true then (fb r).st fun y r1 => (g (.val d) y r1).st fun z r2 => match z with
    | .val d' => .nx (r2.set i (some d'))
    | .loc _ => .bad else .bad
  | _ => .bad
theorem vs_aug {i : Nat} {x : Str} {e : Expr} {op : Operator} {g : G2} {pos' pos : Pos} (hN : X.N.Nodup) (hi : X.N[i]? = some x) (hx : L2.Loc X.env.scope x) (hp : ∀ p ∈ C.pin, p.1 ≠ i) (ho : OpS X (inplaceOp op) g) (he : VE X G C W e fb)
    (hf : X.fn x = true ∨ X.env.scope.names.lookup x = some .local := by first | exact .inl rfl | exact .inr rfl | assumption) : VS X G C W (.AugAssign (.Name x pos') op e pos) (cAug i g fb) := by
  obtain ⟨rr, h1, h2⟩ := ho
  refine PS.imp (ps_aug (ti := rr) hN hi hx he h1 hf) fun D s H h => ?_
  obtain ⟨r, T, S, h⟩ := h
  unfold cAug at h
  cases q : r[i]? with
  | none => rw [q] at h; exact h.elim
  | some o =>
    cases o with
    | none => rw [q] at h; exact h.elim
    | some d =>
      rw [q] at h
      simp only at h
      split at h
      · rename_i a
        obtain ⟨ow, S⟩ := S
        obtain ⟨v, q1, q2⟩ := S.sl i d q
        refine ⟨v, q1, ?_⟩
        have S1 : StOk G C r (T ++ [(d, v)]) s H := ⟨ow, S.push (q2.of_atom a)⟩
        refine ⟨r, T ++ [(d, v)], S1, ?_⟩
        cases e : fb r with
        | ok y r1 =>
          rw [e] at h
          simp only [st_ok] at h
          intro u H1 P
          refine h2 G C W r1 T s H1 (.val d) y v u _ (by show StOk G C r1 (T ++ ([(d, v)] ++ pushR y u)) s H1; rw [← List.append_assoc]; exact P.1) trivial P.2 ?_
          cases e2 : g (.val d) y r1 with
          | ok z r2 =>
            rw [e2] at h
            simp only [st_ok] at h
            cases z with
            | loc j => exact h.elim
            | val d' => exact fun w H2 P2 => h _ _ (P2.1.set hp)
          | exc c r2 => rw [e2] at h; exact fun H2 S2 => h s H2 S2
          | bad => rw [e2] at h; exact h.elim
        | exc c r1 => rw [e] at h; exact fun H' S' => h s H' S'.drop
        | bad => rw [e] at h; exact h.elim
      · exact h.elim
/-- a += b of scalars -/
def iAdd (d e : D) : Option D := match d, e with
  | .int i, .int j => some (.int (i + j))
  | .str a, .str b => if a.length + b.length ≤ 16777216 then some (.str (a ++ b)) else none
  | _, _ => none
theorem os_iadd : OpS X (inplaceOp .Add) (g2 iAdd) := by
  refine OpS.scal (iop_add.or iop_add_str) fun G ow H d e z l m v u Q h1 h2 e3 q => ?_
  unfold iAdd at e3
  split at e3
  · cases e3
    exact .inl ⟨_, _, h1, h2, q _ fun _ _ => rfl⟩
  · split at e3
    · cases e3
      exact .inr ⟨_, _, h1, h2, by rw [sizeLine_eq]; assumption, q _ fun _ _ => rfl⟩
    · cases e3
  · cases e3

/-! ### raise -/
def cRaise (c : Nat) : Sv := fun r => .exc c r
theorem vs_raise {c : Nat} {x m : Str} {j : Nat} {p p2 pos pos' : Pos} (hcm : X.calm = true) (tk : Takes X W) (q : PySem.W.excIn X.K (G c) [.type "ValueError", .type "Exception", .type "BaseException", .type "object"] "ValueError.__new__" = true) (gC : X.mg x = some (.ref (G c))) (kC : PySem.W.keepIn X.K (.ref (G c)) = true)
    (rs : Raises X (.ref (G c))) (hg : Gl X x) (hdb : (x == ("__debug__" : Str)) = false := by decide) : VS X G C W (.Raise (some (.Call (.Name x p) [.Constant (.str m) j p2] [] pos)) none pos') (cRaise c) := by
  refine PS.imp (ps_raise hcm tk (pmk_own PySem.F.excBase_ValueError q gC kC rs hg hdb)) fun D s H h => ?_
  obtain ⟨r, T, S, h⟩ := h
  exact h s H S
end
end VL

namespace VL
open PySem PySem.Spec PyProof.Rows L2
section
variable {X : Cx} {G : GX} {C : Fc} {W : WX} {ow ow' : Ow} {r : Rho} {T T1 T2 : List (D × V)} {s : L2.St} {H H' : Hp} {fa fb fc : Ev} {f g : Sv}

/-! ### temporaries dropped amid -/
def slid (ow : Ow) (n m : Nat) : Ow := fun a => match ow a with
  | some ⟨.tm j, p⟩ => if j < n then some ⟨.tm j, p⟩ else if j = m then some ⟨.tm n, p⟩ else none
  | x => x
theorem StW.slide {d : D} {v : V} (S : StW G C ow r (T ++ T2 ++ [(d, v)]) s H) : StW G C (slid ow T.length (T.length + T2.length)) r (T ++ [(d, v)]) s H where
  len := S.len
  sl := fun i d q => by
    obtain ⟨v', z1, z2⟩ := S.sl i d q
    refine ⟨v', z1, Rep.mono (l := ⟨.sl i, []⟩) d (fun _ _ z _ => z) (fun _ _ z _ => z) (fun a o _ n => by unfold slid; rw [n]) (fun a o q _ n => ?_) z2⟩
    have n' : ow a = some ⟨.sl i, [] ++ q⟩ := n
    unfold slid
    rw [n']
    rfl
  tm := fun j d' v' q => by
    by_cases hj : j < T.length
    · rw [List.getElem?_append_left hj] at q
      have z := S.tm j d' v' (by rw [List.append_assoc, List.getElem?_append_left hj]; exact q)
      refine Rep.mono (l := ⟨.tm j, []⟩) d' (fun _ _ z _ => z) (fun _ _ z _ => z) (fun a o _ n => by unfold slid; rw [n]) (fun a o q _ n => ?_) z
      have n' : ow a = some ⟨.tm j, [] ++ q⟩ := n
      unfold slid
      rw [n']
      simp [Loc.app, hj]
    · rw [List.getElem?_append_right (by omega)] at q
      have e : j = T.length := by
        have := (List.getElem?_eq_some_iff.mp q).1
        simp at this; omega
      subst e
      simp at q
      obtain ⟨e1, e2⟩ := q
      subst e1; subst e2
      have z := S.tm (T.length + T2.length) d v (by
        rw [List.getElem?_append_right (by simp)]
        simp)
      refine Rep.mono (l := ⟨.tm (T.length + T2.length), []⟩) d (fun _ _ z _ => z) (fun _ _ z _ => z) (fun a o _ n => by unfold slid; rw [n]) (fun a o q _ n => ?_) z
      have n' : ow a = some ⟨.tm (T.length + T2.length), [] ++ q⟩ := n
      have h : ¬ T.length + T2.length < T.length := by omega
      unfold slid
      rw [n']
      simp [Loc.app, h]
  old := S.old
  own := fun a l q => by
    cases e : ow a with
    | none => unfold slid at q; rw [e] at q; cases q
    | some m =>
      obtain ⟨mb, mp⟩ := m
      cases mb with
      | fo =>
        unfold slid at q; rw [e] at q; cases q
        exact .inl rfl
      | sl j => exact (S.own a _ e).elim (fun z => nomatch z) .inr
      | tm j => exact (S.own a _ e).elim (fun z => nomatch z) .inr
  fo := fun a q => by
    have z := S.fo a q
    unfold slid; rw [z]
  mu := fun a l q => by
    cases e : ow a with
    | none => unfold slid at q; rw [e] at q; cases q
    | some m => exact S.mu a m e
  pin := S.pin
theorem Post.slide {x : R} {v : V} (P : Post G C r (T ++ T2) s H x v) : Post G C r T s H x v := by
  obtain ⟨⟨ow, S⟩, l⟩ := P
  cases x with
  | val d => exact ⟨⟨_, StW.slide S⟩, l⟩
  | loc i =>
    have S' : StW G C ow r (T ++ T2) s H := by simpa [pushR] using S
    refine ⟨⟨ow, ?_⟩, l⟩
    have z : StW G C ow r T s H := S'.drop
    simpa [pushR] using z

/-! ### what is walked -/
def CurOk (G : GX) (C : Fc) (J : It) (items : List D) (tk : Nat → List (D × V)) : Prop :=
  (∀ (i : Nat) d r T s H, items[i]? = some d → StOk G C r (T ++ tk i) s H → J.go i H ∧ ∀ x H', J.yld i H x H' → StOk G C r (T ++ tk (i + 1) ++ [(d, x)]) s H') ∧
    ∀ r T s H, StOk G C r (T ++ tk items.length) s H → J.stop items.length H
inductive IO where
  | ok (ds : List D) (r : Rho) | exc (c : Nat) (r : Rho) | bad
abbrev Iv := Rho → IO
def tVI (G : GX) (C : Fc) (W : WX) (f : Iv) : TI := fun s H R => ∃ r T, StOk G C r T s H ∧ match f r with
  | .ok ds r' => ∀ J H' tk, CurOk G C J ds tk → StOk G C r' (T ++ tk 0) s H' → R J H'
  | .exc c r' => ∀ H', StOk G C r' T s H' → W (.ref (G c)) none s H'
  | .bad => False
abbrev VI (X : Cx) (G : GX) (C : Fc) (W : WX) (tg e : Expr) (f : Iv) : Prop := PI X tg e (tVI G C W f)
theorem PI.imp {tg e : Expr} {t t' : TI} (h : PI X tg e t) (i : ∀ s H Q, t' s H Q → t s H Q) : PI X tg e t' := ⟨fun pins s σ H R I w => h.run pins s σ H R I (i _ _ _ w)⟩

/-! ### for -/
def forL (t : Tg) (f : Sv) : List D → Rho → SO
  | [], r => .nx r
  | d :: ds, r => match tgt t d r with
    | none => .bad
    | some r1 => (match f r1 with
      | .nx r2 => forL t f ds r2
      | .ct r2 => forL t f ds r2
      | .bk r2 => .nx r2
      | o => o)
def cFor (t : Tg) (fi : Iv) (f : Sv) : Sv := fun r => match fi r with
  | .ok ds r1 => forL t f ds r1
  | .exc c r1 => .exc c r1
  | .bad => .bad
theorem vs_for {tg iter : Expr} {body : List Stmt} {fi : Iv} {t : Tg} {pos : Pos} (hp : PassesOwn (model X.prog X.w) X.A X.env X.xe) (hc : X.calm = true) (hi : VI X G C W tg iter fi) (hg : VG X G C tg t) (hb : VSs X G C W body f)
    (hs : ∀ x, foldedSetIterable iter X.env x = pure x := by intro _; rfl) : VS X G C W (.For tg iter body [] pos) (cFor t fi f) := by
  refine PS.imp (ps_for hp hc hi hg hb hs) fun D s H h => ?_
  obtain ⟨r, T, S, h⟩ := h
  refine ⟨r, T, S, ?_⟩
  unfold cFor at h
  cases e : fi r with
  | exc c r1 => rw [e] at h; exact fun H' S' => h s H' S'
  | bad => rw [e] at h; exact h.elim
  | ok ds r1 =>
    rw [e] at h
    simp only at h
    intro J H1 tk hk S1
    refine ⟨fun i m s' H' => m = ds.length - i ∧ i ≤ ds.length ∧ ∃ r', StOk G C r' (T ++ tk i) s' H' ∧ GoesS G C W T D (forL t f (ds.drop i) r'), ⟨ds.length, by simp, Nat.zero_le _, r1, S1, by simpa using h⟩, ?_⟩
    rintro i m s' H' ⟨rfl, hi', r', S', h'⟩
    by_cases hlt : i < ds.length
    · have ed : ds[i]? = some ds[i] := List.getElem?_eq_getElem hlt
      obtain ⟨k1, k2⟩ := hk.1 i ds[i] r' T s' H' ed S'
      rw [List.drop_eq_getElem_cons hlt] at h'
      refine .inr ⟨k1, fun s2 H2 => ∃ r2, StOk G C r2 (T ++ tk (i + 1)) s2 H2 ∧ GoesS G C W T D (forL t f (ds.drop (i + 1)) r2), fun s2 H2 n2 => ⟨ds.length - (i + 1), by omega, rfl, hlt, n2⟩, fun x H2 y => ?_⟩
      have S2 := k2 x H2 y
      refine ⟨r', T ++ tk (i + 1), ds[i], S2, ?_⟩
      unfold forL at h'
      cases e1 : tgt t ds[i] r' with
      | none => simp only [e1] at h'; exact h'.elim
      | some r2 =>
        simp only [e1] at h' ⊢
        intro s3 H3 S3 _
        refine ⟨r2, T ++ tk (i + 1), S3, ?_⟩
        cases e2 : f r2 with
        | nx r3 => simp only [e2] at h'; exact fun s4 H4 S4 => ⟨r3, S4, h'⟩
        | ct r3 => simp only [e2] at h'; exact fun s4 H4 S4 => ⟨r3, S4, h'⟩
        | bk r3 => simp only [e2] at h'; exact fun s4 H4 S4 => h' s4 H4 S4.drop
        | rt x r3 => simp only [e2] at h'; exact fun s4 v H4 P4 => h' s4 v H4 P4.slide
        | exc c r3 => simp only [e2] at h'; exact fun s4 H4 S4 => h' s4 H4 S4.drop
        | bad => simp only [e2] at h'; exact h'.elim
    · have ei : i = ds.length := by omega
      subst ei
      rw [List.drop_length] at h'
      exact .inl ⟨hk.2 r' T s' H' S', h' s' H' S'.drop⟩

/-! ### while -/
def whileL (ft : Ev) (f : Sv) : Nat → Rho → SO
  | 0, _ => .bad
  | n + 1, r => (ft r).st fun x r1 => match x with
    | .val (.bl true) => (match f r1 with
      | .nx r2 => whileL ft f n r2
      | .ct r2 => whileL ft f n r2
      | .bk r2 => .nx r2
      | o => o)
    | .val (.bl false) => .nx r1
    | _ => .bad
theorem vs_while {c : Expr} {body : List Stmt} {pos : Pos} (n : Nat) (hp : PassesOwn (model X.prog X.w) X.A X.env X.xe) (hc : VT X G C W c fc) (hb : VSs X G C W body f) : VS X G C W (.While c body [] pos) (whileL fc f n) := by
  refine PS.imp (ps_while hp hc hb) fun D s H h => ?_
  obtain ⟨r, T, S, h⟩ := h
  refine ⟨fun m s' H' => ∃ r', StOk G C r' T s' H' ∧ GoesS G C W T D (whileL fc f m r'), ⟨n, r, S, h⟩, ?_⟩
  rintro m s' H' ⟨r', S', h'⟩
  cases m with
  | zero => exact h'.elim
  | succ m =>
    unfold whileL at h'
    refine ⟨r', T, S', ?_⟩
    cases e : fc r' with
    | exc c r1 => rw [e] at h'; exact fun H2 S2 => h' s' H2 S2
    | bad => rw [e] at h'; exact h'.elim
    | ok x r1 =>
      rw [e] at h'
      simp only [st_ok] at h'
      cases x with
      | loc i => exact h'.elim
      | val d =>
        cases d with
        | bl b =>
          cases b with
          | false => exact fun H2 S2 => (if_neg Bool.false_ne_true).mpr (h' s' H2 S2)
          | true =>
            refine fun H2 S2 => (if_pos rfl).mpr ⟨fun s3 H3 => ∃ r3, StOk G C r3 T s3 H3 ∧ GoesS G C W T D (whileL fc f m r3), fun s3 H3 n3 => ⟨m, Nat.lt_succ_self m, n3⟩, r1, T, S2, ?_⟩
            simp only at h'
            cases e2 : f r1 with
            | nx r3 => simp only [e2] at h'; exact fun s4 H4 S4 => ⟨r3, S4, h'⟩
            | ct r3 => simp only [e2] at h'; exact fun s4 H4 S4 => ⟨r3, S4, h'⟩
            | bk r3 => simp only [e2] at h'; exact fun s4 H4 S4 => h' s4 H4 S4
            | rt x r3 => simp only [e2] at h'; exact fun s4 v H4 P4 => h' s4 v H4 P4
            | exc c r3 => simp only [e2] at h'; exact fun s4 H4 S4 => h' s4 H4 S4
            | bad => simp only [e2] at h'; exact h'.elim
        | _ => exact h'.elim

/-! ### a list or tuple that is walked: its parts go on one by one -/
def takenAt (ow : Ow) (n i : Nat) : Ow := fun a => match ow a with
  | some ⟨.tm j, p⟩ => if j = n then (match p with
    | k :: p' => if k = i then some ⟨.tm (n + 1), p'⟩ else some ⟨.tm j, p⟩
    | [] => some ⟨.tm j, p⟩) else some ⟨.tm j, p⟩
  | x => x
def leftAt (ds : List D) (i : Nat) : List D := List.replicate i .any ++ ds.drop i
theorem leftAt_get {ds : List D} {i j : Nat} (hi : i ≤ ds.length) : (leftAt ds i)[j]? = if j < i then some .any else ds[j]? := by
  unfold leftAt
  by_cases h : j < i
  · rw [if_pos h, List.getElem?_append_left (by simpa using h)]
    simp [h]
  · rw [if_neg h, List.getElem?_append_right (by simp; omega), List.length_replicate, List.getElem?_drop]
    congr 1; omega
theorem leftAt_length {ds : List D} {i : Nat} (hi : i ≤ ds.length) : (leftAt ds i).length = ds.length := by
  unfold leftAt; simp; omega
theorem StW.take1 {k : Kd} {o : Bool} {ds : List D} {i : Nat} {d : D} {v : V} (S : StW G C ow r (T ++ [(.node k o (leftAt ds i), v)]) s H) (hd : ds[i]? = some d) :
    ∃ a vs x, v = .ref a ∧ Holds G H a k vs ∧ vs[i]? = some x ∧ StW G C (takenAt ow T.length i) r (T ++ [(.node k o (leftAt ds (i + 1)), v)] ++ [(d, x)]) s H := by
  have hi : i < ds.length := (List.getElem?_eq_some_iff.mp hd).1
  obtain ⟨a, vs, ev, h1, h2, h3⟩ := S.last
  have hl := h3.length
  rw [leftAt_length (by omega)] at hl
  obtain ⟨x, x1, x2⟩ := h3.get i d (by rw [leftAt_get (by omega), if_neg (by omega)]; exact hd)
  refine ⟨a, vs, x, ev, h1, x1, S.len, fun i' d q => ?_, fun j d' v' q => ?_, S.old, fun b l q => ?_, fun b q => ?_, fun b l q => ?_, S.pin⟩
  · obtain ⟨v', z1, z2⟩ := S.sl i' d q
    refine ⟨v', z1, Rep.mono (l := ⟨.sl i', []⟩) d (fun _ _ z _ => z) (fun _ _ z _ => z) (fun a o _ n => by unfold takenAt; rw [n]) (fun a o q _ n => ?_) z2⟩
    have n' : ow a = some ⟨.sl i', [] ++ q⟩ := n
    unfold takenAt
    rw [n']
    rfl
  · by_cases hj : j < T.length
    · rw [List.append_assoc, List.getElem?_append_left hj] at q
      have z := S.tm j d' v' (by rw [List.getElem?_append_left hj]; exact q)
      refine Rep.mono (l := ⟨.tm j, []⟩) d' (fun _ _ z _ => z) (fun _ _ z _ => z) (fun a o _ n => by unfold takenAt; rw [n]) (fun a o q _ n => ?_) z
      have n' : ow a = some ⟨.tm j, [] ++ q⟩ := n
      unfold takenAt
      rw [n']
      have : ¬ j = T.length := by omega
      simp [Loc.app, this]
    · rw [List.append_assoc, List.getElem?_append_right (by omega)] at q
      rcases (show j - T.length = 0 ∨ j - T.length = 1 by
        have := (List.getElem?_eq_some_iff.mp q).1
        simp at this; omega) with e | e
      · rw [e] at q
        simp at q
        obtain ⟨e1, e2⟩ := q
        subst e1; subst e2
        have ej : j = T.length := by omega
        subst ej
        refine ⟨a, vs, ev, h1, ?_, Reps.of_get (by rw [leftAt_length (by omega)]; exact hl) fun m dm vm q1 q2 => ?_⟩
        · rcases h2.cases with hk | h2
          · subst hk; trivial
          refine .mk ?_
          cases o with
          | true =>
            have n' : ow a = some ⟨.tm T.length, []⟩ := by simpa using h2
            unfold takenAt; rw [n']; simp
          | false =>
            have n' : ow a = none := by simpa using h2
            unfold takenAt; rw [n']; simp
        · rw [leftAt_get (by omega)] at q1
          by_cases hm : m < i + 1
          · rw [if_pos hm] at q1
            cases q1
            trivial
          · rw [if_neg hm] at q1
            obtain ⟨vm', z1, z2⟩ := h3.get m dm (by rw [leftAt_get (by omega), if_neg (by omega)]; exact q1)
            rw [q2] at z1
            cases z1
            refine Rep.mono (l := Loc.sub ⟨.tm T.length, []⟩ (0 + m)) dm (fun _ _ z _ => z) (fun _ _ z _ => z) (fun a o _ n => by unfold takenAt; rw [n]) (fun a o q _ n => ?_) z2
            have n' : ow a = some ⟨.tm T.length, m :: q⟩ := by rw [n]; simp [Loc.sub, Loc.app]
            unfold takenAt
            rw [n']
            have : ¬ m = i := by omega
            simp [Loc.app, Loc.sub, this]
      · rw [e] at q
        simp at q
        obtain ⟨e1, e2⟩ := q
        subst e1; subst e2
        have ej : j = T.length + 1 := by omega
        subst ej
        refine Rep.mono (l := Loc.sub ⟨.tm T.length, []⟩ (0 + i)) d (fun _ _ z _ => z) (fun _ _ z _ => z) (fun a o _ n => by unfold takenAt; rw [n]) (fun a o q _ n => ?_) x2
        have n' : ow a = some ⟨.tm T.length, i :: q⟩ := by rw [n]; simp [Loc.sub, Loc.app]
        unfold takenAt
        rw [n']
        simp [Loc.app]
  · cases e : ow b with
    | none => unfold takenAt at q; rw [e] at q; cases q
    | some m =>
      obtain ⟨mb, mp⟩ := m
      cases mb with
      | fo =>
        unfold takenAt at q; rw [e] at q; cases q
        exact .inl rfl
      | sl j => exact (S.own b _ e).elim (fun z => nomatch z) .inr
      | tm j => exact (S.own b _ e).elim (fun z => nomatch z) .inr
  · have z := S.fo b q
    unfold takenAt; rw [z]
  · cases e : ow b with
    | none => unfold takenAt at q; rw [e] at q; cases q
    | some m => exact S.mu b m e
theorem leftAt_zero (ds : List D) : leftAt ds 0 = ds := by unfold leftAt; simp
theorem cur_seq {K : PySem.W.Frag} {k : Kd} {o : Bool} {ds : List D} {a : Addr} (hk : ∀ H vs, Holds G H a k vs → SqL K H a vs) : CurOk G C (Itl K a) ds fun i => [(.node k o (leftAt ds i), .ref a)] := by
  refine ⟨fun i d r T s H hd S => ?_, fun r T s H S => ?_⟩
  · obtain ⟨ow, S⟩ := S
    obtain ⟨a', vs, x, ev, h1, hx, S'⟩ := S.take1 hd
    cases ev
    refine ⟨⟨vs, x, hk H vs h1, hx⟩, fun x' H' y => ?_⟩
    obtain ⟨e, y⟩ := y
    subst e
    have e2 := y vs (hk _ vs h1)
    rw [hx] at e2
    cases e2
    exact ⟨_, S'⟩
  · obtain ⟨ow, S⟩ := S
    obtain ⟨a', vs, ev, h1, h2, h3⟩ := S.last
    cases ev
    refine ⟨vs, hk H vs h1, ?_⟩
    rw [← h3.length, leftAt_length (Nat.le_refl _)]
    exact Nat.le_refl _
theorem cur_tup {K : PySem.W.Frag} {k : Kd} {o : Bool} {ds : List D} {a : Addr} (hk : ∀ H vs, Holds G H a k vs → SqT K H a vs) : CurOk G C (Itt K a) ds fun i => [(.node k o (leftAt ds i), .ref a)] := by
  refine ⟨fun i d r T s H hd S => ?_, fun r T s H S => ?_⟩
  · obtain ⟨ow, S⟩ := S
    obtain ⟨a', vs, x, ev, h1, hx, S'⟩ := S.take1 hd
    cases ev
    refine ⟨⟨vs, x, hk H vs h1, hx⟩, fun x' H' y => ?_⟩
    obtain ⟨e, y⟩ := y
    subst e
    have e2 := y vs (hk _ vs h1)
    rw [hx] at e2
    cases e2
    exact ⟨_, S'⟩
  · obtain ⟨ow, S⟩ := S
    obtain ⟨a', vs, ev, h1, h2, h3⟩ := S.last
    cases ev
    refine ⟨vs, hk H vs h1, ?_⟩
    rw [← h3.length, leftAt_length (Nat.le_refl _)]
    exact Nat.le_refl _
/-- over a list: what a name holds is shared -/
def iLst (fa : Ev) : Iv := fun r => match cSet fa r with
  | .ok (.val (.node .lst _ ds)) r1 => .ok ds r1
  | .ok (.val (.node .rd _ ds)) r1 => .ok ds r1
  | .exc c r1 => .exc c r1
  | _ => .bad
theorem vi_list {tg e : Expr} (hK : G.K = X.K) (he : VE X G C W e fa) : VI X G C W tg e (iLst fa) := by
  refine PI.imp (pi_list (ve_set he)) fun s H R h => ?_
  obtain ⟨r, T, S, h⟩ := h
  refine ⟨r, T, S, ?_⟩
  unfold iLst at h
  cases e1 : cSet fa r with
  | exc c r1 => rw [e1] at h; exact h
  | bad => rw [e1] at h; exact h
  | ok x r1 =>
    rw [e1] at h
    intro v H' P
    split at h
    · rename_i ds r' e'
      split at e'
      · rename_i o ds' r'' e''
        cases e'; cases e''
        obtain ⟨ow, S'⟩ := P.1
        obtain ⟨a, vs, ev, h1, h2, h3⟩ := S'.last
        subst ev
        refine ⟨a, rfl, ⟨vs, SqL.of h1⟩, h _ _ _ (cur_seq (k := .lst) (o := o) fun _ _ z => SqL.of z) ?_⟩
        rw [leftAt_zero]
        exact ⟨ow, S'⟩
      · rename_i o ds' r'' e''
        cases e'; cases e''
        obtain ⟨ow, S'⟩ := P.1
        obtain ⟨a, vs, ev, h1, h2, h3⟩ := S'.last
        subst ev
        refine ⟨a, rfl, ⟨vs, hK ▸ h1.seq⟩, h _ _ _ (cur_seq (k := .rd) (o := o) fun _ _ z => hK ▸ z.seq) ?_⟩
        rw [leftAt_zero]
        exact ⟨ow, S'⟩
      · rename_i e''; cases e''
      · cases e'
    · rename_i c r' e'
      split at e'
      · cases e'
      · cases e'
      · rename_i e''; cases e''
      · cases e'
    · exact h.elim
def iTpl (fa : Ev) : Iv := fun r => match cSet fa r with
  | .ok (.val (.node .tup _ ds)) r1 => .ok ds r1
  | .exc c r1 => .exc c r1
  | _ => .bad
theorem vi_tup {tg e : Expr} (he : VE X G C W e fa) : VI X G C W tg e (iTpl fa) := by
  refine PI.imp (pi_tup (ve_set he)) fun s H R h => ?_
  obtain ⟨r, T, S, h⟩ := h
  refine ⟨r, T, S, ?_⟩
  unfold iTpl at h
  cases e1 : cSet fa r with
  | exc c r1 => rw [e1] at h; exact h
  | bad => rw [e1] at h; exact h
  | ok x r1 =>
    rw [e1] at h
    intro v H' P
    split at h
    · rename_i ds r' e'
      split at e'
      · rename_i o ds' r'' e''
        cases e'; cases e''
        obtain ⟨ow, S'⟩ := P.1
        obtain ⟨a, vs, ev, h1, h2, h3⟩ := S'.last
        subst ev
        refine ⟨a, rfl, ⟨vs, SqT.of h1⟩, h _ _ _ (cur_tup (k := .tup) (o := o) fun _ _ z => SqT.of z) ?_⟩
        rw [leftAt_zero]
        exact ⟨ow, S'⟩
      · rename_i e''; cases e''
      · cases e'
    · rename_i c r' e'
      split at e'
      · cases e'
      · rename_i e''; cases e''
      · cases e'
    · exact h.elim
end
end VL

namespace VL
open PySem PySem.Spec PyProof.Rows L2
section
variable {X : Cx} {G : GX} {C : Fc} {W : WX} {ow ow' : Ow} {r : Rho} {T T1 T2 : List (D × V)} {s : L2.St} {H H' : Hp} {fa fb fc : Ev} {f g : Sv} {fs : Av}

/-! ### ranges -/
def rngD (lo c : Int) (n : Nat) : List D := (List.range n).map fun i => .int (lo + (i : Nat) * c)
theorem rngD_get {lo c : Int} {n i : Nat} {d : D} (h : (rngD lo c n)[i]? = some d) : i < n ∧ d = .int (lo + (i : Nat) * c) := by
  unfold rngD at h
  rw [List.getElem?_map] at h
  cases e : (List.range n)[i]? with
  | none => rw [e] at h; cases h
  | some j =>
    rw [e] at h
    cases h
    obtain ⟨h1, h2⟩ := List.getElem?_eq_some_iff.mp e
    simp at h1 h2
    subst h2
    exact ⟨h1, rfl⟩
theorem rngD_length (lo c : Int) (n : Nat) : (rngD lo c n).length = n := by simp [rngD]
theorem cur_rng {lo : Int} {n : Nat} : CurOk G C (Itr lo n) (rngD lo 1 n) fun _ => [] := by
  refine ⟨fun i d r T s H hd S => ?_, fun r T s H S => by rw [rngD_length]; exact Nat.le_refl n⟩
  obtain ⟨h1, h2⟩ := rngD_get hd
  subst h2
  refine ⟨h1, fun x H' y => ?_⟩
  obtain ⟨e, y⟩ := y
  subst e; subst y
  rw [Int.mul_one]
  exact S.pushI _
theorem cur_rngC {lo c : Int} {n : Nat} : CurOk G C (Itc lo c n) (rngD lo c n) fun _ => [] := by
  refine ⟨fun i d r T s H hd S => ?_, fun r T s H S => by rw [rngD_length]; exact Nat.le_refl n⟩
  obtain ⟨h1, h2⟩ := rngD_get hd
  subst h2
  refine ⟨h1, fun x H' y => ?_⟩
  obtain ⟨e, y⟩ := y
  subst e; subst y
  exact S.pushI _
def within (i : Int) : Bool := decide (i.natAbs < 2 ^ 62)
theorem within_of {i : Int} (h : within i = true) : -(2 ^ 62) ≤ i ∧ i < 2 ^ 62 := by
  have h : i.natAbs < 2 ^ 62 := of_decide_eq_true h
  omega
/-- how many turns -/
def turns (i j c : Int) : Nat := (Builtin.Range.rangeSize i j c).toNat
def rngI1 (r : Rho) (xs : List R) : IO := match opds r xs with
  | some [.int j] => if within j = true then .ok (rngD 0 1 j.toNat) r else .bad
  | _ => .bad
def rngI2 (r : Rho) (xs : List R) : IO := match opds r xs with
  | some [.int i, .int j] => if (within i && within j) = true then .ok (rngD i 1 (j - i).toNat) r else .bad
  | _ => .bad
def rngI3 (r : Rho) (xs : List R) : IO := match opds r xs with
  | some [.int i, .int j, .int c] => if (decide (c ≠ 0) && decide (c.natAbs < 1073741824) && Builtin.Range.small i j c) = true then .ok (rngD i c (turns i j c)) r else .bad
  | _ => .bad
def iRng (g : Rho → List R → IO) (fs : Av) : Iv := fun r => match fs r with
  | .ok xs r1 => g r1 xs
  | .exc c r1 => .exc c r1
  | .bad => .bad
theorem opds_reps : ∀ {xs : List R} {vs : List V} {T : List (D × V)} {ds : List D}, StW G C ow r (T ++ pushs xs vs) s H → LocsOk s xs vs → opds r xs = some ds → ds.all atom = true → ∀ l i, Reps G ow H ds l i vs
  | [], [], _, ds, _, _, e, _, l, i => by cases e; exact rfl
  | [], _ :: _, _, _, _, l, _, _, _, _ => l.elim
  | _ :: _, [], _, _, _, l, _, _, _, _ => l.elim
  | x :: xs, v :: vs, T, ds, S, l, e, a, l', i => by
    unfold opds at e
    cases e1 : opd r x with
    | none => rw [e1] at e; cases e
    | some d =>
      cases e2 : opds r xs with
      | none => rw [e1, e2] at e; cases e
      | some ds' =>
        rw [e1, e2] at e
        cases e
        rw [List.all_cons, Bool.and_eq_true] at a
        have S' : StW G C ow r (T ++ (pushR x v ++ pushs xs vs)) s H := S
        exact ⟨v, vs, rfl, (opd_rep S' l.1 e1).of_atom a.1, opds_reps (T := T ++ pushR x v) (by rw [List.append_assoc]; exact S') l.2 e2 a.2 l' (i + 1)⟩
/-- what is wanted of a walk -/
def GoesI (G : GX) (C : Fc) (W : WX) (T : List (D × V)) (s : L2.St) (R : It → Hp → Prop) (o : IO) : Prop := match o with
  | .ok ds r' => ∀ J H' tk, CurOk G C J ds tk → StOk G C r' (T ++ tk 0) s H' → R J H'
  | .exc c r' => ∀ H', StOk G C r' T s H' → W (.ref (G c)) none s H'
  | .bad => False
theorem tV_rng {gg : Rho → List R → IO} {R : It → Hp → Prop} {K : List V → Hp → Prop} (S : StOk G C r T s H) (h : GoesI G C W T s R (iRng gg fs r)) (hk : ∀ xs vs r1 H1, StOk G C r1 (T ++ pushs xs vs) s H1 → LocsOk s xs vs → GoesI G C W T s R (gg r1 xs) → K vs H1) : tVA G C W fs s H K := by
  refine ⟨r, T, S, ?_⟩
  unfold iRng at h
  cases e : fs r with
  | ok xs r1 => rw [e] at h; exact fun vs H1 S1 l1 => hk xs vs r1 H1 S1 l1 h
  | exc c r1 => rw [e] at h; exact h
  | bad => rw [e] at h; exact h
theorem vi_range1 {tg a : Expr} {p pos : Pos} (hg : Gl X "range") (hm : X.mg "range" = none) (ha : VA X G C W [a] fs) (hs : starEach [a] X.env = [(false, eval a X.env)] := by rfl) : VI X G C W tg (.Call (.Name "range" p) [a] [] pos) (iRng rngI1 fs) := by
  refine PI.imp (pi_range1 hg hm ha hs) fun s H R h => ?_
  obtain ⟨r, T, S, h⟩ := h
  refine tV_rng S h fun xs vs r1 H1 S1 l1 g => ?_
  obtain ⟨ow, S1⟩ := S1
  unfold rngI1 at g
  split at g
  · rename_i j e1
    split at g
    · rename_i hw
      obtain ⟨v, ws, ev, h1, h2⟩ := opds_reps S1 l1 e1 rfl ⟨.fo, []⟩ 0
      have e2 : ws = [] := h2
      subst e2
      obtain ⟨w1, w2⟩ := within_of hw
      exact ⟨j, by rw [ev, rep_int h1], w1, w2, g _ _ _ cur_rng ⟨ow, by simpa using S1.drop⟩⟩
    · exact g.elim
  · exact g.elim
theorem vi_range2 {tg a b : Expr} {p pos : Pos} (hg : Gl X "range") (hm : X.mg "range" = none) (ha : VA X G C W [a, b] fs) (hs : starEach [a, b] X.env = [(false, eval a X.env), (false, eval b X.env)] := by rfl) (hs2 : starEach [b] X.env = [(false, eval b X.env)] := by rfl) : VI X G C W tg (.Call (.Name "range" p) [a, b] [] pos) (iRng rngI2 fs) := by
  refine PI.imp (pi_range2 hg hm ha hs hs2) fun s H R h => ?_
  obtain ⟨r, T, S, h⟩ := h
  refine tV_rng S h fun xs vs r1 H1 S1 l1 g => ?_
  obtain ⟨ow, S1⟩ := S1
  unfold rngI2 at g
  split at g
  · rename_i i j e1
    split at g
    · rename_i hw
      obtain ⟨v, ws, ev, h1, v2, ws2, ev2, h2, h3⟩ := opds_reps S1 l1 e1 rfl ⟨.fo, []⟩ 0
      have e2 : ws2 = [] := h3
      subst e2
      rw [Bool.and_eq_true] at hw
      obtain ⟨w1, w2⟩ := within_of hw.1
      obtain ⟨w3, w4⟩ := within_of hw.2
      exact ⟨i, j, by rw [ev, ev2, rep_int h1, rep_int h2], ⟨w1, w2, w3, w4⟩, g _ _ _ cur_rng ⟨ow, by simpa using S1.drop⟩⟩
    · exact g.elim
  · exact g.elim
theorem rangeSize_nonneg (i j c : Int) : 0 ≤ Builtin.Range.rangeSize i j c ∨ c = 0 := by
  by_cases h0 : c = 0
  · exact .inr h0
  · refine .inl ?_
    unfold Builtin.Range.rangeSize
    split
    · split
      · have := Int.ediv_nonneg (show (0 : Int) ≤ j - i - 1 by omega) (show (0 : Int) ≤ c by omega)
        omega
      · omega
    · split
      · have := Int.ediv_nonneg (show (0 : Int) ≤ i - j - 1 by omega) (show (0 : Int) ≤ -c by omega)
        omega
      · omega
theorem vi_range3 {tg a b c : Expr} {p pos : Pos} (hg : Gl X "range") (hm : X.mg "range" = none) (ha : VA X G C W [a, b, c] fs)
    (hs : starEach [a, b, c] X.env = (false, eval a X.env) :: starEach [b, c] X.env := by rfl) (hpl : (backTo pos (starEach [b, c] X.env)).any (·.1) = false := by rfl) : VI X G C W tg (.Call (.Name "range" p) [a, b, c] [] pos) (iRng rngI3 fs) := by
  refine PI.imp (pi_range3 hg hm ha hs hpl) fun s H R h => ?_
  obtain ⟨r, T, S, h⟩ := h
  refine tV_rng S h fun xs vs r1 H1 S1 l1 g => ?_
  obtain ⟨ow, S1⟩ := S1
  unfold rngI3 at g
  split at g
  · rename_i i j c e1
    split at g
    · rename_i hw
      obtain ⟨v, ws, ev, h1, v2, ws2, ev2, h2, v3, ws3, ev3, h3, h4⟩ := opds_reps S1 l1 e1 rfl ⟨.fo, []⟩ 0
      have e2 : ws3 = [] := h4
      subst e2
      simp only [Bool.and_eq_true, decide_eq_true_eq] at hw
      obtain ⟨⟨c0, c1⟩, c2⟩ := hw
      have nn : 0 ≤ Builtin.Range.rangeSize i j c := (rangeSize_nonneg i j c).elim id fun z => absurd z c0
      exact ⟨i, j, c, turns i j c, by rw [ev, ev2, ev3, rep_int h1, rep_int h2, rep_int h3], ⟨c0, c1, c2, by unfold turns; omega⟩, g _ _ _ cur_rngC ⟨ow, by simpa using S1.drop⟩⟩
    · exact g.elim
  · exact g.elim

/-! ### comprehensions -/
def W0 : WX := fun _ _ _ _ => False
def wipeR (r : Rho) : List Nat → Rho
  | [] => r
  | v :: vs => (wipeR r vs).set v none
inductive LO where
  | ok (acc : List D) (r : Rho) | bad
def tstR (fc : Option Ev) : Ev := fun r => match fc with
  | none => .ok (.val (.bl true)) r
  | some f => f r
/-- the turns: what is made so far, then each part of what is walked -/
def lcL (t : Tg) (fc : Option Ev) (fe : Ev) (vs : List Nat) : List D → List D → Rho → LO
  | [], acc, r => .ok acc r
  | d :: ds, acc, r => match tgt t d r with
    | none => .bad
    | some r1 => (match tstR fc r1 with
      | .ok (.val (.bl true)) r2 => (match cSet fe r2 with
        | .ok (.val e) r3 => if acc.length < 16777216 then lcL t fc fe vs ds (acc ++ [e]) (wipeR r3 vs) else .bad
        | _ => .bad)
      | .ok (.val (.bl false)) r2 => lcL t fc fe vs ds acc (wipeR r2 vs)
      | _ => .bad)
/-- the names that the comprehension bore tell what they told ahead, if that is a scalar -/
def backR (r0 r : Rho) : List Nat → Rho
  | [] => r
  | v :: vs => (backR r0 r vs).set v (match r0[v]? with
    | some (some d) => if atom d = true then (match d with
      | .exc _ => none
      | .any => none
      | d => some d) else none
    | _ => none)
def cLc (vs : List Nat) (t : Tg) (fi : Iv) (fc : Option Ev) (fe : Ev) : Ev := fun r => match fi r with
  | .ok ds r1 => (match lcL t fc fe vs ds [] (wipeR r1 vs) with
    | .ok acc r2 => .ok (.val (.node .lst true acc)) (backR r1 r2 vs)
    | .bad => .bad)
  | .exc c r1 => .exc c r1
  | .bad => .bad
theorem StW.wipes (S : StW G C ow r T s H) : ∀ {vs : List Nat}, (∀ p ∈ C.pin, p.1 ∉ vs) → StW G C ow (wipeR r vs) T (wipe s vs) H
  | [], _ => S
  | v :: vs, hp => by
    have S' := S.wipes (vs := vs) fun p hm z => hp p hm (List.mem_cons_of_mem _ z)
    have hv : ∀ p ∈ C.pin, p.1 ≠ v := fun p hm e => hp p hm (by rw [e]; exact List.mem_cons_self)
    show StW G C ow ((wipeR r vs).set v none) T ((wipe s vs).set v none) H
    refine ⟨by simpa using S'.len, fun j d q => ?_, S'.tm, S'.old, S'.own, S'.fo, S'.mu, fun p hm => ?_⟩
    · by_cases hj : j = v
      · subst hj
        by_cases hlt : j < (wipeR r vs).length
        · rw [List.getElem?_set_self hlt] at q; cases q
        · rw [List.getElem?_eq_none (by simpa using hlt)] at q; cases q
      · rw [List.getElem?_set_ne (Ne.symm hj)] at q
        obtain ⟨v', h1, h2⟩ := S'.sl j d q
        exact ⟨v', by rw [List.getElem?_set_ne (Ne.symm hj)]; exact h1, h2⟩
    · rw [List.getElem?_set_ne (Ne.symm (hv p hm))]
      exact S'.pin p hm
theorem wipe_out' {s : L2.St} {i : Nat} : ∀ {vs : List Nat}, i ∉ vs → (wipe s vs)[i]? = s[i]?
  | [], _ => rfl
  | v :: vs, h => by
    have h1 : v ≠ i := fun e => h (by rw [e]; exact List.mem_cons_self)
    have h2 : i ∉ vs := fun m => h (List.mem_cons_of_mem _ m)
    unfold wipe
    rw [List.getElem?_set_ne h1]
    exact wipe_out' h2
theorem wipe_in {s : L2.St} {i : Nat} (hi : i < s.length) : ∀ {vs : List Nat}, i ∈ vs → (wipe s vs)[i]? = some none
  | v :: vs, h => by
    unfold wipe
    by_cases hv : v = i
    · subst hv
      rw [List.getElem?_set_self (by rw [wipe_length]; exact hi)]
    · rw [List.getElem?_set_ne hv]
      exact wipe_in hi ((List.mem_cons.mp h).resolve_left (fun e => hv e.symm))
theorem wipe_but {is vs : List Nat} {s s' : L2.St} (b : But is (wipe s vs) s') (h : ∀ i ∈ is, i ∈ vs) : wipe s' vs = wipe s vs := by
  apply List.ext_getElem?
  intro j
  by_cases hj : j ∈ vs
  · by_cases hlt : j < s.length
    · rw [wipe_in hlt hj, wipe_in (by rw [b.1, wipe_length]; exact hlt) hj]
    · rw [List.getElem?_eq_none (by rw [wipe_length, b.1, wipe_length]; omega), List.getElem?_eq_none (by rw [wipe_length]; omega)]
  · rw [wipe_out' hj, b.2 j (fun z => hj (h j z))]
theorem wipeR_get {j : Nat} {d : D} : ∀ {vs : List Nat} {r : Rho}, (wipeR r vs)[j]? = some (some d) → r[j]? = some (some d) ∧ j ∉ vs
  | [], r, q => ⟨q, by simp⟩
  | v :: vs, r, q => by
    unfold wipeR at q
    by_cases hj : v = j
    · subst hj
      by_cases hlt : v < (wipeR r vs).length
      · rw [List.getElem?_set_self hlt] at q; cases q
      · rw [List.getElem?_eq_none (by simpa using hlt)] at q; cases q
    · rw [List.getElem?_set_ne hj] at q
      obtain ⟨h1, h2⟩ := wipeR_get q
      exact ⟨h1, by simp only [List.mem_cons, not_or]; exact ⟨fun e => hj e.symm, h2⟩⟩
theorem wipeR_length (r : Rho) : ∀ vs : List Nat, (wipeR r vs).length = r.length
  | [] => rfl
  | v :: vs => by unfold wipeR; rw [List.length_set, wipeR_length r vs]
/-- back behind the comprehension: the slots as they were -/
theorem StW.back {r0 : Rho} {T0 : List (D × V)} {ow0 : Ow} {H0 : Hp} {vs : List Nat} (S0 : StW G C ow0 r0 T0 s H0) (S : StW G C ow (wipeR r vs) T (wipe s vs) H) : StW G C ow (backR r0 (wipeR r vs) vs) T s H := by
  have blen : ∀ ws : List Nat, (backR r0 (wipeR r vs) ws).length = (wipeR r vs).length := by
    intro ws
    induction ws with
    | nil => rfl
    | cons w ws ih => unfold backR; rw [List.length_set, ih]
  have bget : ∀ (ws : List Nat) (j : Nat) (d : D), (backR r0 (wipeR r vs) ws)[j]? = some (some d) → (wipeR r vs)[j]? = some (some d) ∨ (r0[j]? = some (some d) ∧ atom d = true ∧ (∀ c, d ≠ .exc c) ∧ d ≠ .any) := by
    intro ws
    induction ws with
    | nil => exact fun j d q => .inl q
    | cons w ws ih =>
      intro j d q
      unfold backR at q
      by_cases hj : w = j
      · subst hj
        by_cases hlt : w < (backR r0 (wipeR r vs) ws).length
        · rw [List.getElem?_set_self hlt] at q
          have q := Option.some.inj q
          split at q
          · rename_i d' e
            split at q
            · rename_i a
              split at q
              · cases q
              · cases q
              · rename_i n1 n2
                cases q
                exact .inr ⟨e, a, fun c z => n1 c z, fun z => n2 z⟩
            · cases q
          · cases q
        · rw [List.getElem?_eq_none (by simpa using hlt)] at q; cases q
      · rw [List.getElem?_set_ne hj] at q
        exact ih j d q
  refine ⟨by rw [blen, S.len, wipe_length], fun j d q => ?_, S.tm, S.old, S.own, S.fo, S.mu, fun p hm => ?_⟩
  · rcases bget vs j d q with q | ⟨q, a, n1, n2⟩
    · obtain ⟨v, h1, h2⟩ := S.sl j d q
      exact ⟨v, (wipe_some h1).1, h2⟩
    · obtain ⟨v, h1, h2⟩ := S0.sl j d q
      refine ⟨v, h1, ?_⟩
      cases d with
      | any => exact absurd rfl n2
      | exc c => exact absurd rfl (n1 c)
      | node k o xs => cases a
      | _ => exact h2
  · exact (wipe_some (S.pin p hm)).1
/-- the last temporary is put behind the list ahead of it -/
def appAt (ow : Ow) (n k : Nat) : Ow := fun a => match ow a with
  | some ⟨.tm j, p⟩ => if j = n + 1 then some ⟨.tm n, k :: p⟩ else some ⟨.tm j, p⟩
  | x => x
theorem StW.appT {acc : List D} {d : D} {a : Addr} {v : V} (S : StW G C ow r (T ++ [(.node .lst true acc, .ref a), (d, v)]) s H) : ∃ vs, H a = some (.lst vs) ∧ vs.length = acc.length ∧ StW G C (appAt ow T.length acc.length) r (T ++ [(.node .lst true (acc ++ [d]), .ref a)]) s (upd H a (.lst (vs ++ [v]))) := by
  have z0 := S.tm T.length (.node .lst true acc) (.ref a) (by simp)
  obtain ⟨a', vs, ev, h1, h2, h3⟩ := z0
  cases ev
  have h1 : H a = some (.lst vs) := h1
  have h2 : ow a = some ⟨.tm T.length, []⟩ := by simpa [OwnAt] using h2
  have zd := S.tm (T.length + 1) d v (by rw [List.getElem?_append_right (by omega)]; simp)
  have ne : ∀ (b : Addr) (l : Loc) (q : List Nat), ow b = none ∨ (∃ q, ow b = some (l.app q)) → l.b ≠ .tm T.length ∨ l.p ≠ [] → b ≠ a := fun b l _ hb hl e => by
    subst e
    rw [h2] at hb
    rcases hb with hb | ⟨q, hb⟩
    · cases hb
    · have hb := Option.some.inj hb
      unfold Loc.app at hb
      injection hb with e1 e2
      rcases hl with hl | hl
      · exact hl e1.symm
      · exact hl (List.append_eq_nil_iff.mp e2.symm).1
  have exn : ∀ (b : Addr) (o : HO), H b = some o → ¬ OwnO (some o) → upd H a (.lst (vs ++ [v])) b = some o := fun b o z n => by
    rw [upd_ne (fun e => by rw [e, h1] at z; cases z; exact n trivial)]; exact z
  refine ⟨vs, h1, h3.length.symm, S.len, fun i d' q => ?_, fun j d' v' q => ?_, fun b o n q => ?_, fun b l q => ?_, fun b q => ?_, fun b l q => ?_, S.pin⟩
  · obtain ⟨v', z1, z2⟩ := S.sl i d' q
    refine ⟨v', z1, Rep.mono (l := ⟨.sl i, []⟩) d' (fun b o z y => by rw [upd_ne (ne b ⟨.sl i, []⟩ [] y (.inl (fun z => nomatch z)))]; exact z) (fun b o z n => exn b o z n) (fun a o _ n => by unfold appAt; rw [n]) (fun a o q _ n => ?_) z2⟩
    have n' : ow a = some ⟨.sl i, [] ++ q⟩ := n
    unfold appAt
    rw [n']
    rfl
  · by_cases hj : j < T.length
    · rw [List.getElem?_append_left hj] at q
      have z := S.tm j d' v' (by rw [List.getElem?_append_left hj]; exact q)
      refine Rep.mono (l := ⟨.tm j, []⟩) d' (fun b o z y => by rw [upd_ne (ne b ⟨.tm j, []⟩ [] y (.inl (fun z => by injection z with z; omega)))]; exact z) (fun b o z n => exn b o z n) (fun a o _ n => by unfold appAt; rw [n]) (fun a o q _ n => ?_) z
      have n' : ow a = some ⟨.tm j, [] ++ q⟩ := n
      unfold appAt
      rw [n']
      have : ¬ j = T.length + 1 := by omega
      simp [Loc.app, this]
    · rw [List.getElem?_append_right (by omega)] at q
      have e : j = T.length := by
        have := (List.getElem?_eq_some_iff.mp q).1
        simp at this; omega
      subst e
      simp at q
      obtain ⟨e1, e2⟩ := q
      subst e1; subst e2
      refine ⟨a, vs ++ [v], rfl, upd_same, .mk ?_, Reps.of_get (by simp [h3.length]) fun m dm vm q1 q2 => ?_⟩
      · unfold appAt; rw [h2]; simp
      · by_cases hm : m < acc.length
        · rw [List.getElem?_append_left hm] at q1
          rw [List.getElem?_append_left (by rw [← h3.length]; exact hm)] at q2
          obtain ⟨vm', y1, y2⟩ := h3.get m dm q1
          rw [q2] at y1
          cases y1
          refine Rep.mono (l := Loc.sub ⟨.tm T.length, []⟩ (0 + m)) dm (fun b o z y => by rw [upd_ne (ne b (Loc.sub ⟨.tm T.length, []⟩ (0 + m)) [] y (.inr (by simp [Loc.sub])))]; exact z) (fun b o z n => exn b o z n) (fun a o _ n => by unfold appAt; rw [n]) (fun a o q _ n => ?_) y2
          have n' : ow a = some ⟨.tm T.length, m :: q⟩ := by rw [n]; simp [Loc.sub, Loc.app]
          unfold appAt
          rw [n']
          simp [Loc.app, Loc.sub]
        · rw [List.getElem?_append_right (by omega)] at q1
          rw [List.getElem?_append_right (by rw [← h3.length]; omega), ← h3.length] at q2
          have em : m = acc.length := by
            have := (List.getElem?_eq_some_iff.mp q1).1
            simp at this; omega
          subst em
          simp at q1 q2
          subst q1; subst q2
          refine Rep.mono (l := ⟨.tm (T.length + 1), []⟩) d (fun b o z y => by rw [upd_ne (ne b ⟨.tm (T.length + 1), []⟩ [] y (.inl (fun z => by injection z with z; omega)))]; exact z) (fun b o z n => exn b o z n) (fun a o _ n => by unfold appAt; rw [n]) (fun a o q _ n => ?_) zd
          have n' : ow a = some ⟨.tm (T.length + 1), [] ++ q⟩ := n
          unfold appAt
          rw [n']
          simp [Loc.app, Loc.sub]
  · by_cases hb : b = a
    · subst hb
      have z := S.old b o n q
      rcases S.own b _ h2 with z2 | z2 | z2
      · cases z2
      · rw [z2] at q; cases q
      · exact absurd z2 n
    · rw [upd_ne hb]; exact S.old b o n q
  · cases e : ow b with
    | none => unfold appAt at q; rw [e] at q; cases q
    | some m =>
      obtain ⟨mb, mp⟩ := m
      cases mb with
      | fo =>
        unfold appAt at q; rw [e] at q; cases q
        exact .inl rfl
      | sl j => exact (S.own b _ e).elim (fun z => nomatch z) .inr
      | tm j => exact (S.own b _ e).elim (fun z => nomatch z) .inr
  · have z := S.fo b q
    unfold appAt; rw [z]
  · by_cases hb : b = a
    · subst hb; rw [upd_same]; trivial
    · rw [upd_ne hb]
      cases e : ow b with
      | none => unfold appAt at q; rw [e] at q; cases q
      | some m => exact S.mu b m e
/-- the temporaries in another order -/
def permT (ow : Ow) (f : Nat → Nat) : Ow := fun a => match ow a with
  | some ⟨.tm j, p⟩ => some ⟨.tm (f j), p⟩
  | x => x
theorem StW.perm {f : Nat → Nat} (S : StW G C ow r T1 s H) (hf : ∀ (j : Nat) (p : D × V), T2[j]? = some p → ∃ i, T1[i]? = some p ∧ f i = j) : StW G C (permT ow f) r T2 s H where
  len := S.len
  sl := fun i d q => by
    obtain ⟨v', z1, z2⟩ := S.sl i d q
    refine ⟨v', z1, Rep.mono (l := ⟨.sl i, []⟩) d (fun _ _ z _ => z) (fun _ _ z _ => z) (fun a o _ n => by unfold permT; rw [n]) (fun a o q _ n => ?_) z2⟩
    have n' : ow a = some ⟨.sl i, [] ++ q⟩ := n
    unfold permT
    rw [n']
    rfl
  tm := fun j d v q => by
    obtain ⟨i, h1, h2⟩ := hf j (d, v) q
    refine Rep.mono (l := ⟨.tm i, []⟩) d (fun _ _ z _ => z) (fun _ _ z _ => z) (fun a o _ n => by unfold permT; rw [n]) (fun a o q _ n => ?_) (S.tm i d v h1)
    have n' : ow a = some ⟨.tm i, [] ++ q⟩ := n
    unfold permT
    rw [n']
    simp [Loc.app, h2]
  old := S.old
  own := fun a l q => by
    cases e : ow a with
    | none => unfold permT at q; rw [e] at q; cases q
    | some m =>
      obtain ⟨mb, mp⟩ := m
      cases mb with
      | fo =>
        unfold permT at q; rw [e] at q; cases q
        exact .inl rfl
      | sl j => exact (S.own a _ e).elim (fun z => nomatch z) .inr
      | tm j => exact (S.own a _ e).elim (fun z => nomatch z) .inr
  fo := fun a q => by
    have z := S.fo a q
    unfold permT; rw [z]
  mu := fun a l q => by
    cases e : ow a with
    | none => unfold permT at q; rw [e] at q; cases q
    | some m => exact S.mu a m e
  pin := S.pin
theorem StOk.swap {A B : List (D × V)} (S : StOk G C r (T ++ (A ++ B)) s H) : StOk G C r (T ++ (B ++ A)) s H := by
  obtain ⟨ow, S⟩ := S
  refine ⟨_, S.perm (f := fun i => if i < T.length then i else if i < T.length + A.length then i + B.length else i - A.length) fun j p q => ?_⟩
  by_cases h1 : j < T.length
  · refine ⟨j, ?_, if_pos h1⟩
    rw [List.getElem?_append_left h1] at q ⊢
    exact q
  · rw [List.getElem?_append_right (by omega)] at q
    by_cases h2 : j < T.length + B.length
    · rw [List.getElem?_append_left (by omega)] at q
      refine ⟨j + A.length, ?_, ?_⟩
      · rw [List.getElem?_append_right (by omega), List.getElem?_append_right (by omega), show j + A.length - T.length - A.length = j - T.length by omega]
        exact q
      · rw [if_neg (by omega), if_neg (by omega)]
        omega
    · rw [List.getElem?_append_right (by omega)] at q
      have hlt := (List.getElem?_eq_some_iff.mp q).1
      refine ⟨j - B.length, ?_, ?_⟩
      · rw [List.getElem?_append_right (by omega), List.getElem?_append_left (by omega), show j - B.length - T.length = j - T.length - B.length by omega]
        exact q
      · show (if j - B.length < T.length then j - B.length else if j - B.length < T.length + A.length then j - B.length + B.length else j - B.length - A.length) = j
        rw [if_neg (by omega), if_pos (by omega)]
        omega
theorem tail_two {α : Type} (l : List α) (x y : α) : l ++ [x] ++ [y] = l ++ [x, y] := by simp
abbrev VTs (X : Cx) (G : GX) (C : Fc) (W : WX) (ifs : List Expr) (fc : Option Ev) : Prop := PTs X ifs (tVT G C W (tstR fc))
theorem vts_nil : VTs X G C W [] none := by
  refine ⟨fun pins s σ H Q I h => pts_nil.run pins s σ H Q I ?_⟩
  obtain ⟨r, T, S, h⟩ := h
  exact h _ S
theorem vts_one {c : Expr} (h : VT X G C W c fc) : VTs X G C W [c] (some fc) := pts_one h
abbrev Blk := ∀ (s : Shared) (H : Hp) (C : Addr) (cl : List (Str × Addr)) (fp : List Addr), Prop
/-- the reading of a comprehension, by the turns -/
theorem lc_go {vs : List Nat} {t : Tg} {fi : Iv} {fc : Option Ev} {fe : Ev} {Q : VK} (hpin : ∀ p ∈ C.pin, p.1 ∉ vs) (ht : ∀ i ∈ t.slots, i ∈ vs) (h : tV G C W (cLc vs t fi fc fe) s H Q) :
    tLc (tVI G C W fi) (tVG G C t) (tVT G C W0 (tstR fc)) (tV G C W0 (cSet fe)) vs s H Q := by
  obtain ⟨r, T, S, h⟩ := h
  refine ⟨r, T, S, ?_⟩
  have h : Goes G C W T s Q (cLc vs t fi fc fe r) := h
  unfold cLc at h
  cases e : fi r with
  | exc c r1 => simp only [e] at h; exact h
  | bad => simp only [e] at h; exact h.elim
  | ok ds r1 =>
    simp only [e] at h
    intro J H1 tk hk S1 da hD
    have pins : ∀ {r' : Rho} {T' : List (D × V)} {s' : L2.St} {H' : Hp}, StOk G C r' T' s' H' → StOk G C (wipeR r' vs) T' (wipe s' vs) H' := fun {r' T' s' H'} ⟨ow', S'⟩ => ⟨ow', S'.wipes hpin⟩
    cases eL : lcL t fc fe vs ds [] (wipeR r1 vs) with
    | bad => rw [eL] at h; exact h.elim
    | ok acc r2 =>
      simp only [eL] at h
      -- the list is laid ahead of what is walked
      have S2 : StOk G C (wipeR r1 vs) (T ++ ([(.node .lst true [], .ref da)] ++ tk 0)) (wipe s vs) (upd H1 da (.lst [])) := by
        have z : StOk G C r1 ((T ++ tk 0) ++ [(.node .lst true [], .ref da)]) s (upd H1 da (.lst [])) := StOk.alloc (ds := []) (vs := []) true (by simpa using S1) rfl hD holds_lst (fun _ => trivial)
        rw [List.append_assoc] at z
        exact pins z.swap
      refine ⟨fun i m H' => m = ds.length - i ∧ i ≤ ds.length ∧ ∃ ac r', StOk G C (wipeR r' vs) (T ++ ([(.node .lst true ac, .ref da)] ++ tk i)) (wipe s vs) H' ∧ lcL t fc fe vs (ds.drop i) ac (wipeR r' vs) = .ok acc r2,
        ⟨ds.length, by simp, Nat.zero_le _, [], r1, S2, by simpa using eL⟩, ?_⟩
      rintro i m H' ⟨rfl, hi', ac, r', S', h'⟩
      rw [← List.append_assoc] at S'
      by_cases hlt : i < ds.length
      · have ed : ds[i]? = some ds[i] := List.getElem?_eq_getElem hlt
        obtain ⟨k1, k2⟩ := hk.1 i ds[i] _ _ _ H' ed S'
        rw [List.drop_eq_getElem_cons hlt] at h'
        refine .inr ⟨k1, fun H' => i + 1 ≤ ds.length ∧ ∃ ac r', StOk G C (wipeR r' vs) (T ++ ([(.node .lst true ac, .ref da)] ++ tk (i + 1))) (wipe s vs) H' ∧ lcL t fc fe vs (ds.drop (i + 1)) ac (wipeR r' vs) = .ok acc r2,
          fun H2 n2 => ⟨ds.length - (i + 1), by omega, rfl, n2.1, n2.2⟩, fun x H2 y => ?_⟩
        have S3 := k2 x H2 y
        refine ⟨_, _, ds[i], S3, ?_⟩
        unfold lcL at h'
        cases e1 : tgt t ds[i] (wipeR r' vs) with
        | none => simp only [e1] at h'; cases h'
        | some r3 =>
          simp only [e1] at h' ⊢
          intro s4 H4 S4 b4
          have hw : wipe s4 vs = wipe s vs := wipe_but b4 ht
          refine ⟨hw, _, _, S4, ?_⟩
          cases e2 : tstR fc r3 with
          | exc c r4 => simp only [e2] at h'; cases h'
          | bad => simp only [e2] at h'; cases h'
          | ok xb r4 =>
            simp only [e2] at h' ⊢
            cases xb with
            | loc _ => cases h'
            | val db =>
              cases db with
              | bl b =>
                cases b with
                | false =>
                  intro H5 S5
                  rw [if_neg Bool.false_ne_true]
                  have S6 := pins S5
                  rw [hw] at S6
                  rw [List.append_assoc] at S6
                  exact ⟨hlt, ac, r4, S6, h'⟩
                | true =>
                  intro H5 S5
                  rw [if_pos rfl]
                  refine ⟨_, _, S5, ?_⟩
                  simp only at h'
                  cases e3 : cSet fe r4 with
                  | exc c r5 => simp only [e3] at h'; cases h'
                  | bad => simp only [e3] at h'; cases h'
                  | ok xe r5 =>
                    cases xe with
                    | loc _ => simp only [e3] at h'; cases h'
                    | val d =>
                      simp only [e3] at h'
                      split at h'
                      · rename_i hz
                        intro yv H6 P6
                        have S6 : StOk G C r5 (T ++ [(.node .lst true ac, .ref da)] ++ tk (i + 1) ++ [(d, yv)]) s4 H6 := P6.1
                        have S7 : StOk G C r5 (T ++ (([(.node .lst true ac, .ref da)] ++ tk (i + 1)) ++ [(d, yv)])) s4 H6 := by simpa [List.append_assoc] using S6
                        have S8 : StOk G C r5 ((T ++ tk (i + 1)) ++ [(.node .lst true ac, .ref da), (d, yv)]) s4 H6 := by
                          have z : StOk G C r5 (T ++ ([(.node .lst true ac, .ref da)] ++ (tk (i + 1) ++ [(d, yv)]))) s4 H6 := by simpa [List.append_assoc] using S6
                          have z2 : StOk G C r5 ((T ++ tk (i + 1)) ++ ([(d, yv)] ++ [(.node .lst true ac, .ref da)])) s4 H6 := by simpa [List.append_assoc] using z.swap
                          exact z2.swap
                        obtain ⟨ow8, S8⟩ := S8
                        obtain ⟨vs', q1, q2, S9⟩ := S8.appT
                        refine ⟨vs', q1, by rw [q2, sizeLine_eq]; exact hz, hlt, ac ++ [d], r5, ?_, h'⟩
                        have S10 : StOk G C r5 (T ++ (tk (i + 1) ++ [(.node .lst true (ac ++ [d]), .ref da)])) s4 (upd H6 da (.lst (vs' ++ [yv]))) := ⟨_, by rw [← List.append_assoc]; exact S9⟩
                        have S11 := pins S10.swap
                        rw [hw] at S11
                        exact S11
                      · cases h'
              | _ => cases h'
      · have ei : i = ds.length := by omega
        subst ei
        rw [List.drop_length] at h'
        unfold lcL at h'
        injection h' with e1 e2
        subst e1
        subst e2
        refine .inl ⟨hk.2 _ _ _ H' S', ?_⟩
        have S3 : StOk G C (wipeR r' vs) (T ++ [(.node .lst true ac, .ref da)]) (wipe s vs) H' := S'.drop
        obtain ⟨ow0, S0⟩ := S1
        obtain ⟨ow3, S3⟩ := S3
        exact h _ _ ⟨⟨ow3, S0.back S3⟩, trivial⟩
end
end VL

namespace VL
open PySem PySem.Spec PyProof.Rows L2
section
variable {X : Cx} {G : GX} {C : Fc} {W : WX} {ow ow' : Ow} {r : Rho} {T T1 T2 : List (D × V)} {s : L2.St} {H H' : Hp} {fa fb fc : Ev} {f g : Sv} {fs : Av}
theorem ve_lc {elt tg iter : Expr} {ifs : List Expr} {scope : Scope} {own : List (Str × Nat)} {pos : Pos} {fi : Iv} {t : Tg} {ft : Option Ev} {fe : Ev} (hc : X.calm = true) (hN : X.N.Nodup) (hi : VI X G C W tg iter fi) (ok : BlkOk X.N X.env.scope scope own)
    (hpin : ∀ p ∈ C.pin, p.1 ∉ own.map (·.2)) (hts : ∀ i ∈ t.slots, i ∈ own.map (·.2))
    (hg : ∀ (s : Shared) (H : Hp) (ca : Addr) (cl : List (Str × Addr)) (fp : List Addr), VG (X.blk s H scope (compEnvC scope cl ca X.env) fp) G C tg t) (ht : ∀ (s : Shared) (H : Hp) (ca : Addr) (cl : List (Str × Addr)) (fp : List Addr), VTs (X.blk s H scope (compEnvC scope cl ca X.env) fp) G C W0 ifs ft)
    (he : ∀ (s : Shared) (H : Hp) (ca : Addr) (cl : List (Str × Addr)) (fp : List Addr), VE (X.blk s H scope (compEnvC scope cl ca X.env) fp) G C W0 elt fe) (hs : ∀ x, foldedSetIterable iter X.env x = pure x := by intro _; rfl) :
    VE X G C W (.ListComp elt [⟨tg, iter, ifs, 0⟩] scope pos) (cLc (own.map (·.2)) t fi ft fe) :=
  PE.imp (pe_lc hc hN hi ok hg ht (fun s H ca cl fp => ve_set (he s H ca cl fp)) hs) fun s H Q h => lc_go hpin hts h
theorem vs_setLc {i : Nat} {y : Str} {py : Pos} {elt tg iter : Expr} {ifs : List Expr} {scope : Scope} {own : List (Str × Nat)} {pos spos : Pos} {fi : Iv} {t : Tg} {ft : Option Ev} {fe : Ev} (hc : X.calm = true) (hN : X.N.Nodup) (hy : X.N[i]? = some y) (hyl : X.env.scope.names.lookup y = some .local) (hp : ∀ p ∈ C.pin, p.1 ≠ i)
    (hsw : swapsWith (.ListComp elt [⟨tg, iter, ifs, 0⟩] scope pos) (some (.Name y py)) spos.line X.env = pure true) (hi : VI X G C W tg iter fi) (ok : BlkOk X.N X.env.scope scope own)
    (hpin : ∀ p ∈ C.pin, p.1 ∉ own.map (·.2)) (hts : ∀ i ∈ t.slots, i ∈ own.map (·.2))
    (hg : ∀ (s : Shared) (H : Hp) (ca : Addr) (cl : List (Str × Addr)) (fp : List Addr), VG (X.blk s H scope (compEnvC scope cl ca X.env) fp) G C tg t) (ht : ∀ (s : Shared) (H : Hp) (ca : Addr) (cl : List (Str × Addr)) (fp : List Addr), VTs (X.blk s H scope (compEnvC scope cl ca X.env) fp) G C W0 ifs ft)
    (he : ∀ (s : Shared) (H : Hp) (ca : Addr) (cl : List (Str × Addr)) (fp : List Addr), VE (X.blk s H scope (compEnvC scope cl ca X.env) fp) G C W0 elt fe) (hs : ∀ x, foldedSetIterable iter X.env x = pure x := by intro _; rfl) :
    VS X G C W (.Assign [.Name y py] (.ListComp elt [⟨tg, iter, ifs, 0⟩] scope pos) spos) (cAsg (.nm i) (cLc (own.map (·.2)) t fi ft fe)) := by
  refine PS.imp (ps_setLc hc hN hy hyl hsw hi ok hg ht (fun s H ca cl fp => ve_set (he s H ca cl fp)) hs) fun D s H h => ?_
  obtain ⟨r, T, S, h⟩ := h
  have z : tV G C W (cSet (cLc (own.map (·.2)) t fi ft fe)) s H fun x H1 => gName i x s H1 D.nx := by
    refine oneS (fa := cSet (cLc (own.map (·.2)) t fi ft fe)) S h fun x v r1 H1 P g => ?_
    cases x with
    | loc i => exact g.elim
    | val d => exact g _ _ (P.1.set hp)
  refine lc_go hpin hts ?_
  -- a comprehension's value is its own: handing it on changes nothing
  obtain ⟨r', T', S', g⟩ := z
  refine ⟨r', T', S', ?_⟩
  unfold cSet at g
  cases e : cLc (own.map (·.2)) t fi ft fe r' with
  | exc c r1 => rw [e] at g; exact g
  | bad => rw [e] at g; exact g
  | ok x r1 =>
    rw [e] at g
    cases x with
    | val d => exact g
    | loc j =>
      unfold cLc at e
      split at e
      · split at e <;> cases e
      · cases e
      · cases e

/-! ### a def's promise -/
inductive FO where
  | ok (d : D) | exc (c : Nat) | bad
/-- what lies behind a call: the value, with all that it owns new -/
def Behind (G : GX) (ow0 : Ow) (H H' : Hp) (d : D) (v : V) : Prop :=
  ∃ (ow1 : Ow) (b : Bs), b ≠ .fo ∧ Rep G ow1 H' d ⟨b, []⟩ v ∧ (∀ a l, ow1 a = some l → l.b ≠ .fo → H a = none) ∧ (∀ a, ow0 a ≠ none → ow1 a = some ⟨.fo, []⟩) ∧ ∀ a l, ow1 a = some l → OwnO (H' a)
def spV (G : GX) (n : Nat) (F : List D → FO) : Sp := fun vs H Q E => ∃ (ds : List D) (ow0 : Ow), ds.length = n ∧ frzs ds = ds ∧ (∀ a l, ow0 a = some l → OwnO (H a)) ∧ Reps G ow0 H ds ⟨.fo, []⟩ 0 vs ∧ match F ds with
  | .ok d => ∀ v H', Ext H H' → Behind G ow0 H H' d v → Q v H'
  | .exc c => ∀ H', Ext H H' → E (.ref (G c)) none H'
  | .bad => False
theorem spV_len {n : Nat} {F : List D → FO} {vs : List V} {Q : VK} {E : XK} (h : spV G n F vs H Q E) : vs.length = n := by
  obtain ⟨ds, ow0, h1, _, _, h4, _⟩ := h
  rw [← h4.length, h1]
def startR (n : Nat) (ds : List D) : Rho := ds.map some ++ List.replicate (n - ds.length) none
/-- a def by its body: n names -/
def runF (n : Nat) (f : Sv) (ds : List D) : FO := match f (startR n ds) with
  | .rt x r => (match opd r x with
    | some d => .ok d
    | none => .bad)
  | .nx _ => .ok .non
  | .exc c _ => .exc c
  | _ => .bad
def FO.app (x : FO) (k : D → EO) (e : Nat → EO) : EO := match x with
  | .ok d => k d
  | .exc c => e c
  | .bad => .bad
def fcOf (H : Hp) (ow0 : Ow) : Fc := ⟨H, fun _ => False, fun a => ow0 a ≠ none, []⟩
def owOf (ow0 : Ow) : Ow := fun a => match ow0 a with
  | some _ => some ⟨.fo, []⟩
  | none => none
theorem start_get {N : List Str} {vs : List V} {i : Nat} {v : V} (h : vs[i]? = some v) : (L2.start N vs)[i]? = some (some v) := by
  unfold L2.start
  rw [List.getElem?_append_left (by simpa using (List.getElem?_eq_some_iff.mp h).1), List.getElem?_map, h]; rfl
theorem startR_get {n : Nat} {ds : List D} {i : Nat} {d : D} (h : (startR n ds)[i]? = some (some d)) : ds[i]? = some d := by
  unfold startR at h
  by_cases hi : i < ds.length
  · rw [List.getElem?_append_left (by simpa using hi), List.getElem?_map] at h
    cases e : ds[i]? with
    | none => rw [e] at h; cases h
    | some a => rw [e] at h; cases h; rfl
  · rw [List.getElem?_append_right (by simpa using hi), List.getElem?_replicate] at h
    split at h <;> cases h
theorem start_ok {N : List Str} {ds : List D} {vs : List V} {ow0 : Ow} (hm : ∀ a l, ow0 a = some l → OwnO (H a)) (e : frzs ds = ds) (h : Reps G ow0 H ds ⟨.fo, []⟩ 0 vs) : StW G (fcOf H ow0) (owOf ow0) (startR N.length ds) [] (L2.start N vs) H where
  len := by
    unfold startR L2.start
    simp [h.length]
  sl := fun i d q => by
    obtain ⟨v, h1, h2⟩ := h.get i d (startR_get q)
    have f : frz d = d := by
      have := congrArg (·[i]?) e
      simp only [frzs_map, List.getElem?_map, startR_get q, Option.map_some] at this
      exact Option.some.inj this
    exact ⟨v, start_get h1, Rep.moveF d f (fun a o z q => ⟨z, by unfold owOf; rw [q]⟩) (fun _ _ z _ => z) h2⟩
  tm := fun j d v q => by simp at q
  old := fun a o _ z => z
  own := fun a l q => by
    unfold owOf at q
    split at q
    · cases q; exact .inl rfl
    · cases q
  fo := fun a q => by
    unfold owOf
    cases e : ow0 a with
    | none => exact absurd e q
    | some l => rfl
  mu := fun a l q => by
    unfold owOf at q
    split at q
    · rename_i m e; exact hm a m e
    · cases q
  pin := fun p hp => by simp [fcOf] at hp
theorem behind_of {ow0 : Ow} {d : D} {v : V} {b : Bs} (hb : b ≠ .fo) {r : Rho} {T : List (D × V)} {s : L2.St} (S : StW G (fcOf H ow0) ow r T s H') (h : Rep G ow H' d ⟨b, []⟩ v) : Behind G ow0 H H' d v :=
  ⟨ow, b, hb, h, fun a l q n => (S.own a l q).elim (fun z => absurd z n) fun z => z.elim id False.elim, fun a q => S.fo a q, S.mu⟩
theorem ext_of {ow0 : Ow} {r : Rho} {T : List (D × V)} {s : L2.St} (S : StW G (fcOf H ow0) ow r T s H') : Ext H H' := fun a o q => S.old a o (fun z => z) q
end
section
variable {P : Program} {w : World} {K : PySem.W.Frag} {mg : Str → Option Value} {base : Heap} {G : GX}
/-- THE RULE for a def -/
theorem fnV {x qual : Str} {st : Stmt} {f : Addr} {fd : FuncData} {N ps : List Str} {k : Nat} {fb : Sv} (F : Fun K x qual st f fd) (S : FnScope N ps (defScope st))
    (hbody : ∀ (X : Cx) (C : Fc) (W : WX), X.prog = P → X.w = w → X.K = K → X.mg = mg → X.base = base → X.N = N → X.env.scope = defScope st → X.calm = true → X.ex = [] → Room k X.A → (∀ x, X.fn x = true) → C.pin = [] → Takes X W → PassesOwn (model X.prog X.w) X.A X.env X.xe → X.stack = X.env :: X.outer → X.env.frame = some X.env.locals → X.env.scope.kind = .function → VSs X G C W (defBody st) fb) :
    FnOk P w K mg base (L2.CX P w) (k + 1) f fd ps (spV G ps.length (runF N.length fb)) := by
  refine F.okX S (fun vs H Q E h => spV_len h) (fun cdv A outer s H vs Q E hr h => ?_)
  obtain ⟨ds, ow0, h1, h2, h3, h4, h5⟩ := h
  refine ⟨_, hbody (cxOf (L2.CX P w) P w K mg base N qual (defScope st) f cdv A outer s H E) (fcOf H ow0) (fun cls d _ H => E cls d H) rfl rfl rfl rfl rfl rfl rfl rfl rfl hr (fun _ => rfl) rfl (takes_of rfl rfl rfl rfl) (passes_of rfl) rfl rfl S.kind, ?_⟩
  refine ⟨startR N.length ds, [], ⟨_, start_ok (N := N) h3 h2 h4⟩, ?_⟩
  unfold runF at h5
  cases e : fb (startR N.length ds) with
  | nx r =>
    rw [e] at h5
    intro s' H' S'
    obtain ⟨ow, S'⟩ := S'
    exact h5 .non H' (ext_of S') (behind_of (b := .tm 0) (fun z => nomatch z) S' rfl)
  | rt x r =>
    simp only [e] at h5
    intro s' v H' P'
    cases e2 : opd r x with
    | none => rw [e2] at h5; exact h5.elim
    | some d =>
      rw [e2] at h5
      obtain ⟨⟨ow, S'⟩, l⟩ := P'
      have z := opd_rep (T := []) (T2 := []) (by simpa using S') l e2
      refine h5 v H' (ext_of S') ?_
      cases x with
      | val d' => exact behind_of (b := .tm 0) (fun z => nomatch z) S' z
      | loc i => exact behind_of (b := .sl i) (fun z => nomatch z) S' z
  | exc c r =>
    simp only [e] at h5
    intro s' H' S'
    obtain ⟨ow, S'⟩ := S'
    exact h5 H' (ext_of S')
  | bk r => rw [e] at h5; exact h5.elim
  | ct r => rw [e] at h5; exact h5.elim
  | bad => rw [e] at h5; exact h5.elim
end

/-! ### a call -/
def isTup : Kd → Bool
  | .tup => true
  | _ => false
mutual
/-- no list, dict or instance in it is shared -/
def noL : D → Bool
  | .node k o xs => (o || isTup k) && noLs xs
  | .any => false
  | _ => true
def noLs : List D → Bool
  | [] => true
  | d :: ds => noL d && noLs ds
end
def callK (F : List D → FO) (xs : List R) (r : Rho) : EO := match opds r xs with
  | some ds => (match F (frzs ds) with
    | .ok d => if noL d = true then .ok (.val d) r else .ok (.val d) (settles r xs)
    | .exc c => .exc c r
    | .bad => .bad)
  | none => .bad
def cCall (n : Nat) (F : List D → FO) (fs : Av) : Ev := fun r => (fs r).bd fun xs r1 => if xs.length = n then callK F xs r1 else .bad
section
variable {X : Cx} {G : GX} {C : Fc} {W : WX} {ow ow' : Ow} {r : Rho} {T T1 T2 : List (D × V)} {s : L2.St} {H H' : Hp} {fs : Av}
/-- who owns what behind a call -/
def aft (H : Hp) (ow ow1 : Ow) (n : Nat) : Ow := fun a => match H a with
  | none => (match ow1 a with
    | some l => some ⟨.tm n, l.p⟩
    | none => none)
  | some _ => ow a
mutual
theorem Rep.aft : ∀ (d : D) {l l' : Loc} {v : V} {ow1 : Ow} {n : Nat}, (∀ a k vs, k ≠ .rd → Holds G H' a k vs → (isTup k = true ∨ VL.noL d = false) → ow1 a = none → H a ≠ none → ow a = none) → (∀ a m, ow1 a = some m → m.b ≠ .fo → H a = none) → l.b ≠ .fo → l'.b = .tm n → l'.p = l.p → Rep G ow1 H' d l v → Rep G (VL.aft H ow ow1 n) H' d l' v
  | .any, _, _, _, _, _, _, _, _, _, _, _ => trivial
  | .non, _, _, _, _, _, _, _, _, _, _, h => h
  | .bl _, _, _, _, _, _, _, _, _, _, _, h => h
  | .int _, _, _, _, _, _, _, _, _, _, _, h => h
  | .str _, _, _, _, _, _, _, _, _, _, _, h => h
  | .exc _, _, _, _, _, _, _, _, _, _, _, h => h
  | .ty _, _, _, _, _, _, _, _, _, _, _, h => h
  | .cls _, _, _, _, _, _, _, _, _, _, _, h => h
  | .node k o xs, l, l', v, ow1, n, hz, hn, hb, hb', hp, h => by
    obtain ⟨a, vs, ev, h1, h2, h3⟩ := h
    have un : VL.noLs xs = false → VL.noL (.node k o xs) = false := fun z => by
      show ((o || isTup k) && VL.noLs xs) = false
      rw [z, Bool.and_false]
    refine ⟨a, vs, ev, h1, ?_, Reps.aft xs (fun a k' vs' nr z y => hz a k' vs' nr z (y.imp id un)) hn hb hb' hp h3⟩
    by_cases hrd : k = .rd
    · subst hrd; trivial
    have h2 := h2.cases.resolve_left hrd
    refine .mk ?_
    cases o with
    | true =>
      have q : ow1 a = some l := by simpa using h2
      have z := hn a l q hb
      unfold VL.aft
      rw [z, q]
      obtain ⟨lb, lp⟩ := l'
      cases hb'
      cases hp
      rfl
    | false =>
      have q : ow1 a = none := by simpa using h2
      have hk : isTup k = true ∨ VL.noL (.node k false xs) = false := by
        cases e : isTup k with
        | true => exact .inl rfl
        | false =>
          refine .inr ?_
          show ((false || isTup k) && VL.noLs xs) = false
          rw [e]; rfl
      unfold VL.aft
      cases z : H a with
      | none => simp only [q]; rfl
      | some u => exact hz a k vs hrd h1 hk q (by rw [z]; exact fun y => nomatch y)
theorem Reps.aft : ∀ (ds : List D) {l l' : Loc} {i : Nat} {vs : List V} {ow1 : Ow} {n : Nat}, (∀ a k vs, k ≠ .rd → Holds G H' a k vs → (isTup k = true ∨ VL.noLs ds = false) → ow1 a = none → H a ≠ none → ow a = none) → (∀ a m, ow1 a = some m → m.b ≠ .fo → H a = none) → l.b ≠ .fo → l'.b = .tm n → l'.p = l.p → Reps G ow1 H' ds l i vs → Reps G (VL.aft H ow ow1 n) H' ds l' i vs
  | [], _, _, _, _, _, _, _, _, _, _, _, h => h
  | d :: ds, l, l', i, vs, ow1, n, hz, hn, hb, hb', hp, h => by
    obtain ⟨v, ws, ev, h1, h2⟩ := h
    have u1 : VL.noL d = false → VL.noLs (d :: ds) = false := fun z => by show (VL.noL d && VL.noLs ds) = false; rw [z]; rfl
    have u2 : VL.noLs ds = false → VL.noLs (d :: ds) = false := fun z => by show (VL.noL d && VL.noLs ds) = false; rw [z, Bool.and_false]
    exact ⟨v, ws, ev, Rep.aft (l := l.sub i) (l' := l'.sub i) d (fun a k vs nr z y => hz a k vs nr z (y.imp id u1)) hn hb hb' (by show l'.p ++ [i] = l.p ++ [i]; rw [hp]) h1, Reps.aft ds (fun a k vs nr z y => hz a k vs nr z (y.imp id u2)) hn hb hb' hp h2⟩
end
/-- behind a call, the state with the value -/
theorem StW.aft {d : D} {v : V} {ow1 : Ow} (S : StW G C ow r T s H) (hx : Ext H H') (hm : ∀ a m, ow1 a = some m → OwnO (H' a)) (hr : Rep G (VL.aft H ow ow1 T.length) H' d ⟨.tm T.length, []⟩ v) : StW G C (VL.aft H ow ow1 T.length) r (T ++ [(d, v)]) s H' := by
  have keep : ∀ a o, H a = some o → VL.aft H ow ow1 T.length a = ow a := fun a o z => by unfold VL.aft; rw [z]
  have S' : StW G C (VL.aft H ow ow1 T.length) r T s H' := by
    refine ⟨S.len, fun i d q => ?_, fun j d v q => ?_, fun a o n q => hx a o (S.old a o n q), fun a l q => ?_, fun a q => ?_, fun a l q => ?_, S.pin⟩
    · obtain ⟨v', z1, z2⟩ := S.sl i d q
      exact ⟨v', z1, Rep.mono (l := ⟨.sl i, []⟩) d (fun a o z _ => hx a o z) (fun a o z _ => hx a o z) (fun a o z n => by rw [keep a o z, n]) (fun a o q z n => by rw [keep a o z, n]) z2⟩
    · exact Rep.mono (l := ⟨.tm j, []⟩) d (fun a o z _ => hx a o z) (fun a o z _ => hx a o z) (fun a o z n => by rw [keep a o z, n]) (fun a o q z n => by rw [keep a o z, n]) (S.tm j d v q)
    · cases z : H a with
      | some o => rw [keep a o z] at q; exact S.own a l q
      | none =>
        refine .inr ?_
        cases e : C.H0 a with
        | none => exact .inl rfl
        | some u =>
          by_cases hi : C.io a
          · exact .inr hi
          · rw [S.old a u hi e] at z; cases z
    · have z := S.fo a q
      have m := S.mu a _ z
      cases y : H a with
      | none => rw [y] at m; exact m.elim
      | some o => rw [keep a o y]; exact z
    · cases z : H a with
      | some o =>
        rw [keep a o z] at q
        have m := S.mu a l q
        rw [z] at m
        rw [hx a o z]
        exact m
      | none =>
        unfold VL.aft at q
        rw [z] at q
        cases y : ow1 a with
        | none => rw [y] at q; cases q
        | some m => exact hm a m y
  exact S'.push hr
theorem call_go {n : Nat} {F : List D → FO} {Q : VK} {xs : List R} {vs : List V} (S : StOk G C r (T ++ pushs xs vs) s H) (l : LocsOk s xs vs) (h : Goes G C W T s Q (if xs.length = n then callK F xs r else .bad)) : spV G n F vs H Q (WE W s) := by
  split at h
  · rename_i hn
    unfold callK at h
    cases e : opds r xs with
    | none => rw [e] at h; exact h.elim
    | some ds =>
      simp only [e] at h
      obtain ⟨ow, S⟩ := S
      obtain ⟨ow0, S0, h1, h2, h3⟩ := S.settles l e
      refine ⟨frzs ds, ow0, ?_, frzs_frzs ds, S0.mu, h1 _ _, ?_⟩
      · rw [(h1 ⟨.fo, []⟩ 0).length, ← l.length, hn]
      cases e2 : F (frzs ds) with
      | bad => rw [e2] at h; exact h.elim
      | exc c =>
        simp only [e2] at h
        exact fun H' hx => h H' ⟨ow, S.drop.ext hx⟩
      | ok d =>
        simp only [e2] at h
        intro v H' hx hb
        obtain ⟨ow1, b, b1, b2, b3, b4, b5⟩ := hb
        split at h
        · rename_i hno
          have hr : Rep G (VL.aft H ow ow1 T.length) H' d ⟨.tm T.length, []⟩ v := Rep.aft (l := ⟨b, []⟩) d (fun a k vs _ z y q nz => by
            rcases y with y | y
            · cases k with
              | tup =>
                cases y2 : ow a with
                | none => rfl
                | some m =>
                  have mu := S.mu a m y2
                  cases z2 : H a with
                  | none => exact absurd z2 nz
                  | some u =>
                    have z3 := hx a u z2
                    rw [show H' a = some (.tup vs) from z] at z3
                    cases z3
                    rw [z2] at mu
                    exact mu.elim
              | _ => cases y
            · rw [hno] at y; cases y) b3 b1 rfl rfl b2
          exact h v H' ⟨⟨_, StW.aft S.drop hx b5 hr⟩, trivial⟩
        · have hr : Rep G (VL.aft H ow0 ow1 T.length) H' d ⟨.tm T.length, []⟩ v := Rep.aft (l := ⟨b, []⟩) d (fun a k vs _ z y q nz => by
            cases y2 : ow0 a with
            | none => rfl
            | some m =>
              have := b4 a (by rw [y2]; exact fun z => nomatch z)
              rw [q] at this
              cases this) b3 b1 rfl rfl b2
          exact h v H' ⟨⟨_, StW.aft S0 hx b5 hr⟩, trivial⟩
  · exact h.elim
theorem ve_call {n k : Nat} {F : List D → FO} {f : Addr} {fd : FuncData} {ps : List Str} {x : Str} {p pos : Pos} {e : Expr} {es : List Expr} (tk : Takes X W) (Fk : FnOk X.prog X.w X.K X.mg X.base (L2.CX X.prog X.w) k f fd ps (spV G n F)) (hr : Room k X.A) (hg : Gl X x) (hm : X.mg x = some (.ref f))
    (hk : PySem.W.keepIn X.K (.ref f) = true) (hb : Binds X.K fd ps []) (ha : VA X G C W (e :: es) fs) (hdb : (x == ("__debug__" : Str)) = false := by decide) (he : starEach (e :: es) X.env = (false, eval e X.env) :: starEach es X.env := by rfl) (hpl : (backTo pos (starEach es X.env)).any (·.1) = false := by rfl) :
    VE X G C W (.Call (.Name x p) (e :: es) [] pos) (cCall n F fs) := by
  refine PE.imp (pe_callS Fk hr hg hm hk hb (fun σ => passAt tk σ) ha hdb he hpl) fun s H Q h => ?_
  obtain ⟨r, T, S, g⟩ := h
  exact many (T2 := []) (by simpa using S) g fun xs vs r1 H1 S1 l1 g1 => call_go (by simpa using S1) l1 g1
end
end VL

namespace VL
open PySem PySem.Spec PyProof.Rows L2
section
variable {X : Cx} {G : GX} {C : Fc} {W : WX} {ow ow' : Ow} {r : Rho} {T T1 T2 : List (D × V)} {s : L2.St} {H H' : Hp} {fa fb fc : Ev} {fs : Av}
/-! ### a name's own list, dict, .. is changed -/
/-- b stands in a tree elsewhere: it isn't the cell a of slot i -/
theorem apart {i : Nat} {a b : Addr} {l : Loc} (ha : ow a = some ⟨.sl i, []⟩) (hb : ow b = none ∨ ∃ q, ow b = some (l.app q)) (hl : l.b ≠ .sl i ∨ l.p ≠ []) : b ≠ a := fun e => by
  subst e
  rw [ha] at hb
  rcases hb with hb | ⟨q, hb⟩
  · cases hb
  · have hb := Option.some.inj hb
    unfold Loc.app at hb
    injection hb with e1 e2
    rcases hl with hl | hl
    · exact hl e1.symm
    · exact hl (List.append_eq_nil_iff.mp e2.symm).1
theorem StW.write {i : Nat} {k k' : Kd} (hk : k ≠ .rd) {ds ds' : List D} {a : Addr} {vs' : List V} {ho : HO} {T' : List (D × V)} (S : StW G C ow r T s H) (q : r[i]? = some (some (.node k true ds))) (ha : s[i]? = some (some (.ref a)))
    (hm : OwnO (some ho)) (hh : Holds G (upd H a ho) a k' vs')
    (h1 : ∀ b, ow b = none → ow' b = none) (h2 : ∀ b j p, ow b = some ⟨.sl j, p⟩ → j ≠ i → ow' b = some ⟨.sl j, p⟩) (h4 : ∀ b p, ow b = some ⟨.fo, p⟩ → ow' b = some ⟨.fo, p⟩)
    (h5 : ∀ b l, ow' b = some l → ∃ l', ow b = some l' ∧ (l.b = .fo → l'.b = .fo)) (h5' : ∀ b l, ow' b = some l → l.b ≠ .fo → ∀ l', ow b = some l' → l'.b ≠ .fo) (h6 : ow' a = some ⟨.sl i, []⟩)
    (h7 : Reps G ow' (upd H a ho) ds' ⟨.sl i, []⟩ 0 vs') (h8 : ∀ (j : Nat) d v, T'[j]? = some (d, v) → Rep G ow' (upd H a ho) d ⟨.tm j, []⟩ v) :
    StW G C ow' (r.set i (some (.node k' true ds'))) T' s (upd H a ho) := by
  obtain ⟨v, z1, a', vs, ev, z2, z3, z4⟩ := S.sl i _ q
  rw [ha] at z1
  cases z1
  cases ev
  have oa : ow a = some ⟨.sl i, []⟩ := by simpa using z3.cases.resolve_left hk
  have exn : ∀ (b : Addr) (o : HO), H b = some o → ¬ OwnO (some o) → upd H a ho b = some o := fun b o z n => by
    rw [upd_ne (fun e => by have m := S.mu a _ oa; rw [e] at z; rw [z] at m; exact n m)]; exact z
  refine ⟨by simpa using S.len, fun j d' y => ?_, h8, fun b o n y => ?_, fun b l y => ?_, fun b y => h4 b _ (S.fo b y), fun b l y => ?_, S.pin⟩
  · by_cases hj : j = i
    · subst hj
      have hlt : j < r.length := (List.getElem?_eq_some_iff.mp q).1
      rw [List.getElem?_set_self hlt] at y
      cases y
      exact ⟨_, ha, a, vs', rfl, hh, .mk (by simpa using h6), h7⟩
    · rw [List.getElem?_set_ne (Ne.symm hj)] at y
      obtain ⟨v', y1, y2⟩ := S.sl j d' y
      refine ⟨v', y1, Rep.mono (l := ⟨.sl j, []⟩) d' (fun b o z w => by rw [upd_ne (apart oa w (.inl (fun z => hj (by injection z))))]; exact z) (fun b o z n => exn b o z n) (fun b o _ n => h1 b n) (fun b o p _ n => ?_) y2⟩
      exact h2 b j ([] ++ p) n hj
  · by_cases hb : b = a
    · subst hb
      rcases S.own b _ oa with z | z | z
      · cases z
      · rw [z] at y; cases y
      · exact absurd z n
    · rw [upd_ne hb]; exact S.old b o n y
  · obtain ⟨l', y1, y2⟩ := h5 b l y
    by_cases hf : l.b = .fo
    · exact .inl hf
    · rcases S.own b l' y1 with z | z
      · exact absurd z (h5' b l y hf l' y1)
      · exact .inr z
  · by_cases hb : b = a
    · subst hb; rw [upd_same]; exact hm
    · rw [upd_ne hb]
      obtain ⟨l', y1, _⟩ := h5 b l y
      exact S.mu b l' y1
/-- the last temporary becomes the k-th part of slot i's list -/
def intoSl (ow : Ow) (n i k : Nat) : Ow := fun a => match ow a with
  | some ⟨.tm j, p⟩ => if j = n then some ⟨.sl i, k :: p⟩ else some ⟨.tm j, p⟩
  | some ⟨.sl j, p⟩ => if j = i ∧ p.head? = some k then none else some ⟨.sl j, p⟩
  | x => x
theorem into_fo {n i k : Nat} {b : Addr} {l : Loc} (h : intoSl ow n i k b = some l) : ∃ l', ow b = some l' ∧ (l.b = .fo ↔ l'.b = .fo) := by
  unfold intoSl at h
  cases e : ow b with
  | none => rw [e] at h; cases h
  | some m =>
    rw [e] at h
    obtain ⟨mb, mp⟩ := m
    refine ⟨_, rfl, ?_⟩
    cases mb with
    | tm j =>
      simp only at h
      split at h <;> (cases h; exact ⟨(fun z => nomatch z), (fun z => nomatch z)⟩)
    | sl j =>
      simp only at h
      split at h
      · cases h
      · cases h; exact ⟨(fun z => nomatch z), (fun z => nomatch z)⟩
    | fo => cases h; exact Iff.rfl
/-- x[k] = the last temporary, or x.append of it (k the length) -/
theorem StW.into {i k : Nat} {ds ds' : List D} {d : D} {a : Addr} {v : V} (S : StW G C ow r (T ++ [(d, v)]) s H) (q : r[i]? = some (some (.node .lst true ds))) (ha : s[i]? = some (some (.ref a)))
    (hds : (ds' = ds.set k d ∧ k < ds.length) ∨ (ds' = ds ++ [d] ∧ k = ds.length)) : ∃ vs, H a = some (.lst vs) ∧ vs.length = ds.length ∧
    StW G C (intoSl ow T.length i k) (r.set i (some (.node .lst true ds'))) T s (upd H a (.lst (if k < ds.length then vs.set k v else vs ++ [v]))) := by
  obtain ⟨v', z1, a', vs, ev, z2, z3, z4⟩ := S.sl i _ q
  rw [ha] at z1
  cases z1
  cases ev
  have oa : ow a = some ⟨.sl i, []⟩ := by simpa [OwnAt] using z3
  have hl := z4.length
  have exn : ∀ (b : Addr) (o ho : HO), H b = some o → ¬ OwnO (some o) → upd H a ho b = some o := fun b o ho z n => by
    rw [upd_ne (fun e => by rw [e, show H a = some (.lst vs) from z2] at z; cases z; exact n trivial)]; exact z
  refine ⟨vs, z2, hl.symm, StW.write (k := .lst) (ow' := intoSl ow T.length i k) (fun z => nomatch z) S q ha trivial (vs' := if k < ds.length then vs.set k v else vs ++ [v]) upd_same (fun b n => by unfold intoSl; rw [n]) (fun b j p n hj => ?_) (fun b p n => by unfold intoSl; rw [n]) (fun b l y => ?_) (fun b l y n l' y2 => ?_) ?_ ?_ (fun j d' w y => ?_)⟩
  · unfold intoSl; rw [n]; exact if_neg (fun z => hj z.1)
  · obtain ⟨l', y1, y2⟩ := into_fo y
    exact ⟨l', y1, y2.mp⟩
  · obtain ⟨l2, y1, y3⟩ := into_fo y
    rw [y2] at y1
    cases y1
    exact fun z => n (y3.mpr z)
  · unfold intoSl; rw [oa]; simp
  · -- the parts
    have old : ∀ (m : Nat) dm vm, m ≠ k → ds[m]? = some dm → vs[m]? = some vm → Rep G (intoSl ow T.length i k) (upd H a (.lst (if k < ds.length then vs.set k v else vs ++ [v]))) dm (Loc.sub ⟨.sl i, []⟩ (0 + m)) vm := fun m dm vm hm q1 q2 => by
      obtain ⟨vm', y1, y2⟩ := z4.get m dm q1
      rw [q2] at y1
      cases y1
      refine Rep.mono (l := Loc.sub ⟨.sl i, []⟩ (0 + m)) dm (fun b o z w => by rw [upd_ne (apart oa w (.inr (by simp [Loc.sub])))]; exact z) (fun b o z n => exn b o _ z n) (fun b o _ n => by unfold intoSl; rw [n]) (fun b o p _ n => ?_) y2
      have n' : ow b = some ⟨.sl i, m :: p⟩ := by rw [n]; simp [Loc.sub, Loc.app]
      unfold intoSl
      rw [n']
      have : ¬ (i = i ∧ (m :: p).head? = some k) := by simp [hm]
      simp [Loc.sub, Loc.app, hm]
    have new : Rep G (intoSl ow T.length i k) (upd H a (.lst (if k < ds.length then vs.set k v else vs ++ [v]))) d (Loc.sub ⟨.sl i, []⟩ (0 + k)) v := by
      refine Rep.mono (l := ⟨.tm T.length, []⟩) d (fun b o z w => by rw [upd_ne (apart oa w (.inl (fun z => nomatch z)))]; exact z) (fun b o z n => exn b o _ z n) (fun b o _ n => by unfold intoSl; rw [n]) (fun b o p _ n => ?_) S.last
      have n' : ow b = some ⟨.tm T.length, [] ++ p⟩ := n
      unfold intoSl
      rw [n']
      simp [Loc.sub, Loc.app]
    rcases hds with ⟨e, hk⟩ | ⟨e, hk⟩
    · subst e
      refine Reps.of_get (by rw [if_pos hk]; simp [hl]) fun m dm vm q1 q2 => ?_
      rw [if_pos hk] at q2
      by_cases hm : m = k
      · subst hm
        rw [List.getElem?_set_self hk] at q1
        rw [List.getElem?_set_self (by omega)] at q2
        cases q1; cases q2
        exact new
      · rw [List.getElem?_set_ne (Ne.symm hm)] at q1 q2
        exact old m dm vm hm q1 q2
    · subst e
      subst hk
      refine Reps.of_get (by rw [if_neg (by omega)]; simp [hl]) fun m dm vm q1 q2 => ?_
      rw [if_neg (by omega)] at q2
      by_cases hm : m < ds.length
      · rw [List.getElem?_append_left hm] at q1
        rw [List.getElem?_append_left (by omega)] at q2
        exact old m dm vm (by omega) q1 q2
      · rw [List.getElem?_append_right (by omega)] at q1
        rw [List.getElem?_append_right (by omega), ← hl] at q2
        have em : m = ds.length := by
          have := (List.getElem?_eq_some_iff.mp q1).1
          simp at this; omega
        subst em
        simp at q1 q2
        subst q1; subst q2
        exact new
  · have hj : j < T.length := (List.getElem?_eq_some_iff.mp y).1
    have z := S.tm j d' w (by rw [List.getElem?_append_left hj]; exact y)
    refine Rep.mono (l := ⟨.tm j, []⟩) d' (fun b o z w => by rw [upd_ne (apart oa w (.inl (fun z => nomatch z)))]; exact z) (fun b o z n => exn b o _ z n) (fun b o _ n => by unfold intoSl; rw [n]) (fun b o p _ n => ?_) z
    have n' : ow b = some ⟨.tm j, [] ++ p⟩ := n
    unfold intoSl
    rw [n']
    have : ¬ j = T.length := by omega
    simp [Loc.app, this]

/-! ### x.append(e) -/
def isLst (r : Rho) (i : Nat) : Bool := match r[i]? with
  | some (some (.node .lst _ _)) => true
  | _ => false
def appK (i : Nat) (x : R) (r1 : Rho) : EO := match x, r1[i]? with
  | .val d, some (some (.node .lst true ds)) => if ds.length < 16777216 then .ok (.val .non) (r1.set i (some (.node .lst true (ds ++ [d])))) else .bad
  | _, _ => .bad
def cApp (i : Nat) (fa : Ev) : Ev := fun r => if isLst r i = true then (cSet fa r).bd (appK i) else .bad
theorem isLst_at {i : Nat} (h : isLst r i = true) : ∃ o ds, r[i]? = some (some (.node .lst o ds)) := by
  unfold isLst at h
  split at h
  · rename_i o ds e; exact ⟨o, ds, e⟩
  · cases h
theorem ve_app {i : Nat} {x : Str} {e : Expr} {p apos cpos : Pos} (hN : X.N[i]? = some x) (hv : Vis X.env.scope x) (hd : (x == ("__debug__" : Str)) = false) (hcd : (x == ("__classdict__" : Str)) = false) (ha : VE X G C W e fa)
    (hbase : attributeBase (.Name x p) "append" X.env (eval (.Name x p) X.env) = eval (.Name x p) X.env := by rfl)
    (hfew : ((backTo cpos (starEach [e] X.env)).all (fun x => !x.1) && (backToKw cpos (keywordEach [] X.env)).all (fun x => x.1.isSome)
      && decide ([e].length + ([] : List Keyword).length + (if ([] : List Keyword).isEmpty then 0 else 1) < 30)) = true := by rfl)
    (hline : (apos.endLine == cpos.line) = true := by rfl) (hs : starEach [e] X.env = (false, eval e X.env) :: starEach [] X.env := by rfl) (hplain : (backTo cpos (starEach [] X.env)).any (·.1) = false := by rfl) :
    VE X G C W (.Call (.Attribute (.Name x p) "append" apos) [e] [] cpos) (cApp i fa) := by
  refine PE.imp (pe_bm PySem.F.plainAttrs_list PySem.F.slot_list_append PySem.F.type_list_append mt_append (pe_var hN hv hd hcd) (pa_cons (ve_set ha) pa_nil hs) hbase hfew hline hs hplain) fun s H Q h => ?_
  obtain ⟨r, T, S, g⟩ := h
  have g : Goes G C W T s Q (cApp i fa r) := g
  unfold cApp at g
  split at g
  · rename_i hi
    obtain ⟨o, ds, hr⟩ := isLst_at hi
    obtain ⟨ow, S0⟩ := S
    obtain ⟨v, v1, a, vs, ev, v2, v3, v4⟩ := S0.sl i _ hr
    subst ev
    refine ⟨_, v1, .inl ⟨rfl, vs, SqL.of v2⟩, ?_⟩
    refine one (fa := cSet fa) ⟨ow, S0⟩ g fun x v' r1 H1 P g1 => ?_
    unfold appK at g1
    split at g1
    · rename_i d ds' q
      split at g1
      · rename_i hz
        obtain ⟨ow1, S1⟩ := P.1
        obtain ⟨vs', w1, w2, S2⟩ := StW.into S1 q v1 (.inr ⟨rfl, rfl⟩)
        rw [if_neg (Nat.lt_irrefl _)] at S2
        exact ⟨a, vs', v', rfl, rfl, w1, by rw [w2, sizeLine_eq]; exact hz, g1 _ _ ⟨StOk.pushN ⟨_, S2⟩, trivial⟩⟩
      · exact g1.elim
    · exact g1.elim
  · exact g.elim

/-! ### x[k] = e -/
def setIxK (i : Nat) (x y : R) (r1 : Rho) : SO := match x, opd r1 y, r1[i]? with
  | .val d, some (.int k), some (some (.node .lst true ds)) => (match ixN ds.length k with
    | some j => .nx (r1.set i (some (.node .lst true (ds.set j d))))
    | none => .bad)
  | _, _, _ => .bad
def cSetIx (i : Nat) (fk fa : Ev) : Sv := fun r => (cSet fa r).st fun x r1 => if isLst r1 i = true then (fk r1).st (setIxK i x) else .bad
theorem vs_setIx {i : Nat} {x : Str} {k e : Expr} {p tpos pos : Pos} {fk : Ev} (hN : X.N[i]? = some x) (hv : Vis X.env.scope x) (hd : (x == ("__debug__" : Str)) = false) (hcd : (x == ("__classdict__" : Str)) = false) (hk : VE X G C W k fk) (ha : VE X G C W e fa)
    (has : ∀ v, assign (.Subscript (.Name x p) k tpos) X.env v = (do
      let ov ← holding [v] (eval (.Name x p) X.env)
      let iv ← holding [v, ov] (eval k X.env)
      standAt tpos
      holding [v, ov, iv] (setItem ov iv v)
      release [v, ov, iv] []) := by intro _; rfl)
    (hs : swapsWithSole [.Subscript (.Name x p) k tpos] e pos.line X.env = pure false := by rfl) (hw : swappedStores [.Subscript (.Name x p) k tpos] e X.env = pure none := by rfl)
    (h1 : (assignEach [.Subscript (.Name x p) k tpos] X.env).map (·.2) = [assign (.Subscript (.Name x p) k tpos) X.env] := by rfl) : VS X G C W (.Assign [.Subscript (.Name x p) k tpos] e pos) (cSetIx i fk fa) := by
  refine PS.imp (ps_asg (ve_set ha) (pg_sub (pe_var hN hv hd hcd) hk set_list has) hs hw h1) fun D s H h => ?_
  obtain ⟨r, T, S, g⟩ := h
  refine oneS (fa := cSet fa) S g fun x v r1 H1 P g1 => ?_
  split at g1
  · rename_i hi
    obtain ⟨o, ds, hr⟩ := isLst_at hi
    obtain ⟨ow1, S1⟩ := P.1
    obtain ⟨w, v1, a, vs, ev, v2, v3, v4⟩ := S1.sl i _ hr
    subst ev
    refine ⟨_, v1, ?_⟩
    refine ⟨r1, T ++ pushR x v, ⟨ow1, S1⟩, ?_⟩
    cases e1 : fk r1 with
    | exc c r2 => rw [e1] at g1; exact fun H' S' => g1 s H' S'.drop
    | bad => rw [e1] at g1; exact g1.elim
    | ok y r2 =>
      rw [e1] at g1
      simp only [st_ok] at g1
      intro u H2 P2
      unfold setIxK at g1
      split at g1
      · rename_i d k' ds' e2 q
        split at g1
        · rename_i j ej
          obtain ⟨ow2, S2⟩ := P2.1
          have eu := opd_rep (T := T ++ pushR (.val d) v) (T2 := []) (by rw [List.append_nil]; exact S2) P2.2 e2
          have S3 : StW G C ow2 r2 (T ++ [(d, v)]) s H2 := StW.drop (T := T ++ [(d, v)]) (T2 := pushR y u) S2
          obtain ⟨m1, m2, _⟩ := ixN_seq ej
          obtain ⟨vs', w1, w2, S4⟩ := StW.into S3 q v1 (.inl ⟨rfl, m2⟩)
          rw [if_pos m2] at S4
          exact ⟨a, vs', k', j, rfl, eu, w1, by rw [w2]; exact ej, g1 _ _ ⟨_, S4⟩⟩
        · exact g1.elim
      · exact g1.elim
  · exact g1.elim

/-! ### x.index(y) of flat things -/
def idxD (ds : List D) (d : D) : Option Nat := ds.findIdx? fun e => PyData.eqv (toPy e) (toPy d)
def gIndex : G2 := fun x y r => match opd r x, opd r y with
  | some (.node .lst _ ds), some d => if (flatD d && ds.all flatD) = true then (match idxD ds d with
    | some j => .ok (.val (.int (j : Nat))) r
    | none => .bad) else .bad
  | _, _ => .bad
theorem all_get {ds : List D} {j : Nat} {d : D} (f : ds.all flatD = true) (h : ds[j]? = some d) : flatD d = true := List.all_eq_true.mp f d (List.mem_of_getElem? h)
/-- a method of a list, one argument -/
theorem ve_index {i : Nat} {x : Str} {e : Expr} {p apos cpos : Pos} (hN : X.N[i]? = some x) (hv : Vis X.env.scope x) (hd : (x == ("__debug__" : Str)) = false) (hcd : (x == ("__classdict__" : Str)) = false) (ha : VE X G C W e fa)
    (hbase : attributeBase (.Name x p) "index" X.env (eval (.Name x p) X.env) = eval (.Name x p) X.env := by rfl)
    (hfew : ((backTo cpos (starEach [e] X.env)).all (fun x => !x.1) && (backToKw cpos (keywordEach [] X.env)).all (fun x => x.1.isSome)
      && decide ([e].length + ([] : List Keyword).length + (if ([] : List Keyword).isEmpty then 0 else 1) < 30)) = true := by rfl)
    (hline : (apos.endLine == cpos.line) = true := by rfl) (hs : starEach [e] X.env = (false, eval e X.env) :: starEach [] X.env := by rfl) (hplain : (backTo cpos (starEach [] X.env)).any (·.1) = false := by rfl) :
    VE X G C W (.Call (.Attribute (.Name x p) "index" apos) [e] [] cpos) (fun r => if isLst r i = true then cBin gIndex (cVar i) fa r else .bad) := by
  refine PE.imp (pe_bm PySem.F.plainAttrs_list PySem.F.slot_list_index PySem.F.type_list_index mt_index (ve_var (C := C) (W := W) (G := G) hN hv hd hcd) (pa_cons ha pa_nil hs) hbase hfew hline hs hplain) fun s H Q h => ?_
  obtain ⟨r, T, S, g⟩ := h
  have g : Goes G C W T s Q (if isLst r i = true then cBin gIndex (cVar i) fa r else .bad) := g
  split at g
  · rename_i hi
    obtain ⟨o, ds, hr⟩ := isLst_at hi
    obtain ⟨ow, S0⟩ := S
    obtain ⟨v, v1, a, vs, ev, v2, v3, v4⟩ := S0.sl i _ hr
    have ec : cVar i r = .ok (.loc i) r := by unfold cVar; rw [hr]; rfl
    refine ⟨r, T, ⟨ow, S0⟩, ?_⟩
    rw [ec]
    intro v' H1 P
    have g : Goes G C W T s Q ((fa r).bd fun y r2 => gIndex (.loc i) y r2) := by
      unfold cBin at g; rw [ec] at g; exact g
    have hv' : s[i]? = some (some v') := P.2
    have S1 : StOk G C r T s H1 := by simpa [pushR] using P.1
    obtain ⟨ow1, S1'⟩ := S1
    obtain ⟨w, w1, a', vs', ew, w2, w3, w4⟩ := S1'.sl i _ hr
    rw [hv'] at w1
    cases w1
    subst ew
    refine ⟨.inl ⟨rfl, vs', SqL.of w2⟩, ?_⟩
    refine one ⟨ow1, S1'⟩ g fun y u r2 H2 P2 g2 => ?_
    unfold gIndex at g2
    split at g2
    · rename_i o' ds' d e1 e2
      split at g2
      · rename_i hf
        rw [Bool.and_eq_true] at hf
        split at g2
        · rename_i j ej
          obtain ⟨ow2, S2⟩ := P2.1
          have q := opd_loc e1
          obtain ⟨w', y1, a2, vs2, ew2, y2, y3, y4⟩ := S2.sl i _ q
          rw [hv'] at y1
          cases y1
          cases ew2
          have ru := opd_rep (T2 := []) (by rw [List.append_nil]; exact S2) P2.2 e2
          unfold idxD at ej
          rw [List.findIdx?_eq_some_iff_getElem] at ej
          obtain ⟨hj, z1, z2⟩ := ej
          obtain ⟨vj, y5, y6⟩ := y4.get j ds'[j] (List.getElem?_eq_getElem hj)
          refine ⟨a', vs2, u, j, vj, rfl, rfl, SqL.of y2, (flat_rep hf.1 ru).1, flat_all hf.2 y4, y5, ?_, fun m z' hm hz' => ?_, g2 _ _ ⟨StOk.pushI (j : Nat) ⟨ow2, S2.drop⟩, trivial⟩⟩
          · rw [flat_eq (all_get hf.2 (List.getElem?_eq_getElem hj)) hf.1 y6 ru]; exact z1
          · have hmd : m < ds'.length := by omega
            obtain ⟨vm, y7, y8⟩ := y4.get m ds'[m] (List.getElem?_eq_getElem hmd)
            rw [hz'] at y7
            cases y7
            rw [flat_eq (all_get hf.2 (List.getElem?_eq_getElem hmd)) hf.1 y8 ru]
            have := z2 m hm
            simpa using this
        · exact g2.elim
      · exact g2.elim
    · exact g2.elim
  · exact g.elim
end
end VL

namespace VL
open PySem PySem.Spec PyProof.Rows L2
/-! ### a def that changes its first argument -/
inductive MO where
  | ok (d d0 : D) | bad
def fcM (H : Hp) (ow0 : Ow) (v0 : V) : Fc := ⟨H, fun a => ∃ p, ow0 a = some ⟨.sl 0, p⟩, fun a => ow0 a = some ⟨.fo, []⟩, [(0, v0)]⟩
def spM (G : GX) (n : Nat) (F : D → List D → MO) : Sp := fun vs H Q E => ∃ (d0 : D) (ds : List D) (v0 : V) (us : List V) (ow0 : Ow), vs = v0 :: us ∧ ds.length = n ∧ frzs ds = ds ∧ Rep G ow0 H d0 ⟨.sl 0, []⟩ v0 ∧ Reps G ow0 H ds ⟨.fo, []⟩ 0 us ∧
  (∀ a l, ow0 a = some l → OwnO (H a) ∧ (l.b = .sl 0 ∨ l = ⟨.fo, []⟩)) ∧ match F d0 ds with
  | .ok d d0' => ∀ v H' (ow1 : Ow) (b : Bs), (∀ a o, (∀ p, ow0 a ≠ some ⟨.sl 0, p⟩) → H a = some o → H' a = some o) → b ≠ .fo → b ≠ .sl 0 → Rep G ow1 H' d ⟨b, []⟩ v → Rep G ow1 H' d0' ⟨.sl 0, []⟩ v0 →
      (∀ a l, ow1 a = some l → l.b ≠ .fo → H a = none ∨ ∃ p, ow0 a = some ⟨.sl 0, p⟩) → (∀ a, ow0 a = some ⟨.fo, []⟩ → ow1 a = some ⟨.fo, []⟩) → (∀ a l, ow1 a = some l → OwnO (H' a)) → Q v H'
  | .bad => False
theorem spM_len {G : GX} {n : Nat} {F : D → List D → MO} {vs : List V} {H : Hp} {Q : VK} {E : XK} (h : spM G n F vs H Q E) : vs.length = n + 1 := by
  obtain ⟨d0, ds, v0, us, ow0, e, h1, _, _, h4, _⟩ := h
  rw [e, List.length_cons, ← h4.length, h1]
def runM (n : Nat) (f : Sv) (d0 : D) (ds : List D) : MO := match f (startR n (d0 :: ds)) with
  | .rt (.val d) r => (match r[0]? with
    | some (some d0') => .ok d d0'
    | _ => .bad)
  | .rt (.loc i) r => if i = 0 then .bad else (match opd r (.loc i), r[0]? with
    | some d, some (some d0') => .ok d d0'
    | _, _ => .bad)
  | .nx r => (match r[0]? with
    | some (some d0') => .ok .non d0'
    | _ => .bad)
  | _ => .bad
section
variable {G : GX} {H H' : Hp} {ow ow0 : Ow}
theorem startM_ok {N : List Str} {d0 : D} {ds : List D} {v0 : V} {us : List V} (hm : ∀ a l, ow0 a = some l → OwnO (H a) ∧ (l.b = .sl 0 ∨ l = ⟨.fo, []⟩)) (e : frzs ds = ds) (h0 : Rep G ow0 H d0 ⟨.sl 0, []⟩ v0) (h : Reps G ow0 H ds ⟨.fo, []⟩ 0 us) : StW G (fcM H ow0 v0) ow0 (startR N.length (d0 :: ds)) [] (L2.start N (v0 :: us)) H where
  len := by
    unfold startR L2.start
    simp [h.length]
  sl := fun i d q => by
    have q' := startR_get q
    cases i with
    | zero =>
      simp at q'
      subst q'
      exact ⟨v0, start_get rfl, h0⟩
    | succ i =>
      have q2 : ds[i]? = some d := by simpa using q'
      obtain ⟨v, h1, h2⟩ := h.get i d q2
      have f : frz d = d := by
        have := congrArg (·[i]?) e
        simp only [frzs_map, List.getElem?_map, q2, Option.map_some] at this
        exact Option.some.inj this
      exact ⟨v, start_get (by simpa using h1), Rep.moveF d f (fun a o z q => ⟨z, q⟩) (fun _ _ z _ => z) h2⟩
  tm := fun j d v q => by simp at q
  old := fun a o _ z => z
  own := fun a l q => by
    obtain ⟨_, z | z⟩ := hm a l q
    · obtain ⟨lb, lp⟩ := l
      have z : lb = .sl 0 := z
      subst z
      exact .inr (.inr ⟨lp, q⟩)
    · subst z; exact .inl rfl
  fo := fun a q => q
  mu := fun a l q => (hm a l q).1
  pin := fun p hp => by
    have e : p = (0, v0) := by simpa [fcM] using hp
    subst e
    exact start_get rfl
end
section
variable {P : Program} {w : World} {K : PySem.W.Frag} {mg : Str → Option Value} {base : Heap} {G : GX}
theorem fnM {x qual : Str} {st : Stmt} {f : Addr} {fd : FuncData} {N ps : List Str} {k n : Nat} {fb : Sv} (F : Fun K x qual st f fd) (S : FnScope N ps (defScope st)) (hps : ps.length = n + 1)
    (hbody : ∀ (X : Cx) (C : Fc) (W : WX), X.prog = P → X.w = w → X.K = K → X.mg = mg → X.base = base → X.N = N → X.env.scope = defScope st → X.calm = true → X.ex = [] → Room k X.A → (∀ x, X.fn x = true) → (∀ p ∈ C.pin, p.1 = 0) → Takes X W → PassesOwn (model X.prog X.w) X.A X.env X.xe → X.stack = X.env :: X.outer → X.env.frame = some X.env.locals → X.env.scope.kind = .function → VSs X G C W (defBody st) fb) :
    FnOk P w K mg base (L2.CX P w) (k + 1) f fd ps (spM G n (runM N.length fb)) := by
  refine F.okX S (fun vs H Q E h => (spM_len h).trans hps.symm) (fun cdv A outer s H vs Q E hr h => ?_)
  obtain ⟨d0, ds, v0, us, ow0, ev, h1, h2, h3, h4, h5, h6⟩ := h
  subst ev
  refine ⟨_, hbody (cxOf (L2.CX P w) P w K mg base N qual (defScope st) f cdv A outer s H E) (fcM H ow0 v0) (fun cls d _ H => E cls d H) rfl rfl rfl rfl rfl rfl rfl rfl rfl hr (fun _ => rfl) (fun p hp => by
    have e : p = (0, v0) := by simpa [fcM] using hp
    rw [e]) (takes_of rfl rfl rfl rfl) (passes_of rfl) rfl rfl S.kind, ?_⟩
  refine ⟨startR N.length (d0 :: ds), [], ⟨_, startM_ok (N := N) h5 h2 h3 h4⟩, ?_⟩
  have fin : ∀ {d d0' : D} {v : V} {r : Rho} {T : List (D × V)} {s' : L2.St} {H' : Hp} {ow : Ow} {b : Bs}, StW G (fcM H ow0 v0) ow r T s' H' → r[0]? = some (some d0') → b ≠ .fo → b ≠ .sl 0 → Rep G ow H' d ⟨b, []⟩ v →
      (∀ v H' (ow1 : Ow) (b : Bs), (∀ a o, (∀ p, ow0 a ≠ some ⟨.sl 0, p⟩) → H a = some o → H' a = some o) → b ≠ .fo → b ≠ .sl 0 → Rep G ow1 H' d ⟨b, []⟩ v → Rep G ow1 H' d0' ⟨.sl 0, []⟩ v0 →
      (∀ a l, ow1 a = some l → l.b ≠ .fo → H a = none ∨ ∃ p, ow0 a = some ⟨.sl 0, p⟩) → (∀ a, ow0 a = some ⟨.fo, []⟩ → ow1 a = some ⟨.fo, []⟩) → (∀ a l, ow1 a = some l → OwnO (H' a)) → Q v H') → Q v H' :=
    fun {d d0' v r T s' H' ow b} S' h0 b1 b2 hr hq => by
      obtain ⟨v0', z1, z2⟩ := S'.sl 0 d0' h0
      have p0 := S'.pin (0, v0) (by simp [fcM])
      have p0 : s'[0]? = some (some v0) := p0
      rw [p0] at z1
      cases z1
      exact hq v H' ow b (fun a o n q => S'.old a o (fun ⟨p, z⟩ => n p z) q) b1 b2 hr z2 (fun a l q n => (S'.own a l q).elim (fun z => absurd z n) id) (fun a q => S'.fo a q) S'.mu
  unfold runM at h6
  cases e : fb (startR N.length (d0 :: ds)) with
  | nx r =>
    rw [e] at h6
    intro s' H' S'
    cases e2 : r[0]? with
    | none => simp only [e2] at h6
    | some o =>
      cases o with
      | none => simp only [e2] at h6
      | some d0' =>
        simp only [e2] at h6
        obtain ⟨ow, S'⟩ := S'
        exact fin (d := .non) (b := .tm 0) S' e2 (fun z => nomatch z) (fun z => nomatch z) rfl h6
  | rt x r =>
    rw [e] at h6
    intro s' v H' P'
    obtain ⟨⟨ow, S'⟩, l⟩ := P'
    cases x with
    | val d =>
      cases e2 : r[0]? with
      | none => simp only [e2] at h6
      | some o =>
        cases o with
        | none => simp only [e2] at h6
        | some d0' =>
          simp only [e2] at h6
          have z := opd_rep (x := .val d) (T := []) (T2 := []) (by simpa using S') l rfl
          exact fin (b := .tm 0) S' e2 (fun z => nomatch z) (fun z => nomatch z) z h6
    | loc i =>
      by_cases hi : i = 0
      · simp only [hi, if_true] at h6
      · simp only [hi, if_false] at h6
        cases e3 : opd r (.loc i) with
        | none => simp only [e3] at h6
        | some d =>
          cases e2 : r[0]? with
          | none => simp only [e3, e2] at h6
          | some o =>
            cases o with
            | none => simp only [e3, e2] at h6
            | some d0' =>
              simp only [e3, e2] at h6
              have z := opd_rep (x := .loc i) (T := []) (T2 := []) (by simpa using S') l e3
              exact fin (b := .sl i) S' e2 (fun z => nomatch z) (fun z => hi (by injection z)) z h6
  | exc c r => rw [e] at h6; exact h6.elim
  | bk r => rw [e] at h6; exact h6.elim
  | ct r => rw [e] at h6; exact h6.elim
  | bad => rw [e] at h6; exact h6.elim
end
/-- the call: the first argument a name's own thing, the others handed on -/
def callKM (n i : Nat) (F : D → List D → MO) (xs : List R) (r : Rho) : EO := match xs with
  | .loc j :: rest => if j = i ∧ rest.length = n then (match opd r (.loc i), valsR rest with
    | some d0, some ds => (match F d0 (frzs ds) with
      | .ok d d0' => .ok (.val d) (r.set i (some d0'))
      | .bad => .bad)
    | _, _ => .bad) else .bad
  | _ => .bad
def cCallM (n i : Nat) (F : D → List D → MO) (fs : Av) : Ev := fun r => (fs r).bd (callKM n i F)
section
variable {X : Cx} {G : GX} {C : Fc} {W : WX} {ow ow' : Ow} {r : Rho} {T T1 T2 : List (D × V)} {s : L2.St} {H H' : Hp} {fs : Av}
def lent (ow : Ow) (i : Nat) : Ow := fun a => match ow a with
  | some l => if l.b = .sl i then some ⟨.sl 0, l.p⟩ else some ⟨.fo, []⟩
  | none => none
def repaid (ow ow1 : Ow) (n i : Nat) : Ow := fun a => match ow1 a with
  | some l => if l.b = .fo then ow a else if l.b = .sl 0 then some ⟨.sl i, l.p⟩ else some ⟨.tm n, l.p⟩
  | none => none
theorem lent_none {i : Nat} {a : Addr} : lent ow i a = none ↔ ow a = none := by
  unfold lent
  cases ow a with
  | none => simp
  | some l => by_cases h : l.b = .sl i <;> simp [h]
theorem lent_sl {i : Nat} {a : Addr} {p : List Nat} : lent ow i a = some ⟨.sl 0, p⟩ ↔ ow a = some ⟨.sl i, p⟩ := by
  unfold lent
  cases ow a with
  | none => simp
  | some l =>
    obtain ⟨lb, lp⟩ := l
    by_cases h : lb = .sl i <;> simp [h]
theorem lent_fo {i : Nat} {a : Addr} {l : Loc} (h : ow a = some l) (n : l.b ≠ .sl i) : lent ow i a = some ⟨.fo, []⟩ := by
  unfold lent; rw [h]; simp [n]
theorem valsR_frz : ∀ {xs : List R} {ds : List D}, valsR xs = some ds → opds r xs = some ds ∧ settles r xs = r ∧ ds.length = xs.length
  | [], ds, e => by cases e; exact ⟨rfl, rfl, rfl⟩
  | .loc _ :: _, _, e => by cases e
  | .val d :: xs, ds, e => by
    unfold valsR at e
    cases e2 : valsR xs with
    | none => rw [e2] at e; cases e
    | some ds' =>
      rw [e2] at e
      cases e
      obtain ⟨h1, h2, h3⟩ := valsR_frz e2
      refine ⟨?_, h2, by simp [h3]⟩
      show (match some d, opds r xs with | some d, some ds => some (d :: ds) | _, _ => none) = _
      rw [h1]
theorem callM_go {n i : Nat} {F : D → List D → MO} {Q : VK} {xs : List R} {vs : List V} {E : XK} (S : StOk G C r (T ++ pushs xs vs) s H) (l : LocsOk s xs vs) (h : Goes G C W T s Q (callKM n i F xs r)) : spM G n F vs H Q E := by
  unfold callKM at h
  split at h
  · rename_i j rest
    split at h
    · rename_i hc
      obtain ⟨hj, hn⟩ := hc
      subst hj
      cases vs with
      | nil => exact l.elim
      | cons v0 us =>
        cases e1 : opd r (.loc j) with
        | none => simp only [e1] at h; exact h.elim
        | some d0 =>
          cases e2 : valsR rest with
          | none => simp only [e1, e2] at h; exact h.elim
          | some ds =>
            simp only [e1, e2] at h
            obtain ⟨ow, S⟩ := S
            obtain ⟨g1, g2, g3⟩ := valsR_frz (r := r) e2
            obtain ⟨ow2, S2, r1, r2, r3⟩ := StW.settles (T := T) (show StW G C ow r (T ++ pushs rest us) s H from S) l.2 g1
            rw [g2] at S2
            have q := opd_loc e1
            obtain ⟨v', z1, z2⟩ := S2.sl j d0 q
            have l0 : s[j]? = some (some v0) := l.1
            rw [l0] at z1
            cases z1
            refine ⟨d0, frzs ds, v0, us, lent ow2 j, rfl, by rw [frzs_length, g3, hn], frzs_frzs ds, ?_, ?_, ?_, ?_⟩
            · refine Rep.mono (l := ⟨.sl j, []⟩) d0 (fun _ _ z _ => z) (fun _ _ z _ => z) (fun a o _ n => lent_none.mpr n) (fun a o p _ n => ?_) z2
              exact lent_sl.mpr n
            · exact Reps.moveF _ (frzs_frzs ds) (fun a o z n => ⟨z, lent_none.mpr n⟩) (fun _ _ z _ => z) (r1 ⟨.fo, []⟩ 0)
            · intro a m q
              unfold lent at q
              cases y : ow2 a with
              | none => rw [y] at q; cases q
              | some m' =>
                rw [y] at q
                refine ⟨S2.mu a m' y, ?_⟩
                simp only at q
                split at q
                · cases q; exact .inl rfl
                · cases q; exact .inr rfl
            · cases e3 : F d0 (frzs ds) with
              | bad => simp only [e3] at h; exact h.elim
              | ok d d0' =>
                simp only [e3] at h
                intro v H' ow1 b k1 b1 b2 hr h0 k2 k3 k4
                refine h v H' ⟨⟨repaid ow2 ow1 T.length j, ?_⟩, trivial⟩
                -- what stood in the heap, in the caller's own words
                have kept : ∀ a o, H a = some o → (∀ p, ow2 a ≠ some ⟨.sl j, p⟩) → H' a = some o := fun a o q n => k1 a o (fun p z => n p (lent_sl.mp z)) q
                have exn : ∀ a o, H a = some o → ¬ OwnO (some o) → H' a = some o := fun a o q n => kept a _ q fun p z => by
                  have m := S2.mu a _ z
                  rw [q] at m
                  exact n m
                have none_ : ∀ a o, H a = some o → ow2 a = none → repaid ow2 ow1 T.length j a = none := fun a o q n => by
                  unfold repaid
                  cases y : ow1 a with
                  | none => rfl
                  | some m =>
                    by_cases hf : m.b = .fo
                    · simp only [hf, if_true]; exact n
                    · rcases k2 a m y hf with z | ⟨p, z⟩
                      · rw [z] at q; cases q
                      · rw [lent_sl.mp z] at n; cases n
                have same_ : ∀ a m, ow2 a = some m → m.b ≠ .sl j → repaid ow2 ow1 T.length j a = some m := fun a m q n => by
                  unfold repaid
                  rw [k3 a (lent_fo q n)]
                  simp [q]
                have hpush : StW G C (repaid ow2 ow1 T.length j) (r.set j (some d0')) T s H' := by
                  refine ⟨by simpa using S2.len, fun i' d' y => ?_, fun j' d' w y => ?_, fun a o n y => ?_, fun a m y => ?_, fun a y => ?_, fun a m y => ?_, S2.pin⟩
                  · by_cases hi : i' = j
                    · subst hi
                      rw [List.getElem?_set_self (List.getElem?_eq_some_iff.mp q).1] at y
                      cases y
                      refine ⟨v0, l0, Rep.mono (l := ⟨.sl 0, []⟩) d0' (fun _ _ z _ => z) (fun _ _ z _ => z) (fun a o _ n => by unfold repaid; rw [n]) (fun a o p _ n => ?_) h0⟩
                      have n' : ow1 a = some ⟨.sl 0, [] ++ p⟩ := n
                      unfold repaid
                      rw [n']
                      simp [Loc.app]
                    · rw [List.getElem?_set_ne (Ne.symm hi)] at y
                      obtain ⟨w, y1, y2⟩ := S2.sl i' d' y
                      refine ⟨w, y1, Rep.mono (l := ⟨.sl i', []⟩) d' (fun a o z u => kept a o z fun p z2 => ?_) (fun a o z n => exn a o z n) (fun a o z n => none_ a o z n) (fun a o p _ n => ?_) y2⟩
                      · rcases u with u | ⟨p', u⟩
                        · rw [u] at z2; cases z2
                        · rw [u] at z2
                          have z2 := Option.some.inj z2
                          unfold Loc.app at z2
                          injection z2 with z3 _
                          injection z3 with z3
                          exact hi z3
                      · exact same_ a _ n (fun z => by unfold Loc.app at z; injection z with z; exact hi z)
                  · have z := S2.tm j' d' w y
                    refine Rep.mono (l := ⟨.tm j', []⟩) d' (fun a o z u => kept a o z fun p z2 => ?_) (fun a o z n => exn a o z n) (fun a o z n => none_ a o z n) (fun a o p _ n => ?_) z
                    · rcases u with u | ⟨p', u⟩
                      · rw [u] at z2; cases z2
                      · rw [u] at z2
                        have z2 := Option.some.inj z2
                        unfold Loc.app at z2
                        injection z2 with z3 _
                        cases z3
                    · exact same_ a _ n (fun z => nomatch z)
                  · refine kept a o (S2.old a o n y) fun p z => ?_
                    rcases S2.own a _ z with z2 | z2 | z2
                    · cases z2
                    · rw [z2] at y; cases y
                    · exact n z2
                  · unfold repaid at y
                    cases y1 : ow1 a with
                    | none => rw [y1] at y; cases y
                    | some m' =>
                      rw [y1] at y
                      by_cases hf : m'.b = .fo
                      · simp only [hf, if_true] at y
                        exact S2.own a m y
                      · refine .inr ?_
                        rcases k2 a m' y1 hf with z | ⟨p, z⟩
                        · cases e : C.H0 a with
                          | none => exact .inl rfl
                          | some u =>
                            by_cases hi : C.io a
                            · exact .inr hi
                            · rw [S2.old a u hi e] at z; cases z
                        · rcases S2.own a _ (lent_sl.mp z) with z2 | z2
                          · cases z2
                          · exact z2
                  · exact same_ a _ (S2.fo a y) (fun z => nomatch z)
                  · unfold repaid at y
                    cases y1 : ow1 a with
                    | none => rw [y1] at y; cases y
                    | some m' => exact k4 a m' y1
                refine hpush.push (Rep.mono (l := ⟨b, []⟩) d (fun _ _ z _ => z) (fun _ _ z _ => z) (fun a o _ n => by unfold repaid; rw [n]) (fun a o p _ n => ?_) hr)
                have n' : ow1 a = some ⟨b, [] ++ p⟩ := n
                unfold repaid
                rw [n']
                simp [Loc.app, b1, b2]
    · exact h.elim
  · exact h.elim
theorem ve_callM {n i k : Nat} {F : D → List D → MO} {f : Addr} {fd : FuncData} {ps : List Str} {x : Str} {p pos : Pos} {e : Expr} {es : List Expr} (tk : Takes X W) (Fk : FnOk X.prog X.w X.K X.mg X.base (L2.CX X.prog X.w) k f fd ps (spM G n F)) (hr : Room k X.A) (hg : Gl X x) (hm : X.mg x = some (.ref f))
    (hk : PySem.W.keepIn X.K (.ref f) = true) (hb : Binds X.K fd ps []) (ha : VA X G C W (e :: es) fs) (hdb : (x == ("__debug__" : Str)) = false := by decide) (he : starEach (e :: es) X.env = (false, eval e X.env) :: starEach es X.env := by rfl) (hpl : (backTo pos (starEach es X.env)).any (·.1) = false := by rfl) :
    VE X G C W (.Call (.Name x p) (e :: es) [] pos) (cCallM n i F fs) := by
  refine PE.imp (pe_callS Fk hr hg hm hk hb (fun σ => passAt tk σ) ha hdb he hpl) fun s H Q h => ?_
  obtain ⟨r, T, S, g⟩ := h
  exact many (T2 := []) (by simpa using S) g fun xs vs r1 H1 S1 l1 g1 => callM_go (by simpa using S1) l1 g1
end
end VL

namespace VL
open PySem PySem.Spec PyProof.Rows L2
/-! ### a caught exception is kept as a value -/
section
variable {X : Cx} {pins : List (Addr × Obj)} {q : L2.St} {H : Hp} {s sI s' : Shared} {B h4 : Heap} {a : Addr}
theorem trackExc {cls : Value} {oe : Obj} {vs : Array Value} (J : Inv X pins q H sI) (grd : ∀ b o, sI.heap.get? b = some o → b ∉ frs X.stack → B.get? b = some o) (fresh : B.get? a = none) (noex : X.ex = []) (off : a ∉ frs (X.env :: X.outer))
    (J4 : Inv X pins q H { s' with heap := h4 }) (at4 : h4.get? a = some oe) (cl4 : Zc cls none oe) (dt4 : oe.data = .fields vs) (free : H a = none) : Inv X pins q (upd H a (ExT cls a)) { s' with heap := h4 } := by
  have out : a ∉ frs X.stack := by
    intro hm
    rcases J.ok.stk with e | ⟨e, _⟩
    · refine off ?_
      rw [e] at hm
      obtain ⟨x, p1, p2⟩ := List.mem_filterMap.mp hm
      exact List.mem_filterMap.mpr ⟨x, List.mem_cons_of_mem _ p1, p2⟩
    · exact off (e ▸ hm)
  have absent : sI.heap.get? a = none := by
    cases e : sI.heap.get? a with
    | none => rfl
    | some o => exact nomatch fresh.symm.trans (grd a o e out)
  have other : ∀ {b : Addr} {o : Obj}, sI.heap.get? b = some o → b ≠ a := by
    intro b o e z
    rw [z, absent] at e
    exact nomatch e
  have trk : ∀ {b : Addr} {o : HO}, H b = some o → upd H a (ExT cls a) b = some o := by
    intro b o e
    rw [upd_ne (ne_of_none e free)]
    exact e
  have unt : ∀ {b : Addr}, b ≠ a → H b = none → upd H a (ExT cls a) b = none := by
    intro b n e
    rw [upd_ne n]
    exact e
  have base' : Un X.fs X.ex X.H_0 (upd H a (ExT cls a)) X.s_0.heap h4 :=
    { keep := J4.base.keep, slot := J4.base.slot, there := J4.base.there
      free := fun b o e n hx => by
        obtain ⟨o2, e2⟩ := J.base.there b o e hx
        exact unt (other e2) (J4.base.free b o e n hx)
      tups := fun b xs e => trk (J4.base.tups b xs e)
      frzs := fun b o u e => trk (J4.base.frzs b o u e)
      tbls := fun b ps e => let ⟨m, e2⟩ := J4.base.tbls b ps e; ⟨m, trk e2⟩ }
  have own : ObjOk X.prog X.w (upd H a (ExT cls a)) h4 a (ExT cls a) := ⟨⟨oe, vs, at4, cl4, dt4⟩, ⟨oe, at4⟩, fun _ _ ⟨o, w, p1, p2⟩ k => ⟨o, w, k o p1, p2⟩⟩
  have hok' : HOk X.prog X.w (upd H a (ExT cls a)) h4 := fun b u e => by
    rcases Decidable.em (b = a) with rfl | n
    · rw [upd_same] at e
      exact Option.some.inj e ▸ own
    · rw [upd_ne n] at e
      exact ObjOk.stay (J4.hok b u e) (fun _ _ _ k => k) (fun _ k => trk k) (fun _ _ k => trk k)
  have fr' : upd H a (ExT cls a) X.env.locals = none := by
    obtain ⟨_, ⟨o, _, _, e, _⟩, _⟩ := J.loc
    exact unt (other e) J4.free
  exact { ok := J4.ok, os := J4.os, bare := J4.bare, base := base', loc := J4.loc, cell := J4.cell, free := fr', hok := hok', len := J4.len
          freeC := fun x c e => by
            obtain ⟨_, o, e2, _⟩ := J.cell x c e
            exact unt (other e2) (J4.freeC x c e)
          pin := fun p hp => by
            have z := J4.pin p hp
            exact ⟨z.1, unt (other (J.pin p hp).1) z.2.1, z.2.2⟩ }
theorem inSuite (I : Inv X pins q H s) : Inv (X.suite a (X.pn ++ pins)) [] q H s where
  ok := I.ok.suite a _
  os := I.os
  bare := I.bare
  base := I.base
  loc := I.loc
  cell := I.cell
  free := I.free
  freeC := I.freeC
  pin := fun p hp => I.pin p (by simpa using hp)
  hok := I.hok
  len := I.len
theorem outSuite {pn' : List (Addr × Obj)} (I : Inv (X.suite a (X.pn ++ pins)) pn' q H s) (ok : X.Ok) : Inv X pins q H s where
  ok := ok
  os := I.os
  bare := I.bare
  base := I.base
  loc := I.loc
  cell := I.cell
  free := I.free
  freeC := I.freeC
  pin := fun p hp => I.pin p (List.mem_append_left _ hp)
  hok := I.hok
  len := I.len
end
/-- the wish of a try: what the clause of the class c does (i: the slot of its name, where it has one) -/
def aft1 (i : Option Nat) (s : L2.St) : L2.St := match i with
  | some i => s.set i none
  | none => s
def bef1 (i : Option Nat) (a : Addr) (s : L2.St) : L2.St := match i with
  | some i => s.set i (some (.ref a))
  | none => s
def endsAt (i : Option Nat) (D : Ends) : Ends := ⟨fun s H => D.nx (aft1 i s) H, D.rt, fun s H => D.bk (aft1 i s) H, fun s H => D.ct (aft1 i s) H⟩
def wTry (K : PySem.W.Frag) (c : Value) (i : Option Nat) (ts : TS) (Wout : WX) (D : Ends) : WX := fun cls d s H =>
  ∃ b, PySem.W.exmOne K cls c = some b ∧ if b = true then d = none ∧ ∀ a, H a = none → ts (endsAt i D) (bef1 i a s) (upd H a (ExT cls a)) else Wout cls d s H
section
variable {X : Cx} {pins : List (Addr × Obj)} {Wout : WX} {D : Ends}
/-- no clause takes it: it goes on -/
theorem goesOn {a : Addr} {B h3 : Heap} {sI s' : Shared} {pn : List (Addr × Obj)} {q : L2.St} {H : Hp} {cls : Value} {d : Option Addr} (tk : Takes X Wout) (hs : X.stack = X.env :: X.outer) (hf : X.env.frame = some X.env.locals) (J : Inv X pins q H sI)
    (grd : ∀ b o, sI.heap.get? b = some o → b ∉ frs X.stack → B.get? b = some o) (fl : HandSPX.FlyingZ B (X.env :: X.outer) a (Zc cls d) h3) (up : sI.heap.UpToSlots h3) (free : H a = none) (os : s'.os = sI.os) (ag : AllBare s'.gens) (w : Wout cls d q H) :
    wpAny (model X.prog X.w) X.A (handleBy (.ref a) X.env []) (SP X pn D) X.xe { s' with heap := h3 } := by
  obtain ⟨_, _, _, oe, vs, t0, t1, t2, at3, z3, dt3, f1, _⟩ := id fl
  have last : wpAny (model X.prog X.w) X.A (setFlight (.ref a) X.env.frame) (fun _ s4 => wpAny (model X.prog X.w) X.A (throw (.ref a) : Sem Flow) (SP X pn D) X.xe s4) X.xe { s' with heap := h3 } := by
    rw [hf]
    apply HandSPX.setFlight_upZ fl
    intro h5 held5 up5
    apply wpAny_throw
    apply tk
    exact ⟨a, B, sI, pins, q, H, cls, d, rfl, J, grd, up.trans up5, .inr (.inr (hs ▸ held5)), free, os, ag, w⟩
  apply wpAny_handleBy_nil
  show wpAny _ _ (PySem.passOn _ _ _) _ _ _
  unfold PySem.passOn
  apply wpAny_bind
  apply wpAny_field at3 dt3 f1
  rw [if_neg (show ¬ (Value.ref t0 == Value.none) = true from by simp)]
  first
    | exact wpAny_bind last
    | exact wpAny_bind (wpAny_pure (wpAny_bind last))
/-- what a clause's suite leaves -/
theorem suiteEnd {a : Addr} {i : Option Nat} {f : Flow} {s6 : Shared} (ok : X.Ok) {Qf : Flow → Shared → Prop} (fin : ∀ {q6 : L2.St} {H6 : Hp} {f : Flow}, Inv X pins q6 H6 s6 → (∀ s7, Inv X pins (aft1 i q6) H6 s7 → SP X pins D f s7) → Qf f s6)
    (h : SP (X.suite a (X.pn ++ pins)) [] (endsAt i D) f s6) : Qf f s6 := by
  cases f with
  | next => obtain ⟨q6, H6, S6, w6⟩ := h; exact fin (outSuite S6 ok) fun s7 J7 => ⟨_, _, J7, w6⟩
  | brk => obtain ⟨q6, H6, S6, w6⟩ := h; exact fin (outSuite S6 ok) fun s7 J7 => ⟨_, _, J7, w6⟩
  | cont => obtain ⟨q6, H6, S6, w6⟩ := h; exact fin (outSuite S6 ok) fun s7 J7 => ⟨_, _, J7, w6⟩
  | ret u => obtain ⟨v6, q6, H6, S6, r6, w6⟩ := h; exact fin (outSuite S6 ok) fun s7 J7 => ⟨_, _, _, J7, r6, w6⟩
theorem tryTrk {x : Str} {c : Value} {i : Option Nat} {nm : Option Str} {body suite : List Stmt} {b0 : Stmt} {np pos pos' : Pos} {tb : WX → TS} {ts : TS} (noex : X.ex = []) (hs : X.stack = X.env :: X.outer) (hf : X.env.frame = some X.env.locals) (hN : X.N.Nodup)
    (hn : (i = none ∧ nm = none) ∨ ∃ j n, i = some j ∧ nm = some n ∧ X.N[j]? = some n ∧ X.env.kindOf n = some .local) (hc : Names X x c) (tk : Takes X Wout)
    (hb : ∀ (W : WX) (pn : List (Addr × Obj)) (xe : Value → Shared → Prop), Takes (X.tr pn xe) W → PassesOwn (model X.prog X.w) X.A X.env xe → PSs (X.tr pn xe) body (tb W))
    (hsu : ∀ (a : Addr) (pn : List (Addr × Obj)), PSs (X.suite a pn) (b0 :: suite) ts) :
    PS X (.Try body [.ExceptHandler (some (.Name x np)) nm (b0 :: suite) pos'] [] [] pos) (fun D q H => tb (wTry X.K c i ts Wout D) D q H) := by
  constructor
  intro pins s q H D I h
  have ok := I.ok
  apply wpAny_Try_except
  have run := (hb (wTry X.K c i ts Wout D) (X.pn ++ pins) (fun e s₁ => wpAny (model X.prog X.w) X.A (noteFrame e X.env) (fun _ s₂ => wpAny (model X.prog X.w) X.A (setFlight e none) (fun _ s₃ =>
    wpAny (model X.prog X.w) X.A (handleBy e X.env [.ExceptHandler (some (.Name x np)) nm (b0 :: suite) pos']) (SP X pins D) X.xe s₃) X.xe s₂) X.xe s₁) ?tk PassesOwn.looking).run [] s q H D (I.toTry _) h
  case tk =>
    rintro u s2 ⟨a, B, sI, pins2, q2, H2, cls, d, rfl, J2, grd, up, sky, free, os, ag, b, eb, w⟩
    have J : Inv X pins q2 H2 sI := J2.ofTry ok
    have fr : X.A.frames = some (X.env :: X.outer) := hs ▸ ok.frames
    show wpAny (model X.prog X.w) X.A (noteFrame (.ref a) X.env) _ _ _
    refine Sky.land Zc.steady fr hf (show Sky B (X.env :: X.outer) a (Zc cls d) X.env.locals s2.heap from hs ▸ sky) fun h3 fl3 up3 => ?_
    obtain ⟨oe3, vs3, at3, z3, dt3⟩ := fl3.there
    have off : a ∉ frs (X.env :: X.outer) := fun hm => by
      obtain ⟨_, o, e, nd⟩ := fl3.2.2.1.mem hm
      exact nd vs3 (Option.some.inj (at3.symm.trans e) ▸ dt3)
    have J3 : Inv X pins q2 H2 { s2 with heap := h3 } := J.landed grd fl3.1 (up.trans up3) os ag
    have S3 : Inv (X.suite a (X.pn ++ pins)) [] q2 H2 { s2 with heap := h3 } := inSuite J3
    have kind : PySem.W.Looks (model X.prog X.w) h3 (excMatches (.ref a) c) b := PySem.W.exm_one J3.kIn (fun A Q E s k q => wpAny_typeOf_ref (k _ _ at3) (z3.1.symm ▸ q)) eb
    refine wpAny_handleBy_cons (codeAny_handlers_test ?_) (fun z => nomatch z)
    have named : ∀ {Q : Value → Shared → Prop} {E : Value → Shared → Prop}, Q c { s2 with heap := h3 } → wpAny (model X.prog X.w) (X.A.mark (some (.ref a))) (eval (.Name x np) X.env) Q E { s2 with heap := h3 } := fun {Q E} k => by
      obtain ⟨g1, g2, g3 | ⟨g3, g4, g5⟩⟩ := hc
      · exact ld_glob (X := X.suite a (X.pn ++ pins)) S3 g1 g3 k g2
      · exact ld_blt (X := X.suite a (X.pn ++ pins)) S3 g1 g3 g4 k g5 g2
    refine named (kind.here ?_)
    cases b with
    | false => exact goesOn tk hs hf J grd fl3 (up.trans up3) free os ag w
    | true =>
      obtain ⟨rfl, w⟩ := w
      have tr : ∀ h4, HandSPX.FlyingZ B (X.env :: X.outer) a (Zc cls none) h4 → h3.UpToSlots h4 → Inv (X.suite a (X.pn ++ pins)) [] q2 (upd H2 a (ExT cls a)) { s2 with heap := h4 } := fun h4 fl4 up4 => by
        obtain ⟨oe4, vs4, at4, z4, dt4⟩ := fl4.there
        exact inSuite (trackExc J grd fl3.2.1 noex off (J.landed grd fl4.1 ((up.trans up3).trans up4) os ag) at4 z4 dt4 free)
      rcases hn with ⟨rfl, rfl⟩ | ⟨j, n, rfl, rfl, hj, hl⟩
      · apply codeAny_handlers_suite
        refine HandSPX.lands_againZ fl3 fun h4 fl4 up4 => ?_
        refine wpAny_mono ((hsu a (X.pn ++ pins)).run [] _ _ _ (endsAt none D) (tr h4 fl4 up4) (w a free)) (fun f s6 k6 => ?_) (fun _ _ z => z.elim)
        exact suiteEnd (i := none) (Qf := fun f s6 => SP X pins D f s6) ok (fun J6 k => k _ J6) k6
      · apply codeAny_handlers_suite_as
        refine HandSPX.lands_againZ fl3 fun h4 fl4 up4 => ?_
        refine store_ok (X := X.suite a (X.pn ++ pins)) (v := .ref a) (tr h4 fl4 up4) hN hj (.inl hl) rfl (fun s5 S5 => ?_) (.inr hl)
        refine wpAny_mono ((hsu a (X.pn ++ pins)).run [] s5 _ _ (endsAt (some j) D) S5 (w a free)) (fun f s6 k6 => ?_) (fun _ _ z => z.elim)
        exact suiteEnd (i := some j) (Qf := fun f s6 => wpAny (model X.prog X.w) X.A (do bindName X.env n .none; unbindBehindTheSuite X.env n pos') (fun _ s7 => SP X pins D f s7) X.xe s6) ok (fun J6 k => gone_ok J6 hN hj hl k) k6
  refine wpAny_mono run (fun f s1 k => ?_) (fun e s1 k => k)
  cases f with
  | next => obtain ⟨q1, H1, J1, w⟩ := k; exact wpAny_execs_nil ⟨q1, H1, J1.ofTry ok, w⟩
  | brk => obtain ⟨q1, H1, J1, w⟩ := k; exact ⟨q1, H1, J1.ofTry ok, w⟩
  | cont => obtain ⟨q1, H1, J1, w⟩ := k; exact ⟨q1, H1, J1.ofTry ok, w⟩
  | ret u => obtain ⟨v, q1, H1, J1, rr, w⟩ := k; exact ⟨v, q1, H1, J1.ofTry ok, rr, w⟩
end
end VL

namespace VL
open PySem PySem.Spec PyProof.Rows L2
/-! ### try -/
def putE (i : Option Nat) (c : Nat) (r : Rho) : Rho := match i with
  | some j => r.set j (some (.exc c))
  | none => r
def remE (i : Option Nat) (r : Rho) : Rho := match i with
  | some j => r.set j none
  | none => r
def inClause (i : Option Nat) (o : SO) : SO := match o with
  | .nx r => .nx (remE i r)
  | .bk r => .bk (remE i r)
  | .ct r => .ct (remE i r)
  | .rt x r => .rt x r
  | _ => .bad
def cTry (tb : Nat → Option Bool) (i : Option Nat) (fb fs : Sv) : Sv := fun r => match fb r with
  | .exc c r1 => (match tb c with
    | some true => inClause i (fs (putE i c r1))
    | some false => .exc c r1
    | none => .bad)
  | o => o
section
variable {X : Cx} {G : GX} {C : Fc} {W : WX} {ow ow' : Ow} {r : Rho} {T T1 T2 : List (D × V)} {s : L2.St} {H H' : Hp}
theorem vs_try {x : Str} {cv : Value} {i : Option Nat} {nm : Option Str} {body suite : List Stmt} {b0 : Stmt} {np pos pos' : Pos} {tb : Nat → Option Bool} {fb fs : Sv} (noex : X.ex = []) (hs : X.stack = X.env :: X.outer) (hf : X.env.frame = some X.env.locals) (hN : X.N.Nodup)
    (hn : (i = none ∧ nm = none) ∨ ∃ j n, i = some j ∧ nm = some n ∧ X.N[j]? = some n ∧ X.env.kindOf n = some .local) (hp : ∀ j, i = some j → ∀ p ∈ C.pin, p.1 ≠ j) (hc : Names X x cv) (tk : Takes X W) (hE : ∀ c b, tb c = some b → PySem.W.exmOne X.K (.ref (G c)) cv = some b)
    (hb : ∀ (W' : WX) (pn : List (Addr × Obj)) (xe : Value → Shared → Prop), Takes (X.tr pn xe) W' → PassesOwn (model X.prog X.w) X.A X.env xe → VSs (X.tr pn xe) G C W' body fb)
    (hsu : ∀ (a : Addr) (pn : List (Addr × Obj)), VSs (X.suite a pn) G C W0 (b0 :: suite) fs) :
    VS X G C W (.Try body [.ExceptHandler (some (.Name x np)) nm (b0 :: suite) pos'] [] [] pos) (cTry tb i fb fs) := by
  refine PS.imp (tryTrk (Wout := W) (tb := fun W' => tVS G C W' fb) (ts := tVS G C W0 fs) noex hs hf hN hn hc tk hb hsu) fun D s H h => ?_
  obtain ⟨r, T, S, g⟩ := h
  refine ⟨r, T, S, ?_⟩
  unfold cTry at g
  cases e : fb r with
  | nx r1 => rw [e] at g; exact g
  | rt x r1 => rw [e] at g; exact g
  | bk r1 => rw [e] at g; exact g
  | ct r1 => rw [e] at g; exact g
  | bad => rw [e] at g; exact g
  | exc c r1 =>
    simp only [e] at g
    intro s' H' S'
    cases e1 : tb c with
    | none => simp only [e1] at g; exact g.elim
    | some b =>
      refine ⟨b, hE c b e1, ?_⟩
      simp only [e1] at g
      cases b with
      | false => rw [if_neg Bool.false_ne_true]; exact g s' H' S'
      | true =>
        rw [if_pos rfl]
        refine ⟨rfl, fun a ha => ?_⟩
        have S1 : StOk G C r1 T s' (upd H' a (ExT (.ref (G c)) a)) := S'.ext (Ext.new ha)
        have S2 : StOk G C (putE i c r1) T (bef1 i a s') (upd H' a (ExT (.ref (G c)) a)) := by
          cases i with
          | none => exact S1
          | some j => exact StOk.set (d := .exc c) (v := .ref a) (S1.pushA rfl fun ow l => ⟨a, rfl, upd_same⟩) (hp j rfl)
        refine ⟨_, T, S2, ?_⟩
        have rem : ∀ {r2 : Rho} {s2 : L2.St} {H2 : Hp}, StOk G C r2 T s2 H2 → StOk G C (remE i r2) T (aft1 i s2) H2 := fun {r2 s2 H2} S3 => by
          cases i with
          | none => exact S3
          | some j => exact S3.wipe1 (hp j rfl)
        simp only at g
        cases e2 : fs (putE i c r1) with
        | nx r2 => rw [e2] at g; exact fun s2 H2 S3 => g _ _ (rem S3)
        | bk r2 => rw [e2] at g; exact fun s2 H2 S3 => g _ _ (rem S3)
        | ct r2 => rw [e2] at g; exact fun s2 H2 S3 => g _ _ (rem S3)
        | rt x r2 => rw [e2] at g; exact g
        | exc c' r2 => rw [e2] at g; exact g.elim
        | bad => rw [e2] at g; exact g.elim

/-! ### isinstance -/
def tyN : D → Option String
  | .non => some "NoneType"
  | .bl _ => some "bool"
  | .int _ => some "int"
  | .str _ => some "str"
  | .node .lst _ _ => some "list"
  | .node .tup _ _ => some "tuple"
  | .node (.dK _) _ _ => some "dict"
  | .node (.dT _) _ _ => some "dict"
  | _ => none
def tyNames : List String := ["NoneType", "bool", "int", "str", "list", "tuple", "dict"]
def isB (a b : String) : Option Bool := if tyNames.contains a && tyNames.contains b then some (a == b || (a == "bool" && b == "int")) else none
theorem kitB_all : (tyNames.all fun a => tyNames.all fun b => decide (kitB a b = some (a == b || (a == "bool" && b == "int")))) = true := by decide +kernel
theorem isB_ok {K : PySem.W.Frag} {a b : String} {r : Bool} (h : isB a b = some r) : PySem.W.kitOne K (.type a) (.type b) = some r := by
  unfold isB at h
  split at h
  · rename_i c
    rw [Bool.and_eq_true] at c
    cases h
    have z := kitB_all
    rw [List.all_eq_true] at z
    have z2 := z a (by simpa using c.1)
    rw [List.all_eq_true] at z2
    exact kit_ty (of_decide_eq_true (z2 b (by simpa using c.2)))
  · cases h
/-- a class as a value of the text's -/
def clsU (G : GX) : D → Option Value
  | .ty n => some (.type n)
  | .cls c => some (.ref (G c))
  | _ => none
abbrev ETab := Nat → D → Option Bool
def isiB (a : Option String) (c : D) : Option Bool := match a, c with
  | some a, .ty n => isB a n
  | _, _ => none
def isi1 (E : ETab) (d c : D) : Option Bool := match d with
  | .exc k => E k c
  | d => isiB (tyN d) c
def isiAny (E : ETab) (d : D) : List D → Option Bool
  | [] => some false
  | c :: cs => match isi1 E d c with
    | some true => some true
    | some false => isiAny E d cs
    | none => none
def isiD (E : ETab) (d c : D) : Option D := match c with
  | .node .tup _ cs => (isiAny E d cs).map .bl
  | c => (isi1 E d c).map .bl
def ETabOk (K : PySem.W.Frag) (G : GX) (E : ETab) : Prop := ∀ k c b, E k c = some b → ExcC K (G k) ∧ ∃ u, clsU G c = some u ∧ PySem.W.kitOne K (.ref (G k)) u = some b
def rIx (K : PySem.W.Frag) : List V → Hp → VK → Prop := fun xs H Q => ∃ (a A : Addr) (c : V) (u : Value) (b : Bool), xs = [.ref a, c] ∧ H a = some (ExT (.ref A) a) ∧ ExcC K A ∧ ClsV c u ∧ PySem.W.kitOne K (.ref A) u = some b ∧ Q (.bl b) H
def rIxT (K : PySem.W.Frag) : List V → Hp → VK → Prop := fun xs H Q => ∃ (a A tp : Addr) (cs : List V) (us : List Value) (b : Bool), xs = [.ref a, .ref tp] ∧ H a = some (ExT (.ref A) a) ∧ ExcC K A ∧ H tp = some (.tup cs) ∧ Paired ClsV cs us ∧ PySem.W.kitAny K (.ref A) us = some b ∧ Q (.bl b) H
theorem exc_kit {K : PySem.W.Frag} {a A : Addr} (E : ExcC K A) {pins : List (Addr × Obj)} {σ : L2.St} {H : Hp} {s : Shared} (I : Inv X pins σ H s) (h : H a = some (ExT (.ref A) a)) : ∃ oe, PySem.W.InstAt s.heap a oe A none ∧ PySem.W.KitX K (.ref a) (.ref A) (fun h => PySem.W.InstAt h a oe A none) := by
  obtain ⟨⟨oe, vs, e, z, d⟩, _⟩ := I.hok a _ h
  refine ⟨oe, ?_, PySem.W.handS_kitx_exc E.hg E.hk E.hs E.hd E.ha E.hn E.ht E.hm⟩
  obtain ⟨oc, od, oda, osl⟩ := oe
  obtain ⟨z1, z2⟩ := z
  dsimp only at z1 z2 d
  subst z1 z2 d
  exact ⟨e, rfl, rfl, trivial⟩
theorem call_ix : CallR X (.builtin "isinstance") (rIx X.K) := by
  intro pins s σ H xs us Q I r h
  obtain ⟨a, A, c, u, b, rfl, ha, E, k, e, q⟩ := h
  obtain ⟨u1, u2, rfl, r1, r2⟩ := vals2 r
  cases (show u1 = Value.ref a from r1)
  have e2 := k.eq r2
  subst e2
  obtain ⟨oe, J, Z⟩ := exc_kit E I ha
  exact PySem.W.kia_one Z I.kIn J e (fun z => nomatch z) fun tk => ⟨.bl b, H, I.tok tk, rfl, q⟩
theorem call_ixT : CallR X (.builtin "isinstance") (rIxT X.K) := by
  intro pins s σ H xs us Q I r h
  obtain ⟨a, A, tp, cs, ws, b, rfl, ha, E, hT, k, e, q⟩ := h
  obtain ⟨u1, u2, rfl, r1, r2⟩ := vals2 r
  cases (show u1 = Value.ref a from r1)
  cases (show u2 = Value.ref tp from r2)
  obtain ⟨oe, J, Z⟩ := exc_kit E I ha
  obtain ⟨_, its, rv, o, h1, h2, n, h3⟩ := I.hok tp _ hT
  have e3 := ClsV.all k rv
  subst e3
  obtain ⟨oc, od, dt, sl⟩ := o
  dsimp only at h2 h3
  subst h2 h3
  exact PySem.W.kia_tup Z I.kIn J h1 e (fun z => nomatch z) fun tk => ⟨.bl b, H, I.tok tk, rfl, q⟩
theorem tyN_ok {K : PySem.W.Frag} {d : D} {l : Loc} {v : V} {a : String} (h : Rep G ow H d l v) (e : tyN d = some a) : TyX K H v (.type a) := by
  cases d with
  | non => cases e; have z := rep_non h; subst z; exact .base .non
  | bl b => cases e; have z := rep_bl h; subst z; exact .base (.bl b)
  | int b => cases e; have z := rep_int h; subst z; exact .base (.int b)
  | str b => cases e; have z := rep_str h; subst z; exact .base (.str b)
  | node k o xs =>
    obtain ⟨p, vs, ev, h1, h2, h3⟩ := h
    subst ev
    cases k with
    | lst => cases e; exact .base (.lst h1)
    | rd => cases e
    | tup => cases e; exact .base (.tup h1)
    | dK ks => cases e; exact .base (.dK h1.1)
    | dT ks => cases e; exact .base (.dT h1.1)
    | ins c fs => cases e
  | _ => cases e
theorem clsU_ok {d : D} {l : Loc} {v : V} {u : Value} (h : Rep G ow H d l v) (e : clsU G d = some u) : ClsV v u := by
  cases d with
  | ty n => cases e; have z : v = .ty n := h; subst z; exact .ty n
  | cls c => cases e; have z : v = .ref (G c) := h; subst z; exact .own _
  | _ => cases e
/-- one class: its value, the answer -/
theorem isi1_ok {K : PySem.W.Frag} {E : ETab} (hE : ETabOk K G E) {d c : D} {b : Bool} (e : isi1 E d c = some b) : (∃ k u, d = .exc k ∧ ExcC K (G k) ∧ clsU G c = some u ∧ PySem.W.kitOne K (.ref (G k)) u = some b) ∨ ∃ a u, tyN d = some a ∧ clsU G c = some u ∧ PySem.W.kitOne K (.type a) u = some b := by
  have go : ∀ a, tyN d = some a → isiB (some a) c = some b → ∃ a u, tyN d = some a ∧ clsU G c = some u ∧ PySem.W.kitOne K (.type a) u = some b := fun a ha z => by
    cases c with
    | ty n => exact ⟨a, _, ha, rfl, isB_ok z⟩
    | _ => cases z
  cases d with
  | exc k =>
    obtain ⟨h1, u, h2, h3⟩ := hE k c b e
    exact .inl ⟨k, u, rfl, h1, h2, h3⟩
  | non => exact .inr (go _ rfl e)
  | bl _ => exact .inr (go _ rfl e)
  | int _ => exact .inr (go _ rfl e)
  | str _ => exact .inr (go _ rfl e)
  | node k o xs =>
    cases k with
    | ins c fs => cases e
    | rd => cases e
    | _ => exact .inr (go _ rfl e)
  | _ => cases e
theorem kitAny_of {K : PySem.W.Frag} {t : Value} {E : ETab} {d : D} (hd : ∀ c b, isi1 E d c = some b → ∃ u, clsU G c = some u ∧ PySem.W.kitOne K t u = some b) : ∀ {cs : List D} {b : Bool} {l : Loc} {i : Nat} {vs : List V}, isiAny E d cs = some b → (∀ c ∈ cs, ∃ u, clsU G c = some u) → Reps G ow H cs l i vs → ∃ us, Paired ClsV vs us ∧ PySem.W.kitAny K t us = some b
  | [], b, _, _, vs, e, _, h => by
    have z : vs = [] := h
    subst z
    cases e
    exact ⟨[], .nil, rfl⟩
  | c :: cs, b, l, i, vs, e, hu, h => by
    obtain ⟨v, ws, ev, h1, h2⟩ := h
    subst ev
    unfold isiAny at e
    cases e1 : isi1 E d c with
    | none => rw [e1] at e; cases e
    | some b1 =>
      rw [e1] at e
      obtain ⟨u, g1, g2⟩ := hd c b1 e1
      cases b1 with
      | true =>
        cases e
        have rest : ∀ {cs : List D} {l : Loc} {i : Nat} {vs : List V}, (∀ c ∈ cs, ∃ u, clsU G c = some u) → Reps G ow H cs l i vs → ∃ us, Paired ClsV vs us := by
          intro cs
          induction cs with
          | nil => intro l i vs _ h; have z : vs = [] := h; subst z; exact ⟨[], .nil⟩
          | cons c cs ih =>
            intro l i vs hu h
            obtain ⟨v, ws, ev, h1, h2⟩ := h
            subst ev
            obtain ⟨u, hc⟩ := hu c List.mem_cons_self
            obtain ⟨us, p⟩ := ih (fun c hc => hu c (List.mem_cons_of_mem _ hc)) h2
            exact ⟨u :: us, .cons (clsU_ok h1 hc) p⟩
        obtain ⟨us, p⟩ := rest (fun c hc => hu c (List.mem_cons_of_mem _ hc)) h2
        refine ⟨u :: us, .cons (clsU_ok h1 g1) p, ?_⟩
        unfold PySem.W.kitAny
        rw [g2]
      | false =>
        obtain ⟨us, p, k⟩ := kitAny_of hd e (fun c hc => hu c (List.mem_cons_of_mem _ hc)) h2
        refine ⟨u :: us, .cons (clsU_ok h1 g1) p, ?_⟩
        unfold PySem.W.kitAny
        rw [g2]
        exact k
def isCls : D → Bool
  | .ty _ => true
  | .cls _ => true
  | _ => false
def gIsi (E : ETab) : List R → Rho → EO := fun xs r => match xs with
  | [x, .val (.node .tup _ cs)] => (match opd r x with
    | some d => if (cs.all isCls && !cs.isEmpty) = true then (match isiAny E d cs with
      | some b => .ok (.val (.bl b)) r
      | none => .bad) else .bad
    | none => .bad)
  | [x, .val c] => (match opd r x with
    | some d => (match isi1 E d c with
      | some b => .ok (.val (.bl b)) r
      | none => .bad)
    | none => .bad)
  | _ => .bad
theorem isCls_u {c : D} (h : isCls c = true) : ∃ u, clsU G c = some u := by
  cases c with
  | ty n => exact ⟨_, rfl⟩
  | cls n => exact ⟨_, rfl⟩
  | _ => cases h
def rIsiAll (K : PySem.W.Frag) : List V → Hp → VK → Prop := fun vs H Q => rIsi K vs H Q ∨ rIsiT K vs H Q ∨ rIx K vs H Q ∨ rIxT K vs H Q
theorem call_isiAll : CallR X (.builtin "isinstance") (rIsiAll X.K) := call_isi.or (call_isiT.or (call_ix.or call_ixT))
theorem isi_go {E : ETab} (hE : ETabOk X.K G E) {xs : List R} {vs : List V} {Q : VK} (S : StOk G C r (T ++ pushs xs vs) s H) (l : LocsOk s xs vs) (q : Goes G C W T s Q (gIsi E xs r)) : rIsiAll X.K vs H Q := by
  obtain ⟨ow, S⟩ := S
  unfold gIsi at q
  split at q
  · rename_i x o cs
    cases vs with
    | nil => exact l.elim
    | cons v vs =>
      cases vs with
      | nil => exact l.2.elim
      | cons u vs =>
        cases vs with
        | cons _ _ => exact l.2.2.elim
        | nil =>
          have S' : StW G C ow r (T ++ (pushR x v ++ [(.node .tup o cs, u)])) s H := by simpa [pushs, pushR] using S
          split at q
          · rename_i d e1
            split at q
            · rename_i hc
              split at q
              · rename_i b eb
                have hd := opd_rep S' l.1 e1
                have ht := StW.last (T := T ++ pushR x v) (by rw [List.append_assoc]; exact S')
                obtain ⟨tp, ws, eu, h1, h2, h3⟩ := ht
                subst eu
                rw [Bool.and_eq_true] at hc
                have hu : ∀ c ∈ cs, ∃ u, clsU G c = some u := fun c hcm => isCls_u (List.all_eq_true.mp hc.1 c hcm)
                obtain ⟨c0, cs', rfl⟩ : ∃ c0 cs', cs = c0 :: cs' := by
                  cases cs with
                  | nil => exact absurd hc.2 (by simp)
                  | cons c0 cs' => exact ⟨c0, cs', rfl⟩
                obtain ⟨b1, e2⟩ : ∃ b1, isi1 E d c0 = some b1 := by
                  unfold isiAny at eb
                  cases e2 : isi1 E d c0 with
                  | none => rw [e2] at eb; cases eb
                  | some b1 => exact ⟨b1, rfl⟩
                have fin : Q (.bl b) H := goes_val q ⟨ow, S.drop⟩ rfl fun _ _ => rfl
                by_cases hx : ∃ k, d = .exc k
                · obtain ⟨k, rfl⟩ := hx
                  obtain ⟨a, ev, ha⟩ := hd
                  subst ev
                  have hex : ExcC X.K (G k) := (hE k c0 b1 e2).1
                  obtain ⟨us, p, kk⟩ := kitAny_of (E := E) (d := .exc k) (t := .ref (G k)) (fun c b hb => (hE k c b hb).2) eb hu h3
                  exact .inr (.inr (.inr ⟨a, G k, tp, ws, us, b, rfl, ha, hex, h1, p, kk, fin⟩))
                · rcases isi1_ok hE e2 with ⟨k, _, e, _⟩ | ⟨a, _, ht, _⟩
                  · exact absurd ⟨k, e⟩ hx
                  · obtain ⟨us, p, kk⟩ := kitAny_of (K := X.K) (t := .type a) (fun c b hb => by
                      rcases isi1_ok hE hb with ⟨k, _, e, _⟩ | ⟨a', u, g1, g2, g3⟩
                      · exact absurd ⟨k, e⟩ hx
                      · rw [ht] at g1; cases g1; exact ⟨u, g2, g3⟩) eb hu h3
                    exact .inr (.inl ⟨v, tp, ws, _, us, b, rfl, h1, p, tyN_ok hd ht, kk, fin⟩)
              · exact q.elim
            · exact q.elim
          · exact q.elim
  · rename_i x c hnt
    cases vs with
    | nil => exact l.elim
    | cons v vs =>
      cases vs with
      | nil => exact l.2.elim
      | cons u vs =>
        cases vs with
        | cons _ _ => exact l.2.2.elim
        | nil =>
          have S' : StW G C ow r (T ++ (pushR x v ++ [(c, u)])) s H := by simpa [pushs, pushR] using S
          split at q
          · rename_i d e1
            split at q
            · rename_i b eb
              have hd := opd_rep S' l.1 e1
              have hc := StW.last (T := T ++ pushR x v) (by rw [List.append_assoc]; exact S')
              have fin : Q (.bl b) H := goes_val q ⟨ow, S.drop⟩ rfl fun _ _ => rfl
              rcases isi1_ok hE eb with ⟨k, w, rfl, hex, hu, kk⟩ | ⟨a, w, ht, hu, kk⟩
              · obtain ⟨p, ev, hp⟩ := hd
                subst ev
                exact .inr (.inr (.inl ⟨p, G k, u, w, b, rfl, hp, hex, clsU_ok hc hu, kk, fin⟩))
              · exact .inl ⟨v, u, _, w, b, rfl, clsU_ok hc hu, tyN_ok hd ht, kk, fin⟩
            · exact q.elim
          · exact q.elim
  · exact q.elim
theorem ve_isi {E : ETab} {fs : Av} {x : Str} {p pos : Pos} {e : Expr} {es : List Expr} (hE : ETabOk X.K G E) (hg : Gl X x) (hm : X.mg x = none) (hv : bootBuiltins x = some (.builtin "isinstance")) (ha : VA X G C W (e :: es) fs) (hn : x ≠ "__name__" := by decide) (hdb : (x == ("__debug__" : Str)) = false := by decide)
    (he : starEach (e :: es) X.env = (false, eval e X.env) :: starEach es X.env := by rfl) (hpl : (backTo pos (starEach es X.env)).any (·.1) = false := by rfl) : VE X G C W (.Call (.Name x p) (e :: es) [] pos) (cB (gIsi E) fs) := by
  refine PE.imp (pe_callB call_isiAll hg hm hv ha hn hdb he hpl) fun s H Q h => ?_
  obtain ⟨r, T, S, g⟩ := h
  exact many (T2 := []) (by simpa using S) g fun xs vs r1 H1 S1 l1 g1 => isi_go hE (by simpa using S1) l1 g1
/-- a class's name -/
theorem ve_gcls {c : Nat} {x : Str} {pos : Pos} (hg : Gl X x) (hm : X.mg x = some (.ref (G c))) (hd : (x == ("__debug__" : Str)) = false := by decide) : VE X G C W (.Name x pos) (cC (.cls c)) :=
  ve_c (pe_glob (v := .ref (G c)) hg hm rfl hd) rfl fun _ _ _ => rfl
theorem ve_gty {n : String} {x : Str} {pos : Pos} (hg : Gl X x) (hm : X.mg x = none) (hv : bootBuiltins x = some (.type n)) (hn : x ≠ "__name__" := by decide) (hd : (x == ("__debug__" : Str)) = false := by decide) : VE X G C W (.Name x pos) (cC (.ty n)) :=
  ve_c (pe_bltn (v := .ty n) hg hm hv rfl hn hd) rfl fun _ _ _ => rfl
end
end VL

namespace VL
open PySem PySem.Spec PyProof.Rows L2
section
variable {P : Program} {w : World} {K : PySem.W.Frag} {mg : Str → Option Value} {base : Heap} {G : GX}
/-- THE RULE for a def, the context given -/
theorem fnV2 {x qual : Str} {st : Stmt} {f : Addr} {fd : FuncData} {N ps : List Str} {k : Nat} {fb : Sv} (F : Fun K x qual st f fd) (S : FnScope N ps (defScope st))
    (hbody : ∀ (cdv : Value) (A : Around) (outer : List Env) (s : Shared) (H : Hp) (E : XK) (C : Fc), Room k (A.deeper (envOfC qual (defScope st) s.heap.objs.size f cdv)) → C.pin = [] → VSs (cxOf (L2.CX P w) P w K mg base N qual (defScope st) f cdv A outer s H E) G C (fun cls d _ H => E cls d H) (defBody st) fb) :
    FnOk P w K mg base (L2.CX P w) (k + 1) f fd ps (spV G ps.length (runF N.length fb)) := by
  refine F.okX S (fun vs H Q E h => spV_len h) (fun cdv A outer s H vs Q E hr h => ?_)
  obtain ⟨ds, ow0, h1, h2, h3, h4, h5⟩ := h
  refine ⟨_, hbody cdv A outer s H E (fcOf H ow0) hr rfl, ?_⟩
  refine ⟨startR N.length ds, [], ⟨_, start_ok (N := N) h3 h2 h4⟩, ?_⟩
  unfold runF at h5
  cases e : fb (startR N.length ds) with
  | nx r =>
    rw [e] at h5
    intro s' H' S'
    obtain ⟨ow, S'⟩ := S'
    exact h5 .non H' (ext_of S') (behind_of (b := .tm 0) (fun z => nomatch z) S' rfl)
  | rt x r =>
    simp only [e] at h5
    intro s' v H' P'
    cases e2 : opd r x with
    | none => rw [e2] at h5; exact h5.elim
    | some d =>
      rw [e2] at h5
      obtain ⟨⟨ow, S'⟩, l⟩ := P'
      have z := opd_rep (T := []) (T2 := []) (by simpa using S') l e2
      refine h5 v H' (ext_of S') ?_
      cases x with
      | val d' => exact behind_of (b := .tm 0) (fun z => nomatch z) S' z
      | loc i => exact behind_of (b := .sl i) (fun z => nomatch z) S' z
  | exc c r =>
    simp only [e] at h5
    intro s' H' S'
    obtain ⟨ow, S'⟩ := S'
    exact h5 H' (ext_of S')
  | bk r => rw [e] at h5; exact h5.elim
  | ct r => rw [e] at h5; exact h5.elim
  | bad => rw [e] at h5; exact h5.elim
/-- the same for a def that changes its first argument -/
theorem fnM2 {x qual : Str} {st : Stmt} {f : Addr} {fd : FuncData} {N ps : List Str} {k n : Nat} {fb : Sv} (F : Fun K x qual st f fd) (S : FnScope N ps (defScope st)) (hps : ps.length = n + 1)
    (hbody : ∀ (cdv : Value) (A : Around) (outer : List Env) (s : Shared) (H : Hp) (E : XK) (C : Fc), Room k (A.deeper (envOfC qual (defScope st) s.heap.objs.size f cdv)) → (∀ p ∈ C.pin, p.1 = 0) → VSs (cxOf (L2.CX P w) P w K mg base N qual (defScope st) f cdv A outer s H E) G C (fun cls d _ H => E cls d H) (defBody st) fb) :
    FnOk P w K mg base (L2.CX P w) (k + 1) f fd ps (spM G n (runM N.length fb)) := by
  refine F.okX S (fun vs H Q E h => (spM_len h).trans hps.symm) (fun cdv A outer s H vs Q E hr h => ?_)
  obtain ⟨d0, ds, v0, us, ow0, ev, h1, h2, h3, h4, h5, h6⟩ := h
  subst ev
  refine ⟨_, hbody cdv A outer s H E (fcM H ow0 v0) hr (fun p hp => by
    have e : p = (0, v0) := by simpa [fcM] using hp
    rw [e]), ?_⟩
  refine ⟨startR N.length (d0 :: ds), [], ⟨_, startM_ok (N := N) h5 h2 h3 h4⟩, ?_⟩
  have fin : ∀ {d d0' : D} {v : V} {r : Rho} {T : List (D × V)} {s' : L2.St} {H' : Hp} {ow : Ow} {b : Bs}, StW G (fcM H ow0 v0) ow r T s' H' → r[0]? = some (some d0') → b ≠ .fo → b ≠ .sl 0 → Rep G ow H' d ⟨b, []⟩ v →
      (∀ v H' (ow1 : Ow) (b : Bs), (∀ a o, (∀ p, ow0 a ≠ some ⟨.sl 0, p⟩) → H a = some o → H' a = some o) → b ≠ .fo → b ≠ .sl 0 → Rep G ow1 H' d ⟨b, []⟩ v → Rep G ow1 H' d0' ⟨.sl 0, []⟩ v0 →
      (∀ a l, ow1 a = some l → l.b ≠ .fo → H a = none ∨ ∃ p, ow0 a = some ⟨.sl 0, p⟩) → (∀ a, ow0 a = some ⟨.fo, []⟩ → ow1 a = some ⟨.fo, []⟩) → (∀ a l, ow1 a = some l → OwnO (H' a)) → Q v H') → Q v H' :=
    fun {d d0' v r T s' H' ow b} S' h0 b1 b2 hr hq => by
      obtain ⟨v0', z1, z2⟩ := S'.sl 0 d0' h0
      have p0 := S'.pin (0, v0) (by simp [fcM])
      have p0 : s'[0]? = some (some v0) := p0
      rw [p0] at z1
      cases z1
      exact hq v H' ow b (fun a o n q => S'.old a o (fun ⟨p, z⟩ => n p z) q) b1 b2 hr z2 (fun a l q n => (S'.own a l q).elim (fun z => absurd z n) id) (fun a q => S'.fo a q) S'.mu
  unfold runM at h6
  cases e : fb (startR N.length (d0 :: ds)) with
  | nx r =>
    rw [e] at h6
    intro s' H' S'
    cases e2 : r[0]? with
    | none => simp only [e2] at h6
    | some o =>
      cases o with
      | none => simp only [e2] at h6
      | some d0' =>
        simp only [e2] at h6
        obtain ⟨ow, S'⟩ := S'
        exact fin (d := .non) (b := .tm 0) S' e2 (fun z => nomatch z) (fun z => nomatch z) rfl h6
  | rt x r =>
    rw [e] at h6
    intro s' v H' P'
    obtain ⟨⟨ow, S'⟩, l⟩ := P'
    cases x with
    | val d =>
      cases e2 : r[0]? with
      | none => simp only [e2] at h6
      | some o =>
        cases o with
        | none => simp only [e2] at h6
        | some d0' =>
          simp only [e2] at h6
          have z := opd_rep (x := .val d) (T := []) (T2 := []) (by simpa using S') l rfl
          exact fin (b := .tm 0) S' e2 (fun z => nomatch z) (fun z => nomatch z) z h6
    | loc i =>
      by_cases hi : i = 0
      · simp only [hi, if_true] at h6
      · simp only [hi, if_false] at h6
        cases e3 : opd r (.loc i) with
        | none => simp only [e3] at h6
        | some d =>
          cases e2 : r[0]? with
          | none => simp only [e3, e2] at h6
          | some o =>
            cases o with
            | none => simp only [e3, e2] at h6
            | some d0' =>
              simp only [e3, e2] at h6
              have z := opd_rep (x := .loc i) (T := []) (T2 := []) (by simpa using S') l e3
              exact fin (b := .sl i) S' e2 (fun z => nomatch z) (fun z => hi (by injection z)) z h6
  | exc c r => rw [e] at h6; exact h6.elim
  | bk r => rw [e] at h6; exact h6.elim
  | ct r => rw [e] at h6; exact h6.elim
  | bad => rw [e] at h6; exact h6.elim
end
/-! ### pins -/
theorem pinV {C : Fc} (h : C.pin = []) (i : Nat) : ∀ p ∈ C.pin, p.1 ≠ i := fun p hp => by rw [h] at hp; simp at hp
theorem pinVo {C : Fc} (h : C.pin = []) (l : List Nat) : ∀ p ∈ C.pin, p.1 ∉ l := fun p hp => by rw [h] at hp; simp at hp
theorem pinM {C : Fc} (h : ∀ p ∈ C.pin, p.1 = 0) (i : Nat) (hi : i ≠ 0) : ∀ p ∈ C.pin, p.1 ≠ i := fun p hp z => hi ((h p hp).symm.trans z).symm
theorem pinMo {C : Fc} (h : ∀ p ∈ C.pin, p.1 = 0) (l : List Nat) (hl : 0 ∉ l) : ∀ p ∈ C.pin, p.1 ∉ l := fun p hp z => hl (by rw [h p hp] at z; exact z)
/-! ### the text's exception classes -/
def keyOf : D → Option (Nat ⊕ String)
  | .cls j => some (.inl j)
  | .ty n => some (.inr n)
  | _ => none
abbrev Tab := List (Nat × (Nat ⊕ String) × Bool)
def findT (k : Nat) (q : Nat ⊕ String) : Tab → Option Bool
  | [] => none
  | (i, p, b) :: t => if i = k ∧ p = q then some b else findT k q t
def etab (t : Tab) : ETab := fun k c => match keyOf c with
  | some q => findT k q t
  | none => none
def tbOf (t : Tab) (j : Nat) : Nat → Option Bool := fun k => findT k (.inl j) t
def tbTy (t : Tab) (n : String) : Nat → Option Bool := fun k => findT k (.inr n) t
def valOf (G : GX) : Nat ⊕ String → Value
  | .inl j => .ref (G j)
  | .inr n => .type n
/-- a row of the table, told of the written part -/
structure RowT (K : PySem.W.Frag) (G : GX) (k : Nat) (q : Nat ⊕ String) (b : Bool) : Prop where
  ex : ExcC K (G k)
  base : PySem.W.subIn K (valOf G q) (.type "BaseException") = some true ∨ ∃ n, q = .inr n
  kit : PySem.W.kitCls K (.ref (G k)) (valOf G q) = some b
  self : Value.ref (G k) = valOf G q → b = true
def AllT (K : PySem.W.Frag) (G : GX) : Tab → Prop
  | [] => True
  | (k, q, b) :: t => RowT K G k q b ∧ AllT K G t
theorem AllT.find {K : PySem.W.Frag} {G : GX} {k : Nat} {q : Nat ⊕ String} {b : Bool} : ∀ {t : Tab}, AllT K G t → findT k q t = some b → RowT K G k q b
  | [], _, e => by cases e
  | (i, p, c) :: t, h, e => by
    unfold findT at e
    split at e
    · rename_i z
      obtain ⟨rfl, rfl⟩ := z
      cases e
      exact h.1
    · exact AllT.find h.2 e
theorem AllT.etab {K : PySem.W.Frag} {G : GX} {t : Tab} (h : AllT K G t) : ETabOk K G (VL.etab t) := fun k c b e => by
  unfold VL.etab at e
  cases e2 : keyOf c with
  | none => rw [e2] at e; cases e
  | some q =>
    rw [e2] at e
    have r := h.find e
    refine ⟨r.ex, valOf G q, ?_, ?_⟩
    · cases c with
      | ty n => cases e2; rfl
      | cls j => cases e2; rfl
      | _ => cases e2
    · unfold PySem.W.kitOne
      by_cases z : (Value.ref (G k) == valOf G q) = true
      · rw [if_pos z, r.self (by simpa using z)]
      · rw [if_neg z]; exact r.kit
theorem AllT.exm {K : PySem.W.Frag} {G : GX} {t : Tab} (h : AllT K G t) (j : Nat) : ∀ c b, tbOf t j c = some b → PySem.W.exmOne K (.ref (G c)) (.ref (G j)) = some b := fun c b e => by
  have r := h.find e
  unfold PySem.W.exmOne
  rcases r.base with z | ⟨n, z⟩
  · have z : PySem.W.subIn K (.ref (G j)) (.type "BaseException") = some true := z
    rw [z]
    exact r.kit
  · cases z
theorem kitCls_ref {K : PySem.W.Frag} {S : Addr} {t : Value} {b : Bool} (h2 : PySem.W.isClsIn K S = true) (h3 : PySem.W.typeIn K (.ref S) = some (.type "type")) (h4 : PySem.W.subIn K t (.ref S) = some b) : PySem.W.kitCls K t (.ref S) = some b := by
  have e2 : ((PySem.W.clsIn K S).isSome && PySem.W.typeIn K (.ref S) == some (.type "type")) = true := by
    have h2' : (PySem.W.clsIn K S).isSome = true := h2
    rw [h2', h3] <;> rfl
  show (if ((PySem.W.clsIn K S).isSome && PySem.W.typeIn K (.ref S) == some (.type "type")) = true then PySem.W.subIn K t (.ref S) else none) = some b
  rw [if_pos e2]
  exact h4
/-- what the written part says of a class of the text's -/
structure ClsF (K : PySem.W.Frag) (S : Addr) : Prop where
  ic : PySem.W.isClsIn K S = true
  tc : PySem.W.typeIn K (.ref S) = some (.type "type")
  bc : PySem.W.subIn K (.ref S) (.type "BaseException") = some true
theorem row_cls {K : PySem.W.Frag} {G : GX} {k j : Nat} {b : Bool} (hk : ExcC K (G k)) (hj : ClsF K (G j)) (self : PySem.W.subIn K (.ref (G k)) (.ref (G k)) = some true) (h : PySem.W.subIn K (.ref (G k)) (.ref (G j)) = some b) : RowT K G k (.inl j) b :=
  ⟨hk, .inl hj.bc, kitCls_ref hj.ic hj.tc h, fun e => by
    have e : Value.ref (G k) = Value.ref (G j) := e
    rw [← e, self] at h
    exact (Option.some.inj h).symm⟩
theorem row_ty {K : PySem.W.Frag} {G : GX} {k : Nat} {n : String} {b : Bool} (hk : ExcC K (G k)) (hm : PySem.W.kitMeta n = true) (h : PySem.W.subIn K (.ref (G k)) (.type n) = some b) : RowT K G k (.inr n) b :=
  ⟨hk, .inr ⟨n, rfl⟩, by
    show (if PySem.W.kitMeta n = true then PySem.W.subIn K (.ref (G k)) (.type n) else none) = some b
    rw [if_pos hm]; exact h, fun e => nomatch e⟩

/-! ### the law -/
def spLaw (K : PySem.W.Frag) : Sp := fun vs H Q _ => ∃ (a : Addr) (ns : List Int), vs = [.ref a] ∧ Holds ⟨fun _ => a, K⟩ H a .rd (ns.map V.int) ∧ ns.length ≤ 63 ∧ ∀ H', Q (.bl true) H'
theorem frzs_ints (ns : List Int) : frzs (ns.map D.int) = ns.map D.int := by
  rw [frzs_map, List.map_map]
  exact List.map_congr_left fun _ _ => rfl
theorem reps_ints {G : GX} {ow : Ow} {H : Hp} : ∀ (ns : List Int) (l : VL.Loc) (i : Nat), Reps G ow H (ns.map D.int) l i (ns.map V.int)
  | [], _, _ => rfl
  | n :: ns, l, i => ⟨_, _, rfl, rfl, reps_ints ns l (i + 1)⟩
def script (ns : List Int) : D := .node .rd false (ns.map D.int)
theorem law_imp {K : PySem.W.Frag} {G : GX} (hG : G.K = K) {F : List D → FO} (h : ∀ ns : List Int, ns.length ≤ 63 → F [script ns] = .ok (.bl true)) {vs : List V} {H : Hp} {Q : VK} {E : XK} (q : spLaw K vs H Q E) : spV G 1 F vs H Q E := by
  obtain ⟨a, ns, rfl, ha, hl, hq⟩ := q
  refine ⟨[script ns], fun _ => none, rfl, ?_, (fun a l z => nomatch z), ?_, ?_⟩
  · show [D.node .rd false (frzs (ns.map D.int))] = _
    rw [frzs_ints]; rfl
  · refine ⟨_, _, rfl, ⟨a, ns.map V.int, rfl, ?_, trivial, reps_ints ns _ _⟩, rfl⟩
    rcases ha with z | z
    · exact .inl z
    · exact .inr (by rw [hG]; exact z)
  · rw [h ns hl]
    intro v H' _ b
    obtain ⟨ow1, b, _, hr, _⟩ := b
    have e : v = .bl true := hr
    subst e
    exact hq H'
theorem law_in {K : PySem.W.Frag} {H : Hp} {a : Addr} {ns : List Int} (hl : ns.length ≤ 63) (hO : Only H) (hS : SqL K H a (ns.map V.int)) : spLaw K [.ref a] H (fun v _ => v = .bl true) fun _ _ _ => False := by
  refine ⟨a, ns, rfl, ?_, hl, fun _ => rfl⟩
  rcases hS with z | z
  · rcases hO a with q | ⟨o, xs, q⟩
    · rcases z with z | ⟨o, z⟩
      · rw [q] at z; cases z
      · exact .inl ⟨o, z⟩
    · rcases z with z | ⟨o, z⟩
      · rw [q] at z; cases z
      · exact .inl ⟨o, z⟩
  · exact .inr z
/-- so many turns may a while take -/
theorem fuel_ex : ∃ n : Nat, 1000000000 ≤ n := ⟨_, Nat.le_refl _⟩
noncomputable def fuel : Nat := Classical.choose fuel_ex
theorem fuel_ge : 1000000000 ≤ fuel := Classical.choose_spec fuel_ex
end VL

namespace VL
open PySem PySem.Spec PyProof.Rows L2
section
variable {X : Cx} {G : GX} {C : Fc} {W : WX} {ow ow' : Ow} {r : Rho} {T T1 T2 : List (D × V)} {s : L2.St} {H H' : Hp} {fa fb fc : Ev} {f g : Sv} {fs : Av}
theorem units65 {k : Nat} {A : Around} (h : Room k A) : A.units + 65 < cLine := by have := h.un; omega
def gRev (x : R) (r : Rho) : EO := match opd r x with
  | some (.node .lst _ xs) => .ok (.val (.node .lst true (frzs xs).reverse)) (touch r x)
  | some (.node .rd _ xs) => .ok (.val (.node .lst true (frzs xs).reverse)) (touch r x)
  | _ => .bad
/-- a[::-1] of a list -/
def cRev (fa : Ev) : Ev := fun r => (fa r).bd gRev
theorem Reps.rev {ds : List D} {l : Loc} {vs : List V} (e : VL.frzs ds = ds) (h : Reps G ow H ds l 0 vs) : Reps G ow H ds.reverse l 0 vs.reverse ∧ VL.frzs ds.reverse = ds.reverse := by
  have hl := h.length
  refine ⟨Reps.of_get (by simp [hl]) fun j d v q1 q2 => ?_, by rw [frzs_map, List.map_reverse, ← frzs_map, e]⟩
  have hj : j < ds.length := by
    have := (List.getElem?_eq_some_iff.mp q1).1
    simpa using this
  rw [List.getElem?_reverse hj] at q1
  rw [List.getElem?_reverse (by omega), ← hl] at q2
  obtain ⟨v', z1, z2⟩ := h.get _ d q1
  rw [q2] at z1
  cases z1
  have f : VL.frz d = d := by
    have := congrArg (·[ds.length - 1 - j]?) e
    simp only [frzs_map, List.getElem?_map, q1, Option.map_some] at this
    exact Option.some.inj this
  exact Rep.moveF d f (fun a o z q => ⟨z, q⟩) (fun _ _ z _ => z) z2
theorem ve_rev {a : Expr} {k : Nat} {p1 p2 p3 pos : Pos} (hK : G.K = X.K) (ha : VE X G C W a fa) : VE X G C W (.Subscript a (.Slice none none (some (.UnaryOp .USub (.Constant (.int 1) k p1) p2)) p3) pos) (cRev fa) := by
  refine PE.imp (pe_revL ha) fun s H Q h => ?_
  obtain ⟨r, T, S, g⟩ := h
  refine one S g fun x v r1 H1 P g1 => ?_
  obtain ⟨ow, S3⟩ := P.1
  unfold gRev at g1
  split at g1
  · rename_i o xs e1
    obtain ⟨ow', p, vs, S', ev, h1, rx, _⟩ := S3.parts P.2 e1
    subst ev
    obtain ⟨c1, c2⟩ := (rx ⟨.fo, []⟩).rev (frzs_frzs xs)
    exact ⟨p, vs, rfl, SqL.of h1, S'.made c2 c1 g1⟩
  · rename_i o xs e1
    obtain ⟨ow', p, vs, S', ev, h1, rx, _⟩ := S3.parts P.2 e1
    subst ev
    obtain ⟨c1, c2⟩ := (rx ⟨.fo, []⟩).rev (frzs_frzs xs)
    exact ⟨p, vs, rfl, hK ▸ h1.seq, S'.made c2 c1 g1⟩
  · exact g1.elim
def cIdx (i : Nat) (fa : Ev) : Ev := fun r => if isLst r i = true then cBin gIndex (cVar i) fa r else .bad
end
end VL
namespace VL
open PySem PySem.Spec PyProof.Rows L2
/-! ### the names of a block of its own, as its scope is told anew -/
theorem look_relabel {env : Env} {x : Str} {k : NameKind} : ∀ {names : List (Str × NameKind)}, names.lookup x = some k →
    (names.map fun (n, k) => if (k == NameKind.free && env.scope.kind == .function && env.kindOf n == some .cell) then (n, NameKind.cell) else (n, k)).lookup x = some k ∨
    (k = .free ∧ (names.map fun (n, k) => if (k == NameKind.free && env.scope.kind == .function && env.kindOf n == some .cell) then (n, NameKind.cell) else (n, k)).lookup x = some .cell)
  | [], h => by simp at h
  | (n, k') :: r, h => by
    have ih := @look_relabel env x k r
    show List.lookup x ((if (k' == NameKind.free && env.scope.kind == .function && env.kindOf n == some .cell) = true then (n, NameKind.cell) else (n, k')) :: _) = _ ∨ (_ ∧ List.lookup x ((if (k' == NameKind.free && env.scope.kind == .function && env.kindOf n == some .cell) = true then (n, NameKind.cell) else (n, k')) :: _) = _)
    cases hx : x == n with
    | true =>
      simp only [List.lookup_cons, hx] at h
      cases h
      by_cases hc : (k == NameKind.free && env.scope.kind == .function && env.kindOf n == some .cell) = true
      · rw [if_pos hc]
        refine .inr ⟨?_, by simp only [List.lookup_cons, hx]⟩
        simp only [Bool.and_eq_true] at hc
        exact of_decide_eq_true (by simpa using hc.1.1)
      · rw [if_neg hc]
        exact .inl (by simp only [List.lookup_cons, hx])
    | false =>
      simp only [List.lookup_cons, hx] at h
      by_cases hc : (k' == NameKind.free && env.scope.kind == .function && env.kindOf n == some .cell) = true
      · rw [if_pos hc]; simp only [List.lookup_cons, hx]; exact ih h
      · rw [if_neg hc]; simp only [List.lookup_cons, hx]; exact ih h
theorem cv_free {env : Env} {scope : Scope} {x : Str} (h : scope.names.lookup x = some .free) : Vis (relabel scope env) x := (look_relabel h).elim (fun z => .inr (.inr z)) fun z => .inr (.inl z.2)
theorem cv_own {env : Env} {scope : Scope} {x : Str} (h : scope.names.lookup x = some .local) : (relabel scope env).names.lookup x = some .local := (look_relabel h).elim id fun z => nomatch z.1
theorem cv_gl {env : Env} {scope : Scope} {x : Str} (h : scope.names.lookup x = some .globalImplicit) : (relabel scope env).names.lookup x = some .globalImplicit := (look_relabel h).elim id fun z => nomatch z.1
end VL
namespace VL
open PySem PySem.Spec PyProof.Rows L2
theorem no_exc {P : Program} {w : World} {H : Hp} {s : Shared} {e : Value} {s' : Shared} (z : L2.CX P w [] H s (fun _ _ _ => False) e s') : False := by
  obtain ⟨_, _, _, _, _, _, _, _, _, _, _, _, _, _, _, _, z⟩ := z
/-- the law row's walk -/
theorem walk_lawV {k : Nat} {l : PySem.W.OpenLaw} {q : Program} {loose : List Str} {XP : (Str → Option Value) → Heap → Prop} {YP : World → Heap → Prop} {d : DefRec} {K : Params → PySem.W.Frag} (hn : l.most = some 63) (hdf : d.params.defaults = []) (hr : Room k callerA)
    (hY : ∀ (w : World) (h : Heap), YP w h → (K w.params).In h)
    (F : ∀ (w : World) (mg : Str → Option Value) (fa : Addr) (h : Heap), (K w.params).In h → h.Ns mainGlobals mg → mg d.name = some (.ref fa) →
      ∃ fd : FuncData, (∀ (s : Shared) (u : Value), BindsTo s fd ⟨[u], []⟩ [("script", u)]) ∧ ∀ base : Heap, (K w.params).In base → base.Ns mainGlobals mg → FnOk l.prog w (K w.params) mg base (L2.CX l.prog w) k fa fd ["script"] (VL.spLaw (K w.params))) :
    PySem.W.WalkO q loose XP YP l.row.toRowW d [] (fun f vs => PySem.call f vs) :=
  L2.walk_of (n := 63) (k := k) (x := "script") (CX := fun w => L2.CX l.prog w) (sp := fun w => VL.spLaw (K w.params)) hn (by decide) hdf hr hY F (fun w H a ns hl hO hS => law_in hl hO hS) fun w H s e s' z => no_exc z
end VL

namespace VL
open PySem PySem.Spec PyProof.Rows L2
/-! ### what the meanings come to, step by step -/
section
variable {r r1 : Rho} {k : R → Rho → SO} {kE : R → Rho → EO} {g : Sv} {fa fb fc : Ev} {fs : Av} {x y : R} {d e : D} {i j : Nat} {n m : Int} {b : Bool}
@[simp] theorem q_sq1 : (SO.nx r).sq g = g r := rfl
@[simp] theorem q_sq2 : (SO.rt x r).sq g = .rt x r := rfl
@[simp] theorem q_sq3 {c : Nat} : (SO.exc c r).sq g = .exc c r := rfl
@[simp] theorem q_sq4 : (SO.bk r).sq g = .bk r := rfl
@[simp] theorem q_sq5 : (SO.ct r).sq g = .ct r := rfl
@[simp] theorem q_sq6 : SO.bad.sq g = .bad := rfl
@[simp] theorem q_st1 : (EO.ok y r).st k = k y r := rfl
@[simp] theorem q_st2 {c : Nat} : (EO.exc c r).st k = .exc c r := rfl
@[simp] theorem q_st3 : EO.bad.st k = .bad := rfl
@[simp] theorem q_abd1 {xs : List R} {kA : List R → Rho → EO} : (AO.ok xs r).bd kA = kA xs r := rfl
@[simp] theorem q_abd2 {c : Nat} {kA : List R → Rho → EO} : (AO.exc c r).bd kA = .exc c r := rfl
@[simp] theorem q_seq {f : Sv} : cSeq f g r = (f r).sq g := rfl
@[simp] theorem q_skip : cSkip r = .nx r := rfl
@[simp] theorem q_ret : cRet fa r = (fa r).st fun x r1 => .rt x r1 := rfl
@[simp] theorem q_raise {c : Nat} : cRaise c r = .exc c r := rfl
@[simp] theorem q_brk : cBrk r = .bk r := rfl
@[simp] theorem q_cnt : cCnt r = .ct r := rfl
@[simp] theorem q_expr : cExpr fa r = (fa r).st fun _ r1 => .nx r1 := rfl
@[simp] theorem q_ifs {f : Sv} : cIfS fa f g r = (fa r).st fun x r1 => match x with
  | .val (.bl true) => f r1
  | .val (.bl false) => g r1
  | _ => .bad := rfl
@[simp] theorem q_var : cVar i r = match r[i]? with
  | some (some d) => if atom d = true then .ok (.val d) r else .ok (.loc i) r
  | _ => .bad := rfl
@[simp] theorem q_c : cC d r = .ok (.val d) r := rfl
@[simp] theorem q_bin {gg : G2} : cBin gg fa fb r = (fa r).bd fun x r1 => (fb r1).bd fun y r2 => gg x y r2 := rfl
@[simp] theorem q_set : cSet fa r = (fa r).bd fun x r1 => match x with
  | .val d => .ok (.val d) r1
  | .loc i => (match opd r1 (.loc i) with
    | some d => .ok (.val (frz d)) (settle r1 (.loc i))
    | none => .bad) := rfl
@[simp] theorem q_asg {t : Tg} : cAsg t fa r = (cSet fa r).st (asgK t) := rfl
@[simp] theorem q_asgK {t : Tg} : asgK t (.val d) r = match tgt t d r with
    | some r2 => .nx r2
    | none => .bad := rfl
@[simp] theorem q_tgt : tgt (.nm i) d r = some (r.set i (some d)) := rfl
@[simp] theorem q_opd1 : opd r (.val d) = some d := rfl
@[simp] theorem q_opd2 : opd r (.loc i) = match r[i]? with
    | some (some d) => some d
    | _ => none := rfl
@[simp] theorem q_touch1 : touch r (.val d) = r := rfl
@[simp] theorem q_touch2 : touch r (.loc i) = match r[i]? with
    | some (some d) => r.set i (some (frzB d))
    | _ => r := rfl
@[simp] theorem q_settle2 : settle r (.loc i) = match r[i]? with
    | some (some d) => r.set i (some (frz d))
    | _ => r := rfl
@[simp] theorem q_settle1 : settle r (.val d) = r := rfl
@[simp] theorem q_at1 : atom (.int n) = true := rfl
@[simp] theorem q_at2 : atom (.bl b) = true := rfl
@[simp] theorem q_at3 : atom .non = true := rfl
@[simp] theorem q_at4 {s : Str} : atom (.str s) = true := rfl
@[simp] theorem q_at5 {c : Nat} : atom (.exc c) = true := rfl
@[simp] theorem q_at6 {c : Nat} : atom (.cls c) = true := rfl
@[simp] theorem q_at7 {s : String} : atom (.ty s) = true := rfl
@[simp] theorem q_at8 {k : Kd} {o : Bool} {xs : List D} : atom (.node k o xs) = false := rfl
@[simp] theorem q_g2 {f : D → D → Option D} : g2 f x y r = match opd r x, opd r y with
  | some d, some e => (match f d e with
    | some z => if atom z = true then .ok (.val z) r else .bad
    | none => .bad)
  | _, _ => .bad := rfl
@[simp] theorem q_fI {ok : Int → Int → Bool} {gg : Int → Int → D} : fI ok gg (.int n) (.int m) = if ok n m = true then some (gg n m) else none := rfl
@[simp] theorem q_yes : yes2 n m = true := rfl
@[simp] theorem q_lt : gLt x y r = g2 (fI yes2 fun i j => .bl (decide (i < j))) x y r := rfl
@[simp] theorem q_le : gLe x y r = g2 (fI yes2 fun i j => .bl (decide (i ≤ j))) x y r := rfl
@[simp] theorem q_gt : gGt x y r = g2 (fI yes2 fun i j => .bl (decide (j < i))) x y r := rfl
@[simp] theorem q_ge : gGe x y r = g2 (fI yes2 fun i j => .bl (decide (j ≤ i))) x y r := rfl
@[simp] theorem q_sub : gSub x y r = g2 (fI yes2 fun i j => .int (i - j)) x y r := rfl
@[simp] theorem q_div : gDiv x y r = g2 (fI divOk fun i j => .int (i / j)) x y r := rfl
@[simp] theorem q_mod : gMod x y r = g2 (fI posOk fun i j => .int (i % j)) x y r := rfl
@[simp] theorem q_eq : gEq x y r = g2 eqD x y r := rfl
@[simp] theorem q_ne : gNe x y r = g2 neD x y r := rfl
@[simp] theorem q_in : gIn x y r = g2 (fun d e => (inD d e).map .bl) x y r := rfl
@[simp] theorem q_eqI : eqD (.int n) (.int m) = some (.bl (decide (n = m))) := by
  have e : PyData.eqv (.int n) (.int m) = decide (n = m) := by
    show (n == m) = _
    by_cases h : n = m <;> simp [h]
  show (if (true && true) = true then some (D.bl (PyData.eqv (.int n) (.int m))) else none) = _
  rw [e]; rfl
@[simp] theorem q_neI : neD (.int n) (.int m) = some (.bl (!decide (n = m))) := by
  have e : PyData.eqv (.int n) (.int m) = decide (n = m) := by
    show (n == m) = _
    by_cases h : n = m <;> simp [h]
  show (if (true && true) = true then some (D.bl (!PyData.eqv (.int n) (.int m))) else none) = _
  rw [e]; rfl
@[simp] theorem q_addI : gAdd (.val (.int n)) (.val (.int m)) r = .ok (.val (.int (n + m))) r := by unfold gAdd; rfl
theorem q_add : gAdd x y r = match opd r x, opd r y with
  | some (.int i), some (.int j) => .ok (.val (.int (i + j))) r
  | some (.int i), some (.bl k) => .ok (.val (.int (i + b2i k))) r
  | some (.str a), some (.str b) => if a.length + b.length ≤ 16777216 then .ok (.val (.str (a ++ b))) r else .bad
  | some (.node .lst _ xs), some (.node .lst _ ys) => if xs.length + ys.length ≤ 16777216 then .ok (.val (.node .lst true (frzs xs ++ frzs ys))) (touch (touch r y) x) else .bad
  | _, _ => .bad := by unfold gAdd; rfl
@[simp] theorem q_mulI : gMul (.val (.int n)) (.val (.int m)) r = if mulOk n m = true then .ok (.val (.int (n * m))) r else .bad := by unfold gMul; rfl
theorem q_mulL {o : Bool} {xs : List D} (h : 0 ≤ n ∧ n < 9000000000000000000 ∧ xs.length * n.toNat ≤ 16777216) : gMul (.val (.node .lst o xs)) (.val (.int n)) r = .ok (.val (.node .lst true (List.replicate n.toNat (frzs xs)).flatten)) r := by
  unfold gMul
  show (if n.natAbs < 2 ^ 63 ∧ xs.length * n.toNat ≤ 16777216 then _ else _) = _
  rw [if_pos ⟨by omega, h.2.2⟩]; rfl
theorem q_mul : gMul x y r = match opd r x, opd r y with
  | some (.int i), some (.int j) => if mulOk i j = true then .ok (.val (.int (i * j))) r else .bad
  | some (.node .lst _ xs), some (.int k) => if k.natAbs < 2 ^ 63 ∧ xs.length * k.toNat ≤ 16777216 then .ok (.val (.node .lst true (List.replicate k.toNat (frzs xs)).flatten)) (touch r x) else .bad
  | _, _ => .bad := by unfold gMul; rfl
@[simp] theorem q_ix : gIx x y r = match opd r x, opd r y with
  | some (.node .lst _ xs), some (.int i) => (match atI xs i with | some d => pick r x d | none => .bad)
  | some (.node .rd _ xs), some (.int i) => (match atI xs i with | some d => pick r x d | none => .bad)
  | some (.node .tup _ xs), some (.int i) => (match atI xs i with | some d => pick r x d | none => .bad)
  | some (.str z), some (.int i) => if z.length ≤ 16777216 then (match atI z.cps.toList i with | some c => .ok (.val (.str ⟨#[c]⟩)) r | none => .bad) else .bad
  | _, _ => .bad := rfl
@[simp] theorem q_pick : pick r x d = if atom d = true then .ok (.val d) r else .ok (.val (frz d)) (touch r x) := rfl
@[simp] theorem q_and : cAnd fa fb r = (fa r).bd fun x r1 => match x with
  | .val (.bl true) => fb r1
  | .val (.bl false) => .ok (.val (.bl false)) r1
  | _ => .bad := rfl
@[simp] theorem q_or : cOr fa fb r = (fa r).bd fun x r1 => match x with
  | .val (.bl true) => .ok (.val (.bl true)) r1
  | .val (.bl false) => fb r1
  | _ => .bad := rfl
@[simp] theorem q_not : cNot fa r = (fa r).bd fun x r1 => match x with
  | .val (.bl b) => .ok (.val (.bl (!b))) r1
  | _ => .bad := rfl
@[simp] theorem q_neg : cNeg fa r = (fa r).bd fun x r1 => match x with
  | .val (.int i) => .ok (.val (.int (-i))) r1
  | _ => .bad := rfl
@[simp] theorem q_nil : cNil r = .ok [] r := rfl
@[simp] theorem q_cons : cCons fa fs r = match fa r with
  | .ok x r1 => (match fs r1 with
    | .ok xs r2 => .ok (x :: xs) r2
    | .exc c r2 => .exc c r2
    | .bad => .bad)
  | .exc c r1 => .exc c r1
  | .bad => .bad := rfl
@[simp] theorem q_opds0 : opds r [] = some [] := rfl
@[simp] theorem q_opds1 {xs : List R} : opds r (x :: xs) = match opd r x, opds r xs with
    | some d, some ds => some (d :: ds)
    | _, _ => none := rfl
@[simp] theorem q_settles0 : settles r [] = r := rfl
@[simp] theorem q_settles1 {xs : List R} : settles r (x :: xs) = settles (settle r x) xs := rfl
@[simp] theorem q_valsR0 : valsR [] = some [] := rfl
@[simp] theorem q_valsR1 {xs : List R} : valsR (.val d :: xs) = match valsR xs with
    | some ds => some (d :: ds)
    | none => none := rfl
@[simp] theorem q_lst : cLst fs r = (fs r).bd fun xs r1 => match valsR xs with
  | some ds => if ds.length ≤ 16777216 then .ok (.val (.node .lst true ds)) r1 else .bad
  | none => .bad := rfl
@[simp] theorem q_tup : cTup fs r = (fs r).bd fun xs r1 => match valsR xs with
  | some ds => if ds.length ≤ 16777216 then .ok (.val (.node .tup false ds)) r1 else .bad
  | none => .bad := rfl
@[simp] theorem q_B {gg : List R → Rho → EO} : cB gg fs r = (fs r).bd gg := rfl
@[simp] theorem q_b1 {f : D → Option D} : b1 f [x] r = match opd r x with
    | some d => (match f d with
      | some z => if atom z = true then .ok (.val z) r else .bad
      | none => .bad)
    | none => .bad := rfl
@[simp] theorem q_len1 {o : Bool} {xs : List D} : lenD (.node .lst o xs) = some (.int xs.length) := rfl
@[simp] theorem q_len2 {o : Bool} {xs : List D} : lenD (.node .rd o xs) = some (.int xs.length) := rfl
@[simp] theorem q_len3 {o : Bool} {xs : List D} : lenD (.node .tup o xs) = some (.int xs.length) := rfl
@[simp] theorem q_listOf : gListOf [x] r = match opd r x with
    | some (.node .lst _ xs) => .ok (.val (.node .lst true (frzs xs))) (touch r x)
    | some (.node .rd _ xs) => .ok (.val (.node .lst true (frzs xs))) (touch r x)
    | some (.node .tup _ xs) => .ok (.val (.node .lst true (frzs xs))) (touch r x)
    | _ => .bad := rfl
@[simp] theorem q_max2 : gMax2 [.val (.int n), .val (.int m)] r = .ok (.val (.int (if m > n then m else n))) r := rfl
@[simp] theorem q_min2 : gMin2 [.val (.int n), .val (.int m)] r = .ok (.val (.int (if m < n then m else n))) r := rfl
@[simp] theorem q_call {nn : Nat} {F : List D → FO} : cCall nn F fs r = (fs r).bd fun xs r1 => if xs.length = nn then callK F xs r1 else .bad := rfl
@[simp] theorem q_callK {F : List D → FO} {xs : List R} : callK F xs r = match opds r xs with
  | some ds => (match F (frzs ds) with
    | .ok d => if noL d = true then .ok (.val d) r else .ok (.val d) (settles r xs)
    | .exc c => .exc c r
    | .bad => .bad)
  | none => .bad := rfl
@[simp] theorem q_callM {nn : Nat} {F : D → List D → MO} : cCallM nn i F fs r = (fs r).bd (callKM nn i F) := rfl
@[simp] theorem q_callKM {nn : Nat} {F : D → List D → MO} {rest : List R} : callKM nn i F (.loc j :: rest) r = if j = i ∧ rest.length = nn then (match opd r (.loc i), valsR rest with
    | some d0, some ds => (match F d0 (frzs ds) with
      | .ok d d0' => .ok (.val d) (r.set i (some d0'))
      | .bad => .bad)
    | _, _ => .bad) else .bad := rfl
@[simp] theorem q_for {t : Tg} {fi : Iv} {f : Sv} : cFor t fi f r = match fi r with
  | .ok ds r1 => forL t f ds r1
  | .exc c r1 => .exc c r1
  | .bad => .bad := rfl
@[simp] theorem q_iLst : iLst fa r = match cSet fa r with
  | .ok (.val (.node .lst _ ds)) r1 => .ok ds r1
  | .ok (.val (.node .rd _ ds)) r1 => .ok ds r1
  | .exc c r1 => .exc c r1
  | _ => .bad := rfl
@[simp] theorem q_iRng {gg : Rho → List R → IO} : iRng gg fs r = match fs r with
  | .ok xs r1 => gg r1 xs
  | .exc c r1 => .exc c r1
  | .bad => .bad := rfl
@[simp] theorem q_rng1 : rngI1 r [.val (.int n)] = if within n = true then .ok (rngD 0 1 n.toNat) r else .bad := rfl
@[simp] theorem q_rng2 : rngI2 r [.val (.int n), .val (.int m)] = if (within n && within m) = true then .ok (rngD n 1 (m - n).toNat) r else .bad := rfl
@[simp] theorem q_lc {vs : List Nat} {t : Tg} {fi : Iv} {fc : Option Ev} {fe : Ev} : cLc vs t fi fc fe r = match fi r with
  | .ok ds r1 => (match lcL t fc fe vs ds [] (wipeR r1 vs) with
    | .ok acc r2 => .ok (.val (.node .lst true acc)) (backR r1 r2 vs)
    | .bad => .bad)
  | .exc c r1 => .exc c r1
  | .bad => .bad := rfl
@[simp] theorem q_wipe0 : wipeR r [] = r := rfl
@[simp] theorem q_wipe1 {vs : List Nat} : wipeR r (i :: vs) = (wipeR r vs).set i none := rfl
@[simp] theorem q_isLst : isLst r i = match r[i]? with
  | some (some (.node .lst _ _)) => true
  | _ => false := rfl
@[simp] theorem q_app : cApp i fa r = if isLst r i = true then (cSet fa r).bd (appK i) else .bad := rfl
@[simp] theorem q_appK : appK i (.val d) r = match r[i]? with
  | some (some (.node .lst true ds)) => if ds.length < 16777216 then .ok (.val .non) (r.set i (some (.node .lst true (ds ++ [d])))) else .bad
  | _ => .bad := by
  unfold appK
  split <;> rename_i h <;> simp_all
@[simp] theorem q_setIx {fk : Ev} : cSetIx i fk fa r = (cSet fa r).st fun x r1 => if isLst r1 i = true then (fk r1).st (setIxK i x) else .bad := rfl
@[simp] theorem q_setIxK : setIxK i (.val d) y r = match opd r y, r[i]? with
  | some (.int k), some (some (.node .lst true ds)) => (match ixN ds.length k with
    | some j => .nx (r.set i (some (.node .lst true (ds.set j d))))
    | none => .bad)
  | _, _ => .bad := by
  unfold setIxK
  split <;> rename_i h <;> simp_all <;> rfl
end
/-- a deck of the law's draws -/
def dk (a b c : Int) : D := .node .lst true [.int a, .int b, .int c]
def lints (o : Bool) (ns : List Int) : D := .node .lst o (ns.map .int)
@[simp] theorem frz_lints {o : Bool} {ns : List Int} : frz (lints o ns) = lints false ns := by
  show D.node .lst false (frzs (ns.map D.int)) = _
  rw [frzs_ints]; rfl
end VL
namespace VL
open PySem PySem.Spec PyProof.Rows L2
/-! ### laws of the meanings' parts -/
theorem posOk_of {i m : Int} (hm : 0 < m) : posOk i m = true := decide_eq_true hm
theorem divOk_of' {i m : Int} (hm : 0 < m) (hm2 : m < 1073741824) : divOk i m = true := by
  have h2 : m.natAbs < 1073741824 := by omega
  unfold divOk; simp [hm, h2]
theorem mulOk_l {i j : Int} (h : i.natAbs < 2 ^ 64) : mulOk i j = true := by unfold mulOk; simp [h]
theorem mulOk_r {i j : Int} (h : j.natAbs < 2 ^ 64) : mulOk i j = true := by
  unfold mulOk
  rw [decide_eq_true h]; simp
theorem canLay_ints : ∀ ns : List Int, PyData.canLayAll0 (toPys (ns.map D.int)) = true ∧ PyData.depthAll (toPys (ns.map D.int)) = 0
  | [] => ⟨rfl, rfl⟩
  | n :: ns => by
    obtain ⟨h1, h2⟩ := canLay_ints ns
    constructor
    · show (true && PyData.canLayAll0 (toPys (ns.map D.int))) = true
      rw [h1]; rfl
    · show max 0 (PyData.depthAll (toPys (ns.map D.int))) = 0
      rw [h2]; rfl
theorem eqOk_lints (o : Bool) (ns : List Int) : eqOk (.node .lst o (ns.map .int)) = true := by
  obtain ⟨h1, h2⟩ := canLay_ints ns
  show (PyData.canLayAll0 (toPys (ns.map D.int)) && decide (PyData.depthAll (toPys (ns.map D.int)) + 1 ≤ 64)) = true
  rw [h1, h2]; rfl
theorem eqv_ints : ∀ xs ys : List Int, PyData.eqvAll (toPys (xs.map D.int)) (toPys (ys.map D.int)) = decide (xs = ys)
  | [], [] => rfl
  | [], y :: ys => rfl
  | x :: xs, [] => rfl
  | x :: xs, y :: ys => by
    show ((x == y) && PyData.eqvAll (toPys (xs.map D.int)) (toPys (ys.map D.int))) = _
    rw [eqv_ints xs ys]
    by_cases h : x = y <;> by_cases h2 : xs = ys <;> simp [h, h2]
theorem eq_lints {o o' : Bool} (xs ys : List Int) : eqD (.node .lst o (xs.map .int)) (.node .lst o' (ys.map .int)) = some (.bl (decide (xs = ys))) := by
  unfold eqD
  rw [eqOk_lints, eqOk_lints]
  show some (D.bl (PyData.eqvAll (toPys (xs.map D.int)) (toPys (ys.map D.int)))) = _
  rw [eqv_ints]
theorem ne_lints {o o' : Bool} (xs ys : List Int) : neD (.node .lst o (xs.map .int)) (.node .lst o' (ys.map .int)) = some (.bl (!decide (xs = ys))) := by
  unfold neD
  rw [eqOk_lints, eqOk_lints]
  show some (D.bl (!PyData.eqvAll (toPys (xs.map D.int)) (toPys (ys.map D.int)))) = _
  rw [eqv_ints]
theorem any_ints (n : Int) : ∀ xs : List Int, (xs.map D.int).any (fun z => PyData.eqv (toPy z) (toPy (.int n))) = decide (n ∈ xs)
  | [] => rfl
  | x :: xs => by
    show ((x == n) || (xs.map D.int).any (fun z => PyData.eqv (toPy z) (toPy (.int n)))) = _
    rw [any_ints n xs]
    by_cases h : x = n
    · subst h; simp
    · have h' : ¬ n = x := fun z => h z.symm
      simp [h, h']
theorem in_lints {o : Bool} (n : Int) (xs : List Int) : inD (.int n) (.node .lst o (xs.map .int)) = some (decide (n ∈ xs)) := by
  have e : eqOk (.int n) = true := rfl
  show (if (eqOk (.int n) && eqOk (.node .lst o (xs.map .int))) = true then _ else _) = _
  rw [e, eqOk_lints, any_ints]; rfl
theorem flat_ints : ∀ xs : List Int, (xs.map D.int).all flatD = true
  | [] => rfl
  | x :: xs => by
    show (true && (xs.map D.int).all flatD) = true
    rw [flat_ints xs]; rfl
theorem idx_ints (n : Int) (xs : List Int) : idxD (xs.map D.int) (.int n) = xs.findIdx? fun x => x == n := by
  unfold idxD
  rw [List.findIdx?_map]
  rfl
theorem frzs_int (ns : List Int) : frzs (List.map D.int ns) = List.map D.int ns := frzs_ints ns
theorem frzs_cut {α : Type} : True := trivial
theorem noLs_ints : ∀ ns : List Int, noLs (ns.map D.int) = true
  | [] => rfl
  | n :: ns => by show (true && noLs (ns.map D.int)) = true; rw [noLs_ints ns]; rfl
theorem noL_lints (ns : List Int) : noL (.node .lst true (ns.map .int)) = true := by
  show ((true || false) && noLs (ns.map D.int)) = true
  rw [noLs_ints]; rfl
/-- a for loop whose body runs through -/
theorem forL_all {α : Type} {t : Tg} {f : Sv} (st : α → Rho) (P : α → Prop) : ∀ (ds : List D) (a : α), P a → (∀ a d, d ∈ ds → P a → ∃ r1 a', tgt t d (st a) = some r1 ∧ f r1 = .nx (st a') ∧ P a') → ∃ a', forL t f ds (st a) = .nx (st a') ∧ P a'
  | [], a, h, _ => ⟨a, rfl, h⟩
  | d :: ds, a, h, k => by
    obtain ⟨r1, a', e1, e2, h'⟩ := k a d List.mem_cons_self h
    obtain ⟨a'', e3, h''⟩ := forL_all st P ds a' h' (fun a d hd => k a d (List.mem_cons_of_mem _ hd))
    refine ⟨a'', ?_, h''⟩
    show (match tgt t d (st a) with | none => _ | some r1 => _) = _
    rw [e1]
    show (match f r1 with | .nx r2 => forL t f ds r2 | .ct r2 => forL t f ds r2 | .bk r2 => .nx r2 | o => o) = _
    rw [e2]
    exact e3
/-- the same, step by step told -/
theorem forL_fold {α : Type} {t : Tg} {f : Sv} (st : α → Rho) (step : α → D → α) : ∀ (ds : List D) (a : α), (∀ a d, d ∈ ds → ∃ r1, tgt t d (st a) = some r1 ∧ f r1 = .nx (st (step a d))) → forL t f ds (st a) = .nx (st (ds.foldl step a))
  | [], a, _ => rfl
  | d :: ds, a, k => by
    obtain ⟨r1, e1, e2⟩ := k a d List.mem_cons_self
    have e3 := forL_fold st step ds (step a d) (fun a d hd => k a d (List.mem_cons_of_mem _ hd))
    show (match tgt t d (st a) with | none => _ | some r1 => _) = _
    rw [e1]
    show (match f r1 with | .nx r2 => forL t f ds r2 | .ct r2 => forL t f ds r2 | .bk r2 => .nx r2 | o => o) = _
    rw [e2]
    exact e3
theorem lt_fuel {n : Nat} (h : n < 1000000000) : n < fuel := Nat.lt_of_lt_of_le h fuel_ge
/-! ### figures in twos -/
def bi (bs : List Bool) : List Int := bs.map fun b => (b.toNat : Int)
def wb (bs : List Bool) : Nat := bs.foldl (fun n b => 2 * n + b.toNat) 0
def figs (n : Nat) : List Bool := if h : n = 0 then [] else (n % 2 == 1) :: figs (n / 2)
termination_by n
decreasing_by omega
theorem figs_zero : figs 0 = [] := by rw [figs]; rfl
theorem figs_pos {n : Nat} (h : n ≠ 0) : figs n = (n % 2 == 1) :: figs (n / 2) := by rw [figs]; simp [h]
theorem figs_len {k : Nat} : ∀ {n : Nat}, n < 2 ^ k → (figs n).length ≤ k := by
  induction k with
  | zero => intro n h; have : n = 0 := by simpa using h
            subst this; rw [figs_zero]; simp
  | succ k ih =>
    intro n h
    by_cases h0 : n = 0
    · subst h0; rw [figs_zero]; simp
    · rw [figs_pos h0]
      have := ih (n := n / 2) (by rw [Nat.pow_succ] at h; omega)
      simp; omega
theorem wb_snoc (bs : List Bool) (b : Bool) : wb (bs ++ [b]) = 2 * wb bs + b.toNat := by unfold wb; rw [List.foldl_append]; rfl
theorem snoc_ind {α : Type} {P : List α → Prop} (h0 : P []) (h1 : ∀ l a, P l → P (l ++ [a])) (l : List α) : P l := by
  have z : ∀ m : List α, P m.reverse := fun m => by
    induction m with
    | nil => exact h0
    | cons a m ih => rw [List.reverse_cons]; exact h1 _ _ ih
  have := z l.reverse
  rwa [List.reverse_reverse] at this
theorem wb_lt : ∀ bs : List Bool, wb bs < 2 ^ bs.length := by
  refine snoc_ind (by decide) fun bs b ih => ?_
  · rw [wb_snoc, List.length_append, List.length_singleton, Nat.pow_succ]
    have : b.toNat ≤ 1 := by cases b <;> decide
    omega
/-- the figures of what bits write: these without the noughts ahead -/
theorem figs_wb : ∀ bs : List Bool, ∃ z, bs = List.replicate z false ++ (figs (wb bs)).reverse := by
  refine snoc_ind ⟨0, by show [] = [] ++ (figs 0).reverse; rw [figs_zero]; rfl⟩ fun bs b ih => ?_
  · obtain ⟨z, e⟩ := ih
    rw [wb_snoc]
    by_cases h : 2 * wb bs + b.toNat = 0
    · have hb : b = false := by cases b with
        | false => rfl
        | true => simp at h
      have hw : wb bs = 0 := by omega
      rw [h, figs_zero]
      rw [hw, figs_zero] at e
      refine ⟨z + 1, ?_⟩
      rw [e, hb]
      simp [List.replicate_succ']
    · refine ⟨z, ?_⟩
      have h1 : (2 * wb bs + b.toNat) / 2 = wb bs := by
        have : b.toNat ≤ 1 := by cases b <;> decide
        omega
      have h2 : ((2 * wb bs + b.toNat) % 2 == 1) = b := by
        cases b with
        | false => simp
        | true =>
          have : (2 * wb bs + 1) % 2 = 1 := by omega
          simp [this]
      rw [figs_pos h, h1, h2, List.reverse_cons, ← List.append_assoc, ← e]
/-- the last figure is a one -/
theorem figs_last : ∀ (k n : Nat), n ≤ k → n ≠ 0 → ∃ l, figs n = l ++ [true]
  | 0, n, h, h0 => absurd (Nat.le_zero.mp h) h0
  | k + 1, n, h, h0 => by
    by_cases h1 : n / 2 = 0
    · have : n = 1 := by omega
      subst this
      exact ⟨[], by rw [figs_pos h0]; show (1 % 2 == 1) :: figs 0 = _; rw [figs_zero]; rfl⟩
    · obtain ⟨l, e⟩ := figs_last k (n / 2) (by omega) h1
      exact ⟨(n % 2 == 1) :: l, by rw [figs_pos h0, e]; rfl⟩
end VL
namespace VL
open PySem PySem.Spec PyProof.Rows L2
@[simp] theorem q_rev {fa : Ev} {r : Rho} : cRev fa r = (fa r).bd gRev := rfl
@[simp] theorem q_gRev {x : R} {r : Rho} : gRev x r = match opd r x with
  | some (.node .lst _ xs) => .ok (.val (.node .lst true (frzs xs).reverse)) (touch r x)
  | some (.node .rd _ xs) => .ok (.val (.node .lst true (frzs xs).reverse)) (touch r x)
  | _ => .bad := rfl
@[simp] theorem q_sl {fa : Ev} {lo hi : Option Ev} {r : Rho} : cSl fa lo hi r = (fa r).bd fun x r1 => part lo r1 fun l r2 => part hi r2 fun h r3 => gSl x l h r3 := rfl
@[simp] theorem q_part0 {r : Rho} {k : Option Int → Rho → EO} : part none r k = k none r := rfl
@[simp] theorem q_part1 {f : Ev} {r : Rho} {k : Option Int → Rho → EO} : part (some f) r k = (f r).bd fun y r' => match y with
    | .val (.int i) => k (some i) r'
    | _ => .bad := rfl
@[simp] theorem q_gSl {x : R} {lo hi : Option Int} {r : Rho} : gSl x lo hi r = match opd r x with
  | some (.node .lst _ xs) => .ok (.val (.node .lst true (cutD (frzs xs) lo hi))) (touch r x)
  | some (.node .rd _ xs) => .ok (.val (.node .lst true (cutD (frzs xs) lo hi))) (touch r x)
  | some (.node .tup _ xs) => .ok (.val (.node .tup false (cutD (frzs xs) lo hi))) (touch r x)
  | _ => .bad := rfl
@[simp] theorem q_idx {i : Nat} {fa : Ev} {r : Rho} : cIdx i fa r = if isLst r i = true then cBin gIndex (cVar i) fa r else .bad := rfl
@[simp] theorem q_gIndex {x y : R} {r : Rho} : gIndex x y r = match opd r x, opd r y with
  | some (.node .lst _ ds), some d => if (flatD d && ds.all flatD) = true then (match idxD ds d with
    | some j => .ok (.val (.int (j : Nat))) r
    | none => .bad) else .bad
  | _, _ => .bad := rfl
@[simp] theorem q_frzB {k : Kd} {o : Bool} {xs : List D} : frzB (.node k o xs) = .node k o (frzs xs) := rfl
@[simp] theorem q_try {tb : Nat → Option Bool} {i : Option Nat} {fb fs : Sv} {r : Rho} : cTry tb i fb fs r = match fb r with
  | .exc c r1 => (match tb c with
    | some true => inClause i (fs (putE i c r1))
    | some false => .exc c r1
    | none => .bad)
  | o => o := rfl
@[simp] theorem q_putE {j c : Nat} {r : Rho} : putE (some j) c r = r.set j (some (.exc c)) := rfl
@[simp] theorem q_putE0 {c : Nat} {r : Rho} : putE none c r = r := rfl
@[simp] theorem q_inC {j : Nat} {r : Rho} : inClause (some j) (.nx r) = .nx (r.set j none) := rfl
@[simp] theorem q_inC0 {r : Rho} : inClause none (.nx r) = .nx r := rfl
@[simp] theorem q_inC2 {j : Option Nat} {x : R} {r : Rho} : inClause j (.rt x r) = .rt x r := rfl
theorem frz_ints (ns : List Int) (o : Bool) : frz (.node .lst o (ns.map .int)) = .node .lst false (ns.map .int) := by
  show D.node .lst false (frzs (ns.map D.int)) = _
  rw [frzs_ints]
end VL

namespace VL
open PySem PySem.Spec PyProof.Rows L2
theorem q_addL {x y : R} {r : Rho} {o o' : Bool} {xs ys : List D} (h1 : opd r x = some (.node .lst o xs)) (h2 : opd r y = some (.node .lst o' ys)) (h : xs.length + ys.length ≤ 16777216) : gAdd x y r = .ok (.val (.node .lst true (frzs xs ++ frzs ys))) (touch (touch r y) x) := by
  rw [q_add, h1, h2]
  show (if xs.length + ys.length ≤ 16777216 then _ else _) = _
  rw [if_pos h]
theorem q_addLI {r : Rho} {o o' : Bool} (xs ys : List Int) (h : xs.length + ys.length ≤ 16777216) : gAdd (.val (.node .lst o (xs.map .int))) (.val (.node .lst o' (ys.map .int))) r = .ok (.val (.node .lst true ((xs ++ ys).map .int))) r := by
  rw [q_addL (o := o) (o' := o') (xs := xs.map .int) (ys := ys.map .int) rfl rfl (by rw [List.length_map, List.length_map]; exact h), frzs_ints, frzs_ints, List.map_append]
  rfl
theorem q_mulLI {r : Rho} {o : Bool} (xs : List Int) {k : Int} (h : 0 ≤ k ∧ k < 9000000000000000000 ∧ xs.length * k.toNat ≤ 16777216) : gMul (.val (.node .lst o (xs.map .int))) (.val (.int k)) r = .ok (.val (.node .lst true ((List.replicate k.toNat xs).flatten.map .int))) r := by
  rw [q_mulL (by rw [List.length_map]; exact h), frzs_ints, List.map_flatten, List.map_replicate]
end VL

namespace VL
open PySem PySem.Spec PyProof.Rows L2
theorem forL_cons {t : Tg} {f : Sv} {d : D} {ds : List D} {r r1 r2 : Rho} (h1 : tgt t d r = some r1) (h2 : f r1 = .nx r2) : forL t f (d :: ds) r = forL t f ds r2 := by
  show (match tgt t d r with | none => _ | some r1 => _) = _
  rw [h1]
  show (match f r1 with | .nx r2 => forL t f ds r2 | .ct r2 => forL t f ds r2 | .bk r2 => .nx r2 | o => o) = _
  rw [h2]
end VL

namespace VL
open PySem PySem.Spec PyProof.Rows L2
section
variable {X : Cx} {G : GX} {C : Fc} {W : WX} {ow ow' : Ow} {r : Rho} {T T1 T2 : List (D × V)} {s : L2.St} {H H' : Hp} {fa fb fc : Ev} {fs : Av}
/-- a name's own list gets other items, shared ones -/
theorem StW.relist {i n : Nat} {o' : Bool} {ds ds' : List D} {a : Addr} {vs' : List V} {l : VL.Loc} (S : StW G C ow r T s H) (q : r[i]? = some (some (.node .lst true ds))) (ha : s[i]? = some (some (.ref a))) (e : frzs ds' = ds') (h : Reps G ow H ds' l n vs') :
    StW G C ow (r.set i (some (.node .lst true ds'))) T s (upd H a (.lst vs')) := by
  obtain ⟨v, z1, a', vs, ev, z2, z3, z4⟩ := S.sl i _ q
  rw [ha] at z1
  cases z1
  cases ev
  have oa : ow a = some ⟨.sl i, []⟩ := by simpa using z3.cases.resolve_left (fun z => nomatch z)
  have exn : ∀ (b : Addr) (o : HO), H b = some o → ¬ OwnO (some o) → upd H a (.lst vs') b = some o := fun b o z n => by
    rw [upd_ne (fun e => by have m := S.mu a _ oa; rw [e] at z; rw [z] at m; exact n m)]; exact z
  refine StW.write (k := .lst) (k' := .lst) (ow' := ow) (fun z => nomatch z) S q ha trivial (vs' := vs') upd_same (fun b n => n) (fun b j p n _ => n) (fun b p n => n) (fun b l y => ⟨l, y, id⟩) (fun b l y n l' y2 => by rw [y] at y2; cases y2; exact n) oa ?_ (fun j d' w y => ?_)
  · exact Reps.moveF _ e (fun b o z n => ⟨by rw [upd_ne (fun e => by subst e; rw [oa] at n; cases n)]; exact z, n⟩) (fun b o z n => exn b o z n) h
  · exact Rep.mono (l := ⟨.tm j, []⟩) d' (fun b o z w => by rw [upd_ne (apart oa w (.inl (fun z => nomatch z)))]; exact z) (fun b o z n => exn b o z n) (fun b o _ n => n) (fun b o p _ n => n) (S.tm j d' w y)
theorem touch_lst {i : Nat} {ds : List D} (q : r[i]? = some (some (.node .lst true ds))) : touch r (.loc i) = r.set i (some (.node .lst true (frzs ds))) := by
  show (match r[i]? with | some (some d) => r.set i (some (frzB d)) | _ => r) = _
  rw [q]; rfl
/-- a name's own list, its items shared from now on -/
theorem StW.mine {i : Nat} {ds : List D} (S : StW G C ow r T s H) (q : r[i]? = some (some (.node .lst true ds))) : ∃ ow' a vs, s[i]? = some (some (.ref a)) ∧ H a = some (.lst vs) ∧ StW G C ow' (r.set i (some (.node .lst true (frzs ds)))) T s H ∧ (r.set i (some (.node .lst true (frzs ds))))[i]? = some (some (.node .lst true (frzs ds))) ∧ (∀ l, Reps G ow' H (frzs ds) l 0 vs) ∧ (∀ b, ow b = none → ow' b = none) ∧ ow' a = some ⟨.sl i, []⟩ := by
  obtain ⟨v, z1, z⟩ := S.sl i _ q
  have e1 : opd r (.loc i) = some (.node .lst true ds) := by
    show (match r[i]? with | some (some d) => some d | _ => none) = _
    rw [q]
  obtain ⟨ow', a, vs, S', ev, h1, rx, hn⟩ := StW.parts (T := T) (x := .loc i) (v := v) (by simpa [pushR] using S) z1 e1
  subst ev
  rw [touch_lst q] at S'
  have q' : (r.set i (some (.node .lst true (frzs ds))))[i]? = some (some (.node .lst true (frzs ds))) := List.getElem?_set_self (List.getElem?_eq_some_iff.mp q).1
  refine ⟨ow', a, vs, z1, h1, S', q', rx, hn, ?_⟩
  obtain ⟨v2, w1, a2, vs2, ev, w2, w3, _⟩ := S'.sl i _ q'
  rw [z1] at w1
  cases w1
  cases ev
  simpa using w3.cases.resolve_left (fun z => nomatch z)
/-- a shared thing goes with it -/
theorem keepF {a : Addr} {b : VL.Loc} {ho : HO} {d : D} {l l' : VL.Loc} {v : V} (S : StW G C ow r T s H) (oa : ow a = some b) (e : frz d = d) (h : Rep G ow H d l v) : Rep G ow (upd H a ho) d l' v :=
  Rep.moveF d e (fun b' o z n => ⟨by rw [upd_ne (fun e => by subst e; rw [oa] at n; cases n)]; exact z, n⟩) (fun b' o z n => by
    rw [upd_ne (fun e => by have m := S.mu a _ oa; rw [e] at z; rw [z] at m; exact n m)]; exact z) h
def cPop (i : Nat) : Ev := fun r => match r[i]? with
  | some (some (.node .lst true ds)) => (match (frzs ds)[ds.length - 1]? with
    | some d => .ok (.val d) ((r.set i (some (.node .lst true (frzs ds)))).set i (some (.node .lst true (frzs ds).dropLast)))
    | none => .bad)
  | _ => .bad
theorem frzs_dropLast (ds : List D) : frzs (frzs ds).dropLast = (frzs ds).dropLast := by
  rw [frzs_map, List.map_dropLast, ← frzs_map, frzs_frzs]
theorem ve_pop {i : Nat} {x : Str} {p apos cpos : Pos} (hN : X.N[i]? = some x) (hv : Vis X.env.scope x) (hd : (x == ("__debug__" : Str)) = false) (hcd : (x == ("__classdict__" : Str)) = false)
    (hbase : attributeBase (.Name x p) "pop" X.env (eval (.Name x p) X.env) = eval (.Name x p) X.env := by rfl) (hline : (apos.endLine == cpos.line) = true := by rfl) :
    VE X G C W (.Call (.Attribute (.Name x p) "pop" apos) [] [] cpos) (cPop i) := by
  refine PE.imp (pe_bm0 PySem.F.plainAttrs_list PySem.F.slot_list_pop PySem.F.type_list_pop mt_pop (pe_var hN hv hd hcd) hbase hline) fun s H Q h => ?_
  obtain ⟨r, T, S, g⟩ := h
  have g : Goes G C W T s Q (cPop i r) := g
  unfold cPop at g
  split at g
  · rename_i ds q
    split at g
    · rename_i d hd'
      obtain ⟨ow, S⟩ := S
      obtain ⟨ow', a, vs, z1, hA, S', q', rx, _, oa⟩ := S.mine q
      have rl := (rx ⟨.fo, []⟩).length
      rw [frzs_length] at rl
      obtain ⟨y, y1, y2⟩ := (rx ⟨.fo, []⟩).get _ d hd'
      have e' : frz d = d := by
        have := congrArg (·[ds.length - 1]?) (frzs_frzs ds)
        simp only [frzs_map, List.getElem?_map] at this
        have h2 : (frzs ds)[ds.length - 1]? = some d := hd'
        rw [frzs_map, List.getElem?_map] at h2
        cases e3 : ds[ds.length - 1]? with
        | none => rw [e3] at h2; cases h2
        | some d0 =>
          rw [e3] at h2
          cases h2
          exact frz_frz d0
      have hl2 : Reps G ow' H (frzs ds).dropLast ⟨.fo, []⟩ 0 vs.dropLast := by
        refine Reps.of_get (by rw [List.length_dropLast, List.length_dropLast, frzs_length, rl]) fun j dj vj q1 q2 => ?_
        have hj : j < (frzs ds).length - 1 := by
          have := (List.getElem?_eq_some_iff.mp q1).1
          simpa using this
        rw [List.getElem?_dropLast, if_pos hj] at q1
        rw [List.getElem?_dropLast, if_pos (by rw [frzs_length] at hj; omega)] at q2
        obtain ⟨v', w1, w2⟩ := (rx ⟨.fo, []⟩).get j dj q1
        rw [q2] at w1
        cases w1
        exact w2
      have S2 := S'.relist (o' := true) q' z1 (frzs_dropLast ds) hl2
      exact ⟨_, z1, .inl ⟨rfl, vs, SqL.of hA⟩, a, vs, y, rfl, rfl, hA, by rw [← rl]; exact y1, g _ _ ⟨⟨ow', S2.push (keepF S' oa e' y2)⟩, trivial⟩⟩
    · exact g.elim
  · exact g.elim
def extK (i : Nat) (x : R) (r1 : Rho) : EO := match opd r1 x with
  | some (.node .lst _ es) => (match (touch r1 x)[i]? with
    | some (some (.node .lst true ds)) => if ds.length + es.length ≤ 16777216 then .ok (.val .non) (((touch r1 x).set i (some (.node .lst true (frzs ds)))).set i (some (.node .lst true (frzs ds ++ frzs es)))) else .bad
    | _ => .bad)
  | _ => .bad
/-- xs.extend(e) -/
def cExt (i : Nat) (fa : Ev) : Ev := fun r => if isLst r i = true then (fa r).bd (extK i) else .bad
theorem ve_ext {i : Nat} {x : Str} {e : Expr} {p apos cpos : Pos} (hN : X.N[i]? = some x) (hv : Vis X.env.scope x) (hd : (x == ("__debug__" : Str)) = false) (hcd : (x == ("__classdict__" : Str)) = false) (ha : VE X G C W e fa)
    (hbase : attributeBase (.Name x p) "extend" X.env (eval (.Name x p) X.env) = eval (.Name x p) X.env := by rfl)
    (hfew : ((backTo cpos (starEach [e] X.env)).all (fun x => !x.1) && (backToKw cpos (keywordEach [] X.env)).all (fun x => x.1.isSome)
      && decide ([e].length + ([] : List Keyword).length + (if ([] : List Keyword).isEmpty then 0 else 1) < 30)) = true := by rfl)
    (hline : (apos.endLine == cpos.line) = true := by rfl) (hs : starEach [e] X.env = (false, eval e X.env) :: starEach [] X.env := by rfl) (hplain : (backTo cpos (starEach [] X.env)).any (·.1) = false := by rfl) :
    VE X G C W (.Call (.Attribute (.Name x p) "extend" apos) [e] [] cpos) (cExt i fa) := by
  refine PE.imp (pe_bm PySem.F.plainAttrs_list PySem.F.slot_list_extend PySem.F.type_list_extend mt_extend (pe_var hN hv hd hcd) (pa_cons ha pa_nil hs) hbase hfew hline hs hplain) fun s H Q h => ?_
  obtain ⟨r, T, S, g⟩ := h
  have g : Goes G C W T s Q (cExt i fa r) := g
  unfold cExt at g
  split at g
  · rename_i hi
    obtain ⟨o, ds, hr⟩ := isLst_at hi
    obtain ⟨ow, S0⟩ := S
    obtain ⟨v, v1, a, vs, ev, v2, v3, v4⟩ := S0.sl i _ hr
    subst ev
    refine ⟨_, v1, .inl ⟨rfl, vs, SqL.of v2⟩, ?_⟩
    refine one (fa := fa) ⟨ow, S0⟩ g fun x v' r1 H1 P g1 => ?_
    unfold extK at g1
    split at g1
    · rename_i o2 es e1
      split at g1
      · rename_i ds2 q
        split at g1
        · rename_i hz
          obtain ⟨ow1, S1⟩ := P.1
          obtain ⟨ow2, b, zs, S2, ev, hB, rxe, hn⟩ := S1.parts P.2 e1
          subst ev
          obtain ⟨ow3, a', vs', z1, hA, S3, q3, rx, hn3, oa⟩ := S2.mine q
          rw [v1] at z1
          cases z1
          have l1 := (rx ⟨.fo, []⟩).length
          have l2 := (rxe ⟨.fo, []⟩).length
          rw [frzs_length] at l1 l2
          have re : Reps G ow3 H1 (frzs es) ⟨.fo, []⟩ 0 zs := Reps.moveF _ (frzs_frzs es) (fun b o z n => ⟨z, hn3 b n⟩) (fun _ _ z _ => z) (rxe ⟨.fo, []⟩)
          have S4 := S3.relist (o' := true) q3 v1 (by rw [frzs_append, frzs_frzs, frzs_frzs]) (Reps.app (frzs_frzs ds2) (frzs_frzs es) (rx ⟨.fo, []⟩) re)
          exact ⟨a, b, vs', zs, rfl, rfl, hA, hB, by rw [sizeLine_eq, ← l1, ← l2]; exact hz, g1 _ _ ⟨StOk.pushN ⟨_, S4⟩, trivial⟩⟩
        · exact g1.elim
      · exact g1.elim
    · exact g1.elim
  · exact g.elim
/-- xs.clear() -/
def cClear (i : Nat) : Ev := fun r => match r[i]? with
  | some (some (.node .lst true ds)) => .ok (.val .non) ((r.set i (some (.node .lst true (frzs ds)))).set i (some (.node .lst true [])))
  | _ => .bad
theorem ve_clear {i : Nat} {x : Str} {p apos cpos : Pos} (hN : X.N[i]? = some x) (hv : Vis X.env.scope x) (hd : (x == ("__debug__" : Str)) = false) (hcd : (x == ("__classdict__" : Str)) = false)
    (hbase : attributeBase (.Name x p) "clear" X.env (eval (.Name x p) X.env) = eval (.Name x p) X.env := by rfl) (hline : (apos.endLine == cpos.line) = true := by rfl) :
    VE X G C W (.Call (.Attribute (.Name x p) "clear" apos) [] [] cpos) (cClear i) := by
  refine PE.imp (pe_bm0 PySem.F.plainAttrs_list PySem.F.slot_list_clear PySem.F.type_list_clear mt_clear (pe_var hN hv hd hcd) hbase hline) fun s H Q h => ?_
  obtain ⟨r, T, S, g⟩ := h
  have g : Goes G C W T s Q (cClear i r) := g
  unfold cClear at g
  split at g
  · rename_i ds q
    obtain ⟨ow, S⟩ := S
    obtain ⟨ow', a, vs, z1, hA, S', q', rx, _, oa⟩ := S.mine q
    have S2 := S'.relist (o' := true) (ds' := []) (vs' := []) (l := ⟨.fo, []⟩) (n := 0) q' z1 rfl rfl
    exact ⟨_, z1, .inl ⟨rfl, vs, SqL.of hA⟩, a, vs, rfl, rfl, hA, g _ _ ⟨StOk.pushN ⟨_, S2⟩, trivial⟩⟩
  · exact g.elim
end
end VL

namespace VL
open PySem PySem.Spec PyProof.Rows L2
/-! ### a law's script with its bits -/
def spLawB (K : PySem.W.Frag) : Sp := fun vs H Q _ => ∃ (a : Addr) (ns : List Int), vs = [.ref a] ∧ Holds ⟨fun _ => a, K⟩ H a .rd (ns.map V.int) ∧ ns.length ≤ 63 ∧ (∀ z ∈ ns, Builtin.Int.intBits z ≤ 1048576) ∧ ∀ H', Q (.bl true) H'
theorem law_impB {K : PySem.W.Frag} {G : GX} (hG : G.K = K) {F : List D → FO} (h : ∀ ns : List Int, ns.length ≤ 63 → (∀ z ∈ ns, Builtin.Int.intBits z ≤ 1048576) → F [script ns] = .ok (.bl true)) {vs : List V} {H : Hp} {Q : VK} {E : XK} (q : spLawB K vs H Q E) : spV G 1 F vs H Q E := by
  obtain ⟨a, ns, rfl, ha, hl, hb, hq⟩ := q
  refine ⟨[script ns], fun _ => none, rfl, ?_, (fun a l z => nomatch z), ?_, ?_⟩
  · show [D.node .rd false (frzs (ns.map D.int))] = _
    rw [frzs_ints]; rfl
  · refine ⟨_, _, rfl, ⟨a, ns.map V.int, rfl, ?_, trivial, reps_ints ns _ _⟩, rfl⟩
    rcases ha with z | z
    · exact .inl z
    · exact .inr (by rw [hG]; exact z)
  · rw [h ns hl hb]
    intro v H' _ b
    obtain ⟨ow1, b, _, hr, _⟩ := b
    have e : v = .bl true := hr
    subst e
    exact hq H'
theorem law_inB {K : PySem.W.Frag} {H : Hp} {a : Addr} {ns : List Int} (hl : ns.length ≤ 63) (hb : ∀ z ∈ ns, Builtin.Int.intBits z ≤ 1048576) (hO : Only H) (hS : SqL K H a (ns.map V.int)) : spLawB K [.ref a] H (fun v _ => v = .bl true) fun _ _ _ => False := by
  refine ⟨a, ns, rfl, ?_, hl, hb, fun _ => rfl⟩
  rcases hS with z | z
  · rcases hO a with q | ⟨o, xs, q⟩
    · rcases z with z | ⟨o, z⟩
      · rw [q] at z; cases z
      · exact .inl ⟨o, z⟩
    · rcases z with z | ⟨o, z⟩
      · rw [q] at z; cases z
      · exact .inl ⟨o, z⟩
  · exact .inr z
/-- the law row's walk, the numbers' bits told -/
theorem walk_lawB {k : Nat} {l : PySem.W.OpenLaw} {q : Program} {loose : List Str} {XP : (Str → Option Value) → Heap → Prop} {YP : World → Heap → Prop} {d : DefRec} {K : Params → PySem.W.Frag} (hn : l.most = some 63) (hdf : d.params.defaults = []) (hr : Room k callerA)
    (hY : ∀ (w : World) (h : Heap), YP w h → (K w.params).In h)
    (F : ∀ (w : World) (mg : Str → Option Value) (fa : Addr) (h : Heap), (K w.params).In h → h.Ns mainGlobals mg → mg d.name = some (.ref fa) →
      ∃ fd : FuncData, (∀ (s : Shared) (u : Value), BindsTo s fd ⟨[u], []⟩ [("script", u)]) ∧ ∀ base : Heap, (K w.params).In base → base.Ns mainGlobals mg → FnOk l.prog w (K w.params) mg base (L2.CX l.prog w) k fa fd ["script"] (VL.spLawB (K w.params))) :
    PySem.W.WalkO q loose XP YP l.row.toRowW d [] (fun f vs => PySem.call f vs) :=
  L2.walk_ofB (n := 63) (k := k) (x := "script") (CX := fun w => L2.CX l.prog w) (sp := fun w => VL.spLawB (K w.params)) hn (by decide) hdf hr hY F (fun w H a ns hl hb hO hS => law_inB hl hb hO hS) fun w H s e s' z => no_exc z
end VL
namespace VL
open PySem PySem.Spec PyProof.Rows L2
/-! ### == of plain things -/
def FP (k : Nat) (d : D) : Prop := (toPy d).canLay0 = true ∧ (toPy d).depth ≤ k
theorem FP.mono {k m : Nat} {d : D} (h : FP k d) (hm : k ≤ m) : FP m d := ⟨h.1, Nat.le_trans h.2 hm⟩
theorem fp_int (n : Int) (k : Nat) : FP k (.int n) := ⟨rfl, Nat.zero_le _⟩
theorem fp_bl (b : Bool) (k : Nat) : FP k (.bl b) := ⟨rfl, Nat.zero_le _⟩
theorem fp_non (k : Nat) : FP k .non := ⟨rfl, Nat.zero_le _⟩
theorem fps {k : Nat} : ∀ {xs : List D}, (∀ x ∈ xs, FP k x) → PyData.canLayAll0 (toPys xs) = true ∧ PyData.depthAll (toPys xs) ≤ k
  | [], _ => ⟨rfl, Nat.zero_le _⟩
  | x :: xs, h => by
    obtain ⟨h1, h2⟩ := fps (fun y hy => h y (List.mem_cons_of_mem _ hy))
    obtain ⟨h3, h4⟩ := h x List.mem_cons_self
    constructor
    · show ((toPy x).canLay0 && PyData.canLayAll0 (toPys xs)) = true
      rw [h1, h3]; rfl
    · show max (toPy x).depth (PyData.depthAll (toPys xs)) ≤ k
      exact Nat.max_le.mpr ⟨h4, h2⟩
theorem fp_lst {k : Nat} {o : Bool} {xs : List D} (h : ∀ x ∈ xs, FP k x) : FP (k + 1) (.node .lst o xs) := ⟨(fps h).1, Nat.succ_le_succ (fps h).2⟩
theorem fp_tup {k : Nat} {o : Bool} {xs : List D} (h : ∀ x ∈ xs, FP k x) : FP (k + 1) (.node .tup o xs) := ⟨(fps h).1, Nat.succ_le_succ (fps h).2⟩
theorem eqOk_fp {k : Nat} {d : D} (h : FP k d) (hk : k ≤ 64) : eqOk d = true := by
  show ((toPy d).canLay0 && decide ((toPy d).depth ≤ 64)) = true
  rw [h.1, decide_eq_true (Nat.le_trans h.2 hk)]; rfl
mutual
theorem eqv_refl : ∀ d : PyData, d.canLay0 = true → PyData.eqv d d = true
  | .none, _ => rfl
  | .bool b, _ => by cases b <;> rfl
  | .int i, _ => by show (i == i) = true; simp
  | .str x, _ => by show (x == x) = true; simp
  | .list xs, h => eqvAll_refl xs (by simpa [PyData.canLay0] using h)
  | .tuple xs, h => eqvAll_refl xs (by simpa [PyData.canLay0] using h)
  | .dict _, h => by simp [PyData.canLay0] at h
theorem eqvAll_refl : ∀ ds : List PyData, PyData.canLayAll0 ds = true → PyData.eqvAll ds ds = true
  | [], _ => rfl
  | d :: ds, h => by
    have h' : d.canLay0 = true ∧ PyData.canLayAll0 ds = true := by simpa [PyData.canLayAll0] using h
    show (PyData.eqv d d && PyData.eqvAll ds ds) = true
    rw [eqv_refl d h'.1, eqvAll_refl ds h'.2]; rfl
end
/-- alike but for who owns it -/
theorem eqD_same {k : Nat} {d e : D} (h : FP k d) (hk : k ≤ 64) (he : toPy d = toPy e) : eqD d e = some (.bl true) := by
  have h2 : FP k e := ⟨he ▸ h.1, he ▸ h.2⟩
  unfold eqD
  rw [eqOk_fp h hk, eqOk_fp h2 hk, ← he, eqv_refl _ h.1]; rfl
theorem neD_same {k : Nat} {d e : D} (h : FP k d) (hk : k ≤ 64) (he : toPy d = toPy e) : neD d e = some (.bl false) := by
  have h2 : FP k e := ⟨he ▸ h.1, he ▸ h.2⟩
  unfold neD
  rw [eqOk_fp h hk, eqOk_fp h2 hk, ← he, eqv_refl _ h.1]; rfl
/-- no list with something in it is the empty one -/
theorem ne_nil {k : Nat} {o o' : Bool} {xs : List D} (h : ∀ x ∈ xs, FP k x) (hk : k < 64) : neD (.node .lst o xs) (.node .lst o' []) = some (.bl (!xs.isEmpty)) := by
  unfold neD
  have h2 : eqOk (.node .lst o' []) = true := rfl
  rw [eqOk_fp (fp_lst h) hk, h2]
  cases xs with
  | nil => rfl
  | cons x xs => rfl
theorem eq_nil {k : Nat} {o o' : Bool} {xs : List D} (h : ∀ x ∈ xs, FP k x) (hk : k < 64) : eqD (.node .lst o xs) (.node .lst o' []) = some (.bl xs.isEmpty) := by
  unfold eqD
  have h2 : eqOk (.node .lst o' []) = true := rfl
  rw [eqOk_fp (fp_lst h) hk, h2]
  cases xs with
  | nil => rfl
  | cons x xs => rfl
/-! ### two numbers in a tuple -/
def pr (p : Int × Int) : D := .node .tup false [.int p.1, .int p.2]
@[simp] theorem frz_pr (p : Int × Int) : frz (pr p) = pr p := rfl
@[simp] theorem frzs_pr (ps : List (Int × Int)) : frzs (ps.map pr) = ps.map pr := by
  rw [frzs_map, List.map_map]
  exact List.map_congr_left fun _ _ => rfl
@[simp] theorem atom_pr (p : Int × Int) : atom (pr p) = false := rfl
theorem fp_pr (p : Int × Int) (k : Nat) (hk : 1 ≤ k) : FP k (pr p) := ⟨rfl, hk⟩
theorem fp_prs (ps : List (Int × Int)) : ∀ x ∈ ps.map pr, FP 1 x := fun x hx => by
  obtain ⟨p, _, rfl⟩ := List.mem_map.mp hx
  exact fp_pr p 1 (Nat.le_refl 1)
theorem noLs_prs : ∀ ps : List (Int × Int), noLs (ps.map pr) = true
  | [] => rfl
  | p :: ps => by show (true && noLs (ps.map pr)) = true; rw [noLs_prs ps]; rfl
theorem noL_prs (ps : List (Int × Int)) : noL (.node .lst true (ps.map pr)) = true := by
  show ((true || false) && noLs (ps.map pr)) = true
  rw [noLs_prs]; rfl
theorem eqv_prs : ∀ xs ys : List (Int × Int), PyData.eqvAll (toPys (xs.map pr)) (toPys (ys.map pr)) = decide (xs = ys)
  | [], [] => rfl
  | [], y :: ys => rfl
  | x :: xs, [] => rfl
  | x :: xs, y :: ys => by
    show (((x.1 == y.1) && ((x.2 == y.2) && true)) && PyData.eqvAll (toPys (xs.map pr)) (toPys (ys.map pr))) = _
    rw [eqv_prs xs ys]
    obtain ⟨a, b⟩ := x
    obtain ⟨c, d⟩ := y
    by_cases h : a = c <;> by_cases h2 : b = d <;> by_cases h3 : xs = ys <;> simp [h, h2, h3]
theorem ne_prs {o o' : Bool} (xs ys : List (Int × Int)) : neD (.node .lst o (xs.map pr)) (.node .lst o' (ys.map pr)) = some (.bl (!decide (xs = ys))) := by
  unfold neD
  rw [eqOk_fp (fp_lst (fp_prs xs)) (by decide), eqOk_fp (fp_lst (fp_prs ys)) (by decide)]
  show some (D.bl (!PyData.eqvAll (toPys (xs.map pr)) (toPys (ys.map pr)))) = _
  rw [eqv_prs]
theorem eq_prs {o o' : Bool} (xs ys : List (Int × Int)) : eqD (.node .lst o (xs.map pr)) (.node .lst o' (ys.map pr)) = some (.bl (decide (xs = ys))) := by
  unfold eqD
  rw [eqOk_fp (fp_lst (fp_prs xs)) (by decide), eqOk_fp (fp_lst (fp_prs ys)) (by decide)]
  show some (D.bl (PyData.eqvAll (toPys (xs.map pr)) (toPys (ys.map pr)))) = _
  rw [eqv_prs]
/-! ### steps -/
theorem seq_nx {f g : Sv} {r r1 : Rho} (h : f r = .nx r1) : cSeq f g r = g r1 := by
  rw [q_seq, h]; rfl
theorem seq_rt {f g : Sv} {r r1 : Rho} {x : R} (h : f r = .rt x r1) : cSeq f g r = .rt x r1 := by
  rw [q_seq, h]; rfl
theorem seq_exc {f g : Sv} {r r1 : Rho} {c : Nat} (h : f r = .exc c r1) : cSeq f g r = .exc c r1 := by
  rw [q_seq, h]; rfl
theorem forL_rt {t : Tg} {f : Sv} {d : D} {ds : List D} {r r1 r2 : Rho} {x : R} (h1 : tgt t d r = some r1) (h2 : f r1 = .rt x r2) : forL t f (d :: ds) r = .rt x r2 := by
  show (match tgt t d r with | none => _ | some r1 => _) = _
  rw [h1]
  show (match f r1 with | .nx r2 => forL t f ds r2 | .ct r2 => forL t f ds r2 | .bk r2 => .nx r2 | o => o) = _
  rw [h2]
theorem forL_exc {t : Tg} {f : Sv} {d : D} {ds : List D} {r r1 r2 : Rho} {c : Nat} (h1 : tgt t d r = some r1) (h2 : f r1 = .exc c r2) : forL t f (d :: ds) r = .exc c r2 := by
  show (match tgt t d r with | none => _ | some r1 => _) = _
  rw [h1]
  show (match f r1 with | .nx r2 => forL t f ds r2 | .ct r2 => forL t f ds r2 | .bk r2 => .nx r2 | o => o) = _
  rw [h2]
theorem set_same {r : Rho} {i : Nat} {d : D} (h : r[i]? = some (some d)) : r.set i (some d) = r := by
  refine List.ext_getElem? fun j => ?_
  by_cases hj : i = j
  · subst hj
    rw [List.getElem?_set_self (List.getElem?_eq_some_iff.mp h).1, h]
  · rw [List.getElem?_set_ne hj]
theorem opd_loc' {r : Rho} {i : Nat} {d : D} (h : r[i]? = some (some d)) : opd r (.loc i) = some d := by
  show (match r[i]? with | some (some d) => some d | _ => none) = _
  rw [h]
theorem touch_fz {r : Rho} {i : Nat} {k : Kd} {o : Bool} {ys : List D} (h : r[i]? = some (some (.node k o ys))) (f : frzs ys = ys) : touch r (.loc i) = r := by
  show (match r[i]? with | some (some d) => r.set i (some (frzB d)) | _ => r) = r
  rw [h]
  show r.set i (some (.node k o (frzs ys))) = r
  rw [f]
  exact set_same h
theorem touchI {r : Rho} {i : Nat} {o : Bool} (ys : List Int) (h : r[i]? = some (some (.node .lst o (ys.map .int)))) : touch r (.loc i) = r := touch_fz h (frzs_ints ys)
/-- lists of shared parts, put together -/
theorem add_fz {r : Rho} {x y : R} {o o' : Bool} {xs ys : List D} (h1 : opd r x = some (.node .lst o xs)) (h2 : opd r y = some (.node .lst o' ys)) (f1 : frzs xs = xs) (f2 : frzs ys = ys) (hl : xs.length + ys.length ≤ 16777216) (t1 : touch r x = r) (t2 : touch r y = r) :
    gAdd x y r = .ok (.val (.node .lst true (xs ++ ys))) r := by
  rw [q_addL h1 h2 hl, f1, f2, t2, t1]
theorem add_vv {r : Rho} {o o' : Bool} (xs ys : List Int) (hl : xs.length + ys.length ≤ 16777216) : gAdd (.val (.node .lst o (xs.map .int))) (.val (.node .lst o' (ys.map .int))) r = .ok (.val (.node .lst true ((xs ++ ys).map .int))) r := q_addLI xs ys hl
theorem add_lv {r : Rho} {i : Nat} {o o' : Bool} (xs ys : List Int) (h : r[i]? = some (some (.node .lst o (xs.map .int)))) (hl : xs.length + ys.length ≤ 16777216) : gAdd (.loc i) (.val (.node .lst o' (ys.map .int))) r = .ok (.val (.node .lst true ((xs ++ ys).map .int))) r := by
  rw [add_fz (opd_loc' h) rfl (frzs_ints xs) (frzs_ints ys) (by simpa using hl) (touchI xs h) rfl, List.map_append]
theorem add_vl {r : Rho} {i : Nat} {o o' : Bool} (xs ys : List Int) (h : r[i]? = some (some (.node .lst o' (ys.map .int)))) (hl : xs.length + ys.length ≤ 16777216) : gAdd (.val (.node .lst o (xs.map .int))) (.loc i) r = .ok (.val (.node .lst true ((xs ++ ys).map .int))) r := by
  rw [add_fz rfl (opd_loc' h) (frzs_ints xs) (frzs_ints ys) (by simpa using hl) rfl (touchI ys h), List.map_append]
theorem add_ll {r : Rho} {i j : Nat} {o o' : Bool} (xs ys : List Int) (h1 : r[i]? = some (some (.node .lst o (xs.map .int)))) (h2 : r[j]? = some (some (.node .lst o' (ys.map .int)))) (hl : xs.length + ys.length ≤ 16777216) : gAdd (.loc i) (.loc j) r = .ok (.val (.node .lst true ((xs ++ ys).map .int))) r := by
  rw [add_fz (opd_loc' h1) (opd_loc' h2) (frzs_ints xs) (frzs_ints ys) (by simpa using hl) (touchI xs h1) (touchI ys h2), List.map_append]
theorem atI_nat {α : Type} {xs : List α} (i : Nat) : atI xs (i : Int) = xs[i]? := by
  unfold atI ixN
  have z1 : (0 : Int) ≤ (i : Int) := by omega
  rw [if_pos z1]
  by_cases h : i < xs.length
  · rw [if_pos (show (i : Int) < (xs.length : Nat) by omega), Int.toNat_natCast]; rfl
  · rw [if_neg (show ¬ (i : Int) < (xs.length : Nat) by omega), List.getElem?_eq_none (by omega)]; rfl
theorem at_map {f : Int → D} {xs : List Int} {i : Nat} (h : i < xs.length) : atI (xs.map f) (i : Int) = some (f xs[i]) := by
  rw [atI_nat, List.getElem?_map, List.getElem?_eq_getElem h]; rfl
theorem rngD_range' (lo n : Nat) : rngD (lo : Int) 1 n = (List.range' lo n).map fun i => D.int (i : Nat) := by
  unfold rngD
  rw [List.range'_eq_map_range, List.map_map]
  refine List.map_congr_left fun i _ => ?_
  show D.int ((lo : Int) + (i : Nat) * 1) = D.int ((lo + i : Nat) : Int)
  congr 1
  omega
theorem rngD_cons (lo : Int) (n : Nat) : rngD lo 1 (n + 1) = .int lo :: rngD (lo + 1) 1 n := by
  unfold rngD
  rw [List.range_succ_eq_map, List.map_cons, List.map_map]
  congr 1
  · show D.int (lo + 0 * 1) = _; congr 1; omega
  · refine List.map_congr_left fun i _ => ?_
    show D.int (lo + ((i + 1 : Nat) : Int) * 1) = _
    congr 1; omega
theorem within_le {n : Int} (h1 : -1000000000 ≤ n) (h2 : n ≤ 1000000000) : within n = true := by unfold within; simp; omega
theorem pop_fz {r : Rho} {i : Nat} {xs : List D} {d : D} (h : r[i]? = some (some (.node .lst true (xs ++ [d])))) (f : frzs (xs ++ [d]) = xs ++ [d]) : cPop i r = .ok (.val d) (r.set i (some (.node .lst true xs))) := by
  unfold cPop
  rw [h]
  have e : (frzs (xs ++ [d]))[(xs ++ [d]).length - 1]? = some d := by rw [f]; simp
  have e2 : (frzs (xs ++ [d])).dropLast = xs := by rw [f]; simp
  simp only [e, e2, List.set_set]
theorem ix_fz {r : Rho} {i : Nat} {k : Int} {o : Bool} {xs : List D} {d : D} (h : r[i]? = some (some (.node .lst o xs))) (f : frzs xs = xs) (hd : atI xs k = some d) (fd : frz d = d) : gIx (.loc i) (.val (.int k)) r = .ok (.val d) r := by
  have a : opd r (.loc i) = some (.node .lst o xs) := opd_loc' h
  simp only [q_ix, a, q_opd1, hd, q_pick, fd, touch_fz h f]
  split <;> rfl
@[simp] theorem q_aug {i : Nat} {g : G2} {fb : Ev} {r : Rho} : cAug i g fb r = match r[i]? with
  | some (some d) => if atom d = true then (fb r).st fun y r1 => (g (.val d) y r1).st fun z r2 => match z with
    | .val d' => .nx (r2.set i (some d'))
    | .loc _ => .bad else .bad
  | _ => .bad := rfl
@[simp] theorem q_iAdd {n m : Int} : iAdd (.int n) (.int m) = some (.int (n + m)) := rfl
theorem ext_fz {r : Rho} {i : Nat} {o : Bool} {xs ys : List D} (h : r[i]? = some (some (.node .lst true xs))) (f1 : frzs xs = xs) (f2 : frzs ys = ys) (hl : xs.length + ys.length ≤ 16777216) : extK i (.val (.node .lst o ys)) r = .ok (.val .non) (r.set i (some (.node .lst true (xs ++ ys)))) := by
  unfold extK
  have a : opd r (.val (.node .lst o ys)) = some (.node .lst o ys) := rfl
  have b : touch r (.val (.node .lst o ys)) = r := rfl
  rw [a]
  show (match (touch r (.val (.node .lst o ys)))[i]? with | some (some (.node .lst true ds)) => _ | _ => _) = _
  rw [b, h]
  show (if xs.length + ys.length ≤ 16777216 then _ else _) = _
  rw [if_pos hl, f1, f2, List.set_set]
theorem cvar_loc {r : Rho} {i : Nat} {d : D} (h : r[i]? = some (some d)) (a : atom d = false) : cVar i r = .ok (.loc i) r := by
  rw [q_var, h]
  show (if atom d = true then _ else _) = _
  rw [a]; rfl
theorem cvar_at {r : Rho} {i : Nat} {d : D} (h : r[i]? = some (some d)) (a : atom d = true) : cVar i r = .ok (.val d) r := by
  rw [q_var, h]
  show (if atom d = true then _ else _) = _
  rw [a]; rfl
theorem g2_ok {r : Rho} {f : D → D → Option D} {x y : R} {d e z : D} (h1 : opd r x = some d) (h2 : opd r y = some e) (h : f d e = some z) (a : atom z = true) : g2 f x y r = .ok (.val z) r := by
  rw [q_g2, h1, h2]
  show (match f d e with | some z => if atom z = true then EO.ok (R.val z) r else .bad | none => .bad) = _
  rw [h]
  show (if atom z = true then EO.ok (R.val z) r else .bad) = _
  rw [if_pos a]
theorem bin_ok {fa fb : Ev} {g : G2} {r r1 r2 : Rho} {x y : R} {o : EO} (h1 : fa r = .ok x r1) (h2 : fb r1 = .ok y r2) (h : g x y r2 = o) : cBin g fa fb r = o := by
  rw [q_bin, h1, bd_ok, h2, bd_ok, h]
/-- x != [] -/
theorem ne_var_nil {r : Rho} {i : Nat} {k : Nat} {o : Bool} {xs : List D} (h : r[i]? = some (some (.node .lst o xs))) (hf : ∀ x ∈ xs, FP k x) (hk : k < 64) : cBin gNe (cVar i) (cLst cNil) r = .ok (.val (.bl (!xs.isEmpty))) r :=
  bin_ok (cvar_loc h rfl) (show cLst cNil r = .ok (.val (.node .lst true [])) r from rfl) (g2_ok (opd_loc' h) rfl (ne_nil hf hk) rfl)
theorem eq_var_nil {r : Rho} {i : Nat} {k : Nat} {o : Bool} {xs : List D} (h : r[i]? = some (some (.node .lst o xs))) (hf : ∀ x ∈ xs, FP k x) (hk : k < 64) : cBin gEq (cVar i) (cLst cNil) r = .ok (.val (.bl xs.isEmpty)) r :=
  bin_ok (cvar_loc h rfl) (show cLst cNil r = .ok (.val (.node .lst true [])) r from rfl) (g2_ok (opd_loc' h) rfl (eq_nil hf hk) rfl)
theorem ifs_ok {fa : Ev} {f g : Sv} {r r1 : Rho} {b : Bool} {o : SO} (h : fa r = .ok (.val (.bl b)) r1) (h2 : (if b = true then f r1 else g r1) = o) : cIfS fa f g r = o := by
  rw [q_ifs, h, q_st1]
  cases b <;> exact h2
theorem call1 {F : List D → FO} {fa : Ev} {r r1 : Rho} {x : R} {z d : D} (h : fa r = .ok x r1) (ho : opd r1 x = some z) (hF : F [frz z] = .ok d) (nl : noL d = true) : cCall 1 F (cCons fa cNil) r = .ok (.val d) r1 := by
  have fz : frzs [z] = [frz z] := rfl
  rw [q_call, q_cons, h]
  show callK F [x] r1 = _
  rw [q_callK, q_opds1, ho, q_opds0]
  show (match F (frzs [z]) with | .ok d => if noL d = true then EO.ok (.val d) r1 else .ok (.val d) (settles r1 [x]) | .exc c => .exc c r1 | .bad => .bad) = _
  rw [fz, hF]
  show (if noL d = true then EO.ok (.val d) r1 else _) = _
  rw [if_pos nl]
theorem call1_exc {F : List D → FO} {fa : Ev} {r r1 : Rho} {x : R} {z : D} {c : Nat} (h : fa r = .ok x r1) (ho : opd r1 x = some z) (hF : F [frz z] = .exc c) : cCall 1 F (cCons fa cNil) r = .exc c r1 := by
  have fz : frzs [z] = [frz z] := rfl
  rw [q_call, q_cons, h]
  show callK F [x] r1 = _
  rw [q_callK, q_opds1, ho, q_opds0]
  show (match F (frzs [z]) with | .ok d => if noL d = true then EO.ok (.val d) r1 else .ok (.val d) (settles r1 [x]) | .exc c => .exc c r1 | .bad => .bad) = _
  rw [fz, hF]
theorem call2 {F : List D → FO} {fa fb : Ev} {r r1 r2 : Rho} {x y : R} {z w d : D} (h : fa r = .ok x r1) (h2 : fb r1 = .ok y r2) (ho : opd r2 x = some z) (ho2 : opd r2 y = some w) (hF : F [frz z, frz w] = .ok d) (nl : noL d = true) : cCall 2 F (cCons fa (cCons fb cNil)) r = .ok (.val d) r2 := by
  have fz : frzs [z, w] = [frz z, frz w] := rfl
  rw [q_call, q_cons, h]
  show (match cCons fb cNil r1 with | .ok xs r2 => AO.ok (x :: xs) r2 | .exc c r2 => .exc c r2 | .bad => .bad).bd _ = _
  rw [q_cons, h2]
  show callK F [x, y] r2 = _
  rw [q_callK, q_opds1, ho, q_opds1, ho2, q_opds0]
  show (match F (frzs [z, w]) with | .ok d => if noL d = true then EO.ok (.val d) r2 else .ok (.val d) (settles r2 [x, y]) | .exc c => .exc c r2 | .bad => .bad) = _
  rw [fz, hF]
  show (if noL d = true then EO.ok (.val d) r2 else _) = _
  rw [if_pos nl]
theorem asg_ok {fa : Ev} {r r1 : Rho} {i : Nat} {d : D} (h : fa r = .ok (.val d) r1) : cAsg (.nm i) fa r = .nx (r1.set i (some d)) := by
  rw [q_asg, q_set, h, bd_ok]
  rfl
theorem for_ok {t : Tg} {fi : Iv} {f : Sv} {r r1 : Rho} {ds : List D} {o : SO} (h : fi r = .ok ds r1) (h2 : forL t f ds r1 = o) : cFor t fi f r = o := by
  rw [q_for, h]
  exact h2
theorem it_lst {r : Rho} {i : Nat} {o : Bool} {xs : List D} (h : r[i]? = some (some (.node .lst o xs))) (f : frzs xs = xs) : iLst (cVar i) r = .ok xs (r.set i (some (.node .lst false xs))) := by
  have e : frz (.node .lst o xs) = .node .lst false xs := by show D.node .lst false (frzs xs) = _; rw [f]
  rw [q_iLst, q_set, cvar_loc h rfl, bd_ok]
  show (match (match opd r (.loc i) with | some d => EO.ok (.val (frz d)) (settle r (.loc i)) | none => .bad) with | .ok (.val (.node .lst _ ds)) r1 => IO.ok ds r1 | .ok (.val (.node .rd _ ds)) r1 => IO.ok ds r1 | .exc c r1 => .exc c r1 | _ => .bad) = _
  rw [opd_loc' h, q_settle2, h]
  show (match EO.ok (R.val (frz (.node .lst o xs))) (r.set i (some (frz (.node .lst o xs)))) with | .ok (.val (.node .lst _ ds)) r1 => IO.ok ds r1 | .ok (.val (.node .rd _ ds)) r1 => IO.ok ds r1 | .exc c r1 => .exc c r1 | _ => .bad) = _
  rw [e]
theorem cutD_some (xs : List D) (a b : Nat) : VL.cutD xs (some (a : Int)) (some (b : Int)) = (xs.drop a).take (b - a) := by
  unfold VL.cutD
  show (xs.drop (HT.sIx xs.length 0 (some ((a : Nat) : Int)))).take (HT.sIx xs.length xs.length (some ((b : Nat) : Int)) - HT.sIx xs.length 0 (some ((a : Nat) : Int))) = _
  rw [HT.sIx_nat, HT.sIx_nat]
  by_cases h : a ≤ xs.length
  · rw [Nat.min_eq_left h]
    by_cases h2 : b ≤ xs.length
    · rw [Nat.min_eq_left h2]
    · rw [Nat.min_eq_right (by omega), List.take_of_length_le (by rw [List.length_drop]; omega), List.take_of_length_le (by rw [List.length_drop]; omega)]
  · rw [Nat.min_eq_right (show xs.length ≤ a by omega), List.drop_length, List.drop_of_length_le (show xs.length ≤ a by omega), List.take_nil, List.take_nil]
theorem cutD_to (xs : List D) (b : Nat) : VL.cutD xs none (some (b : Int)) = xs.take b := by
  unfold VL.cutD
  show (xs.drop (HT.sIx xs.length 0 none)).take (HT.sIx xs.length xs.length (some ((b : Nat) : Int)) - HT.sIx xs.length 0 none) = _
  rw [HT.sIx_nat, HT.sIx_none, List.drop_zero, Nat.sub_zero]
  by_cases h2 : b ≤ xs.length
  · rw [Nat.min_eq_left h2]
  · rw [Nat.min_eq_right (by omega), List.take_length, List.take_of_length_le (by omega)]
theorem cutD_of (xs : List D) (a : Nat) : VL.cutD xs (some (a : Int)) none = xs.drop a := by
  unfold VL.cutD
  show (xs.drop (HT.sIx xs.length 0 (some ((a : Nat) : Int)))).take (HT.sIx xs.length xs.length none - HT.sIx xs.length 0 (some ((a : Nat) : Int))) = _
  rw [HT.sIx_nat, HT.sIx_none]
  by_cases h : a ≤ xs.length
  · rw [Nat.min_eq_left h, List.take_of_length_le (by rw [List.length_drop]; omega)]
  · rw [Nat.min_eq_right (by omega), List.drop_length, List.drop_of_length_le (by omega), List.take_nil]
/-- xs[a:b] of a list of whole numbers -/
theorem sl_ok {fa : Ev} {lo hi : Option Ev} {r r1 : Rho} {x : R} {k : Kd} {o : Bool} {xs : List D} {l h : Option Int} (hk : k = .lst ∨ k = .rd) (e : fa r = .ok x r1) (ho : opd r1 x = some (.node k o xs)) (f : frzs xs = xs) (t : touch r1 x = r1)
    (hl : ∀ {k : Option Int → Rho → EO}, part lo r1 k = k l r1) (hh : ∀ {k : Option Int → Rho → EO}, part hi r1 k = k h r1) : cSl fa lo hi r = .ok (.val (.node .lst true (VL.cutD xs l h))) r1 := by
  rw [q_sl, e, bd_ok, hl, hh, q_gSl, ho]
  rcases hk with z | z <;> subst z
  · show EO.ok (.val (.node .lst true (VL.cutD (frzs xs) l h))) (touch r1 x) = _
    rw [f, t]
  · show EO.ok (.val (.node .lst true (VL.cutD (frzs xs) l h))) (touch r1 x) = _
    rw [f, t]
theorem listOf_ok {r : Rho} {i : Nat} {o : Bool} {xs : List D} (h : r[i]? = some (some (.node .lst o xs))) (f : frzs xs = xs) : cB gListOf (cCons (cVar i) cNil) r = .ok (.val (.node .lst true xs)) r := by
  simp only [q_B, q_cons, cvar_loc h rfl, q_nil, q_abd1, q_listOf, opd_loc' h, f, touch_fz h f]
theorem isi_list {E : ETab} {r : Rho} {i : Nat} {o : Bool} {xs : List D} (h : r[i]? = some (some (.node .lst o xs))) : cB (gIsi E) (cCons (cVar i) (cCons (cC (.ty "list")) cNil)) r = .ok (.val (.bl true)) r := by
  simp only [q_B, q_cons, cvar_loc h rfl, q_nil, q_abd1, q_c]
  show (match opd r (.loc i) with | some d => (match isi1 E d (.ty "list") with | some b => EO.ok (.val (.bl b)) r | none => .bad) | none => .bad) = _
  rw [opd_loc' h]
  rfl
theorem or_no {fa fb : Ev} {r : Rho} {o : EO} (h : fa r = .ok (.val (.bl false)) r) (h2 : fb r = o) : cOr fa fb r = o := by
  rw [q_or, h, bd_ok]
  exact h2
theorem and_yes {fa fb : Ev} {r : Rho} {o : EO} (h : fa r = .ok (.val (.bl true)) r) (h2 : fb r = o) : cAnd fa fb r = o := by
  rw [q_and, h, bd_ok]
  exact h2
theorem not_ok {fa : Ev} {r r1 : Rho} {b : Bool} (h : fa r = .ok (.val (.bl b)) r1) : cNot fa r = .ok (.val (.bl (!b))) r1 := by
  rw [q_not, h, bd_ok]
/-- a guard that lets by -/
theorem guard_no {fa : Ev} {f : Sv} {r : Rho} (h : fa r = .ok (.val (.bl false)) r) : cIfS fa f cSkip r = .nx r := ifs_ok h rfl
theorem ne_ints {r : Rho} {i j : Nat} {o o' : Bool} {xs ys : List Int} (h1 : r[i]? = some (some (.node .lst o (xs.map .int)))) (h2 : r[j]? = some (some (.node .lst o' (ys.map .int)))) : cBin gNe (cVar i) (cVar j) r = .ok (.val (.bl (!decide (xs = ys)))) r :=
  bin_ok (cvar_loc h1 rfl) (cvar_loc h2 rfl) (g2_ok (opd_loc' h1) (opd_loc' h2) (ne_lints xs ys) rfl)
theorem eq_ints {r : Rho} {i j : Nat} {o o' : Bool} {xs ys : List Int} (h1 : r[i]? = some (some (.node .lst o (xs.map .int)))) (h2 : r[j]? = some (some (.node .lst o' (ys.map .int)))) : cBin gEq (cVar i) (cVar j) r = .ok (.val (.bl (decide (xs = ys)))) r :=
  bin_ok (cvar_loc h1 rfl) (cvar_loc h2 rfl) (g2_ok (opd_loc' h1) (opd_loc' h2) (eq_lints xs ys) rfl)
theorem ne_pairs {r : Rho} {i j : Nat} {o o' : Bool} {xs ys : List (Int × Int)} (h1 : r[i]? = some (some (.node .lst o (xs.map pr)))) (h2 : r[j]? = some (some (.node .lst o' (ys.map pr)))) : cBin gNe (cVar i) (cVar j) r = .ok (.val (.bl (!decide (xs = ys)))) r :=
  bin_ok (cvar_loc h1 rfl) (cvar_loc h2 rfl) (g2_ok (opd_loc' h1) (opd_loc' h2) (ne_prs xs ys) rfl)
theorem eq_pairs {r : Rho} {i j : Nat} {o o' : Bool} {xs ys : List (Int × Int)} (h1 : r[i]? = some (some (.node .lst o (xs.map pr)))) (h2 : r[j]? = some (some (.node .lst o' (ys.map pr)))) : cBin gEq (cVar i) (cVar j) r = .ok (.val (.bl (decide (xs = ys)))) r :=
  bin_ok (cvar_loc h1 rfl) (cvar_loc h2 rfl) (g2_ok (opd_loc' h1) (opd_loc' h2) (eq_prs xs ys) rfl)
theorem app_ok {fa : Ev} {r r1 : Rho} {i : Nat} {d : D} {ds : List D} (hi : isLst r i = true) (h : fa r = .ok (.val d) r1) (h2 : r1[i]? = some (some (.node .lst true ds))) (hl : ds.length < 16777216) : cExpr (cApp i fa) r = .nx (r1.set i (some (.node .lst true (ds ++ [d])))) := by
  rw [q_expr, q_app, if_pos hi, q_set, h, bd_ok]
  show (appK i (.val d) r1).st _ = _
  rw [q_appK, h2]
  show (if ds.length < 16777216 then EO.ok (.val .non) (r1.set i (some (.node .lst true (ds ++ [d])))) else .bad).st _ = _
  rw [if_pos hl]
  rfl
theorem frz_lst {o : Bool} {xs : List D} (f : frzs xs = xs) : frz (.node .lst o xs) = .node .lst false xs := by
  show D.node .lst false (frzs xs) = _
  rw [f]
section
variable {fa fb : Ev} {r r1 r2 : Rho} {i j : Int}
theorem mod_ok (h1 : fa r = .ok (.val (.int i)) r1) (h2 : fb r1 = .ok (.val (.int j)) r2) (hj : 0 < j) : cBin gMod fa fb r = .ok (.val (.int (i % j))) r2 :=
  bin_ok h1 h2 (g2_ok rfl rfl (by rw [q_fI, if_pos (posOk_of hj)]) rfl)
theorem div_ok (h1 : fa r = .ok (.val (.int i)) r1) (h2 : fb r1 = .ok (.val (.int j)) r2) (hj : 0 < j) (hj2 : j < 1073741824) : cBin gDiv fa fb r = .ok (.val (.int (i / j))) r2 :=
  bin_ok h1 h2 (g2_ok rfl rfl (by rw [q_fI, if_pos (divOk_of' hj hj2)]) rfl)
theorem mul_ok (h1 : fa r = .ok (.val (.int i)) r1) (h2 : fb r1 = .ok (.val (.int j)) r2) (hm : mulOk i j = true) : cBin gMul fa fb r = .ok (.val (.int (i * j))) r2 :=
  bin_ok h1 h2 (by rw [q_mulI, if_pos hm])
theorem add_ok (h1 : fa r = .ok (.val (.int i)) r1) (h2 : fb r1 = .ok (.val (.int j)) r2) : cBin gAdd fa fb r = .ok (.val (.int (i + j))) r2 := bin_ok h1 h2 q_addI
theorem sub_ok (h1 : fa r = .ok (.val (.int i)) r1) (h2 : fb r1 = .ok (.val (.int j)) r2) : cBin VL.gSub fa fb r = .ok (.val (.int (i - j))) r2 := bin_ok h1 h2 (g2_ok rfl rfl rfl rfl)
theorem lt_ok (h1 : fa r = .ok (.val (.int i)) r1) (h2 : fb r1 = .ok (.val (.int j)) r2) : cBin gLt fa fb r = .ok (.val (.bl (decide (i < j)))) r2 := bin_ok h1 h2 (g2_ok rfl rfl rfl rfl)
theorem le_ok (h1 : fa r = .ok (.val (.int i)) r1) (h2 : fb r1 = .ok (.val (.int j)) r2) : cBin gLe fa fb r = .ok (.val (.bl (decide (i ≤ j)))) r2 := bin_ok h1 h2 (g2_ok rfl rfl rfl rfl)
theorem gt_ok (h1 : fa r = .ok (.val (.int i)) r1) (h2 : fb r1 = .ok (.val (.int j)) r2) : cBin gGt fa fb r = .ok (.val (.bl (decide (j < i)))) r2 := bin_ok h1 h2 (g2_ok rfl rfl rfl rfl)
theorem ge_ok (h1 : fa r = .ok (.val (.int i)) r1) (h2 : fb r1 = .ok (.val (.int j)) r2) : cBin gGe fa fb r = .ok (.val (.bl (decide (j ≤ i)))) r2 := bin_ok h1 h2 (g2_ok rfl rfl rfl rfl)
theorem eq_ok (h1 : fa r = .ok (.val (.int i)) r1) (h2 : fb r1 = .ok (.val (.int j)) r2) : cBin gEq fa fb r = .ok (.val (.bl (decide (i = j)))) r2 := bin_ok h1 h2 (g2_ok rfl rfl q_eqI rfl)
theorem ne_ok (h1 : fa r = .ok (.val (.int i)) r1) (h2 : fb r1 = .ok (.val (.int j)) r2) : cBin gNe fa fb r = .ok (.val (.bl (!decide (i = j)))) r2 := bin_ok h1 h2 (g2_ok rfl rfl q_neI rfl)
theorem b1_ok {f : D → Option D} {x : R} {d z : D} (h : fa r = .ok x r1) (ho : opd r1 x = some d) (hf : f d = some z) (a : atom z = true) : cB (b1 f) (cCons fa cNil) r = .ok (.val z) r1 := by
  rw [q_B, q_cons, h]
  show (b1 f [x] r1) = _
  rw [q_b1, ho]
  show (match f d with | some z => if atom z = true then EO.ok (.val z) r1 else .bad | none => .bad) = _
  rw [hf]
  show (if atom z = true then EO.ok (.val z) r1 else .bad) = _
  rw [if_pos a]
/-- one of a display's numbers -/
theorem ixd_ok {o : Bool} {xs : List Int} {n : Nat} (h1 : fa r = .ok (.val (.node .lst o (xs.map .int))) r1) (h2 : fb r1 = .ok (.val (.int (n : Int))) r2) (hn : n < xs.length) : cBin gIx fa fb r = .ok (.val (.int xs[n])) r2 := by
  refine bin_ok h1 h2 ?_
  rw [q_ix]
  show (match atI (xs.map D.int) (n : Int) with | some d => pick r2 _ d | none => EO.bad) = _
  rw [at_map hn]
  rfl
theorem ifs_yes {fa : Ev} {f g : Sv} {o : SO} (h : fa r = .ok (.val (.bl true)) r1) (h2 : f r1 = o) : cIfS fa f g r = o := ifs_ok h h2
theorem ifs_not {fa : Ev} {f g : Sv} {o : SO} (h : fa r = .ok (.val (.bl false)) r1) (h2 : g r1 = o) : cIfS fa f g r = o := ifs_ok h h2
theorem ret_ok {fa : Ev} {x : R} (h : fa r = .ok x r1) : cRet fa r = .rt x r1 := by
  rw [q_ret, h]; rfl
end
theorem pow_ok (i j : Int) (h : powOk i j = true) (r : Rho) : gPow (.val (.int i)) (.val (.int j)) r = .ok (.val (.int (i ^ j.toNat))) r :=
  g2_ok rfl rfl (by rw [q_fI, if_pos h]) rfl
/-- what a whole def answers -/
theorem runF_ok {n : Nat} {f : Sv} {ds : List D} {x : R} {r : Rho} {d : D} (h : f (startR n ds) = .rt x r) (ho : opd r x = some d) : runF n f ds = .ok d := by
  unfold runF
  rw [h]
  show (match opd r x with | some d => FO.ok d | none => .bad) = _
  rw [ho]
end VL

namespace VL
open PySem PySem.Spec PyProof.Rows L2
/-! ### a walk over a name's own list, which stays one's own -/
def Fc.pinned (C : Fc) (i : Nat) (v : V) : Fc := ⟨C.H0, C.io, C.fo, (i, v) :: C.pin⟩
section
variable {X : Cx} {G : GX} {C : Fc} {W : WX} {ow ow' : Ow} {r : Rho} {T T1 T2 : List (D × V)} {s : L2.St} {H H' : Hp} {fa fb fc : Ev} {f g : Sv}
theorem StW.unpin {i : Nat} {v : V} (S : StW G (C.pinned i v) ow r T s H) : StW G C ow r T s H := ⟨S.len, S.sl, S.tm, S.old, S.own, S.fo, S.mu, fun p hp => S.pin p (List.mem_cons_of_mem _ hp)⟩
theorem StOk.unpin {i : Nat} {v : V} (S : StOk G (C.pinned i v) r T s H) : StOk G C r T s H := let ⟨ow, W⟩ := S; ⟨ow, W.unpin⟩
theorem StW.pinned {i : Nat} {v : V} (S : StW G C ow r T s H) (e : s[i]? = some (some v)) : StW G (C.pinned i v) ow r T s H := ⟨S.len, S.sl, S.tm, S.old, S.own, S.fo, S.mu, fun p hp => by
  rcases List.mem_cons.mp hp with z | z
  · rw [z]; exact e
  · exact S.pin p z⟩
theorem Post.unpin {i : Nat} {v u : V} {x : R} (P : Post G (C.pinned i v) r T s H x u) : Post G C r T s H x u := ⟨P.1.unpin, P.2⟩
theorem pinC {i j : Nat} {v : V} (h : ∀ p ∈ C.pin, p.1 ≠ j) (hn : i ≠ j) : ∀ p ∈ (C.pinned i v).pin, p.1 ≠ j := fun p hp => by
  rcases List.mem_cons.mp hp with z | z
  · rw [z]; exact hn
  · exact h p z
theorem pinCo {i : Nat} {l : List Nat} {v : V} (h : ∀ p ∈ C.pin, p.1 ∉ l) (hn : i ∉ l) : ∀ p ∈ (C.pinned i v).pin, p.1 ∉ l := fun p hp => by
  rcases List.mem_cons.mp hp with z | z
  · rw [z]; exact hn
  · exact h p z
def forO (i n : Nat) (t : Tg) (f : Sv) : Nat → Rho → SO
  | 0, r => (match r[i]? with
    | some (some (.node .lst true ds)) => if ds.length = n then .nx r else .bad
    | _ => .bad)
  | k + 1, r => (match r[i]? with
    | some (some (.node .lst true ds)) => if ds.length = n then (match ds[n - (k + 1)]? with
      | some d => (match tgt t (frz d) (r.set i (some (.node .lst true (frzs ds)))) with
        | none => .bad
        | some r1 => (match f r1 with
          | .nx r2 => forO i n t f k r2
          | .ct r2 => forO i n t f k r2
          | .bk r2 => .nx r2
          | o => o))
      | none => .bad) else .bad
    | _ => .bad)
/-- for t in a name's own list -/
def cForO (i : Nat) (t : Tg) (f : Sv) : Sv := fun r => match r[i]? with
  | some (some (.node .lst true ds)) => forO i ds.length t f ds.length r
  | _ => .bad
theorem vs_forO {i : Nat} {x : Str} {p : Pos} {tg : Expr} {body : List Stmt} {t : Tg} {pos : Pos} (hp : PassesOwn (model X.prog X.w) X.A X.env X.xe) (hc : X.calm = true) (hN : X.N[i]? = some x) (hv : Vis X.env.scope x) (hd : (x == ("__debug__" : Str)) = false) (hcd : (x == ("__classdict__" : Str)) = false)
    (hg : ∀ a, VG X G (C.pinned i (.ref a)) tg t) (hb : ∀ a, VSs X G (C.pinned i (.ref a)) W body f)
    (hs : ∀ y, foldedSetIterable (.Name x p) X.env y = pure y := by intro _; rfl) : VS X G C W (.For tg (.Name x p) body [] pos) (cForO i t f) := by
  have hg' : PG X tg (fun v s H Q => ∃ a, tVG G (C.pinned i (.ref a)) t v s H Q) := ⟨fun pins s σ H v u Q I rr w => by
    obtain ⟨a, w⟩ := w
    exact (hg a).run pins s σ H v u Q I rr w⟩
  have hb' : PSs X body (fun D s H => ∃ a, tVS G (C.pinned i (.ref a)) W f D s H) := ⟨fun pins s σ H D I w => by
    obtain ⟨a, w⟩ := w
    exact (hb a).run pins s σ H D I w⟩
  refine PS.imp (ps_for hp hc (pi_list (pe_var hN hv hd hcd)) hg' hb' hs) fun D s H h => ?_
  obtain ⟨r, T, S, h⟩ := h
  unfold cForO at h
  split at h
  · rename_i ds0 q0
    obtain ⟨ow, S⟩ := S
    obtain ⟨v, z1, a, vs, ev, z2, z3, z4⟩ := S.sl i _ q0
    subst ev
    refine ⟨_, z1, a, rfl, ⟨vs, SqL.of z2⟩, ?_⟩
    refine ⟨fun j m s' H' => m = ds0.length - j ∧ j ≤ ds0.length ∧ ∃ r', StOk G (C.pinned i (.ref a)) r' T s' H' ∧ GoesS G C W T D (forO i ds0.length t f (ds0.length - j) r'), ⟨ds0.length, by simp, Nat.zero_le _, r, ⟨ow, S.pinned z1⟩, by simpa using h⟩, ?_⟩
    rintro j m s' H' ⟨rfl, hj, r', ⟨ow', S'⟩, h'⟩
    have hpin := S'.pin (i, .ref a) List.mem_cons_self
    by_cases hlt : j < ds0.length
    · obtain ⟨k, hk⟩ : ∃ k, ds0.length - j = k + 1 := ⟨ds0.length - j - 1, by omega⟩
      rw [hk] at h'
      unfold forO at h'
      split at h'
      · rename_i ds q
        split at h'
        · rename_i hl
          have ej : ds0.length - (k + 1) = j := by omega
          rw [ej] at h'
          split at h'
          · rename_i d hd'
            obtain ⟨ow2, a2, vs2, w1, hA, S2, q2, rx, _, _⟩ := S'.mine q
            rw [hpin] at w1
            cases w1
            have hdf : (frzs ds)[j]? = some (frz d) := by rw [frzs_map, List.getElem?_map, hd']; rfl
            obtain ⟨y, y1, y2⟩ := (rx ⟨.fo, []⟩).get j _ hdf
            refine .inr ⟨⟨vs2, y, SqL.of hA, y1⟩, fun s2 H2 => ∃ r2, StOk G (C.pinned i (.ref a)) r2 T s2 H2 ∧ GoesS G C W T D (forO i ds0.length t f (ds0.length - (j + 1)) r2), fun s2 H2 n2 => ⟨ds0.length - (j + 1), by omega, rfl, hlt, n2⟩, fun x H2 yl => ?_⟩
            obtain ⟨e1, e2⟩ := yl
            subst e1
            have ex := e2 vs2 (SqL.of hA)
            rw [y1] at ex
            cases ex
            have kk : ds0.length - (j + 1) = k := by omega
            rw [kk]
            refine ⟨a, r'.set i (some (.node .lst true (frzs ds))), T, frz d, ⟨ow2, S2.push (Rep.moveF _ (frz_frz d) (fun _ _ z q => ⟨z, q⟩) (fun _ _ z _ => z) y2)⟩, ?_⟩
            split at h'
            · exact h'.elim
            · rename_i r1 et
              rw [et]
              intro s3 H3 S3 _
              refine ⟨a, r1, T, S3, ?_⟩
              cases e3 : f r1 with
              | nx r3 => simp only [e3] at h'; exact fun s4 H4 S4 => ⟨r3, S4, h'⟩
              | ct r3 => simp only [e3] at h'; exact fun s4 H4 S4 => ⟨r3, S4, h'⟩
              | bk r3 => simp only [e3] at h'; exact fun s4 H4 S4 => h' s4 H4 S4.unpin
              | rt x r3 => simp only [e3] at h'; exact fun s4 v H4 P4 => h' s4 v H4 P4.unpin
              | exc c r3 => simp only [e3] at h'; exact fun s4 H4 S4 => h' s4 H4 S4.unpin
              | bad => simp only [e3] at h'; exact h'.elim
          · exact h'.elim
        · exact h'.elim
      · exact h'.elim
    · have ej : j = ds0.length := by omega
      subst ej
      rw [Nat.sub_self] at h'
      unfold forO at h'
      split at h'
      · rename_i ds q
        split at h'
        · rename_i hl
          obtain ⟨v2, w1, a2, vs2, ev2, w2, w3, w4⟩ := S'.sl i _ q
          rw [hpin] at w1
          cases w1
          cases ev2
          exact .inl ⟨⟨vs2, SqL.of w2, by rw [← w4.length]; omega⟩, h' s' H' ⟨ow', S'.unpin⟩⟩
        · exact h'.elim
      · exact h'.elim
  · exact h.elim
end
/-- a turn of it -/
theorem forO_cons {i n k : Nat} {t : Tg} {f : Sv} {d : D} {ds : List D} {r r1 r2 : Rho} (h : r[i]? = some (some (.node .lst true ds))) (hf : frzs ds = ds) (hn : ds.length = n) (hd : ds[n - (k + 1)]? = some d) (fd : frz d = d) (h1 : tgt t d r = some r1) (h2 : f r1 = .nx r2) : forO i n t f (k + 1) r = forO i n t f k r2 := by
  show (match r[i]? with | some (some (.node .lst true ds)) => _ | _ => _) = _
  rw [h]
  show (if ds.length = n then (match ds[n - (k + 1)]? with | some d => (match tgt t (frz d) (r.set i (some (.node .lst true (frzs ds)))) with | none => SO.bad | some r1 => (match f r1 with | .nx r2 => forO i n t f k r2 | .ct r2 => forO i n t f k r2 | .bk r2 => .nx r2 | o => o)) | none => .bad) else .bad) = _
  rw [if_pos hn, hd, hf]
  show (match tgt t (frz d) (r.set i (some (.node .lst true ds))) with | none => SO.bad | some r1 => (match f r1 with | .nx r2 => forO i n t f k r2 | .ct r2 => forO i n t f k r2 | .bk r2 => .nx r2 | o => o)) = _
  rw [fd, set_same h, h1]
  show (match f r1 with | .nx r2 => forO i n t f k r2 | .ct r2 => forO i n t f k r2 | .bk r2 => .nx r2 | o => o) = _
  rw [h2]
theorem forO_nil {i n : Nat} {t : Tg} {f : Sv} {ds : List D} {r : Rho} (h : r[i]? = some (some (.node .lst true ds))) (hn : ds.length = n) : forO i n t f 0 r = .nx r := by
  show (match r[i]? with | some (some (.node .lst true ds)) => _ | _ => _) = _
  rw [h]
  show (if ds.length = n then SO.nx r else .bad) = _
  rw [if_pos hn]
/-- a loop that only looks: each part is found well, and nothing but the loop's name is changed -/
theorem forO_look {i j : Nat} {f : Sv} {ds : List D} {r : Rho} (hi : i ≠ j) (h : r[i]? = some (some (.node .lst true ds))) (hf : frzs ds = ds) (hb : ∀ d ∈ ds, ∀ r' : Rho, (∃ x, r' = r.set j x) → f (r'.set j (some d)) = .nx (r'.set j (some d))) : ∃ x, cForO i (.nm j) f r = .nx (r.set j x) := by
  have go : ∀ (k : Nat), k ≤ ds.length → ∀ y : Option D, ∃ x, forO i ds.length (.nm j) f k (r.set j y) = .nx (r.set j x) := by
    intro k
    induction k with
    | zero => exact fun _ y => ⟨y, forO_nil (by rw [List.getElem?_set_ne (Ne.symm hi)]; exact h) rfl⟩
    | succ k ih =>
      intro hk y
      have hlt : ds.length - (k + 1) < ds.length := by omega
      have hd : ds[ds.length - (k + 1)]? = some ds[ds.length - (k + 1)] := List.getElem?_eq_getElem hlt
      have fd : frz ds[ds.length - (k + 1)] = ds[ds.length - (k + 1)] := by
        have := congrArg (·[ds.length - (k + 1)]?) hf
        simp only [frzs_map, List.getElem?_map, hd, Option.map_some] at this
        exact Option.some.inj this
      obtain ⟨x, e⟩ := ih (by omega) (some ds[ds.length - (k + 1)])
      refine ⟨x, (forO_cons (r1 := (r.set j y).set j (some ds[ds.length - (k + 1)])) (by rw [List.getElem?_set_ne (Ne.symm hi)]; exact h) hf rfl hd fd rfl (hb _ (List.getElem_mem hlt) _ ⟨y, rfl⟩)).trans ?_⟩
      rw [List.set_set]
      exact e
  show ∃ x, (match r[i]? with | some (some (.node .lst true ds)) => forO i ds.length (.nm j) f ds.length r | _ => .bad) = _
  rw [h]
  by_cases hj : j < r.length
  · have e : r.set j r[j] = r := by
      refine List.ext_getElem? fun m => ?_
      by_cases hm : j = m
      · subst hm; rw [List.getElem?_set_self hj, List.getElem?_eq_getElem hj]
      · rw [List.getElem?_set_ne hm]
    obtain ⟨x, z⟩ := go ds.length (Nat.le_refl _) r[j]
    rw [e] at z
    exact ⟨x, z⟩
  · have e : ∀ y, r.set j y = r := fun y => List.set_eq_of_length_le (by omega)
    obtain ⟨x, z⟩ := go ds.length (Nat.le_refl _) none
    rw [e] at z
    exact ⟨x, z⟩
end VL

namespace VL
open PySem PySem.Spec PyProof.Rows L2
section
variable {X : Cx} {G : GX} {C : Fc} {W : WX} {ow ow' : Ow} {r : Rho} {T T1 T2 : List (D × V)} {s : L2.St} {H H' : Hp} {fa fb fc : Ev} {f g : Sv} {fs : Av}
/-! ### enumerate(list) -/
def enumD : Nat → List D → List D
  | _, [] => []
  | n, d :: ds => .node .tup false [.int (n : Nat), d] :: enumD (n + 1) ds
theorem enumD_get : ∀ (ds : List D) (n i : Nat), (enumD n ds)[i]? = (ds[i]?).map fun d => D.node .tup false [.int ((n + i : Nat) : Int), d]
  | [], n, i => by simp [enumD]
  | d :: ds, n, 0 => by simp [enumD]
  | d :: ds, n, i + 1 => by
    show (enumD (n + 1) ds)[i]? = _
    rw [enumD_get ds (n + 1) i, List.getElem?_cons_succ, show n + 1 + i = n + (i + 1) by omega]
theorem enumD_length : ∀ (ds : List D) (n : Nat), (enumD n ds).length = ds.length
  | [], n => rfl
  | d :: ds, n => by show (enumD (n + 1) ds).length + 1 = ds.length + 1; rw [enumD_length ds (n + 1)]
theorem frz_at {ds : List D} {i : Nat} {d : D} (e : frzs ds = ds) (h : ds[i]? = some d) : frz d = d := by
  have := congrArg (·[i]?) e
  simp only [frzs_map, List.getElem?_map, h, Option.map_some] at this
  exact Option.some.inj this
theorem cur_enum {K : PySem.W.Frag} {k : Kd} {ds : List D} {a : Addr} (hk : ∀ H vs, Holds G H a k vs → SqL K H a vs) (e : frzs ds = ds) : CurOk G C (Ite K a) (enumD 0 ds) fun _ => [(.node k false ds, .ref a)] := by
  refine ⟨fun i d r T s H hd S => ?_, fun r T s H S => ?_⟩
  · rw [enumD_get, Nat.zero_add] at hd
    cases h : ds[i]? with
    | none => rw [h] at hd; cases hd
    | some d0 =>
      rw [h] at hd
      cases hd
      obtain ⟨ow, S⟩ := S
      obtain ⟨a', vs, ev, h1, h2, h3⟩ := S.last
      cases ev
      obtain ⟨x, x1, x2⟩ := h3.get i d0 h
      refine ⟨⟨vs, x, hk H vs h1, x1⟩, fun v H' y => ?_⟩
      obtain ⟨p, x', ev, hp, eH, hx⟩ := y
      subst ev eH
      have ex := hx vs (hk H vs h1)
      rw [x1] at ex
      cases ex
      have fd := frz_at e h
      have e' : frzs [D.int (i : Nat), d0] = [D.int (i : Nat), d0] := by show [frz (D.int (i : Nat)), frz d0] = _; rw [fd]; rfl
      exact StOk.alloc false ⟨ow, S.pushFs e' (l := ⟨.fo, []⟩) (i := 0) (vs := [V.int (i : Nat), x]) ⟨_, _, rfl, rfl, _, _, rfl, Rep.moveF _ fd (fun _ _ z q => ⟨z, q⟩) (fun _ _ z _ => z) x2, rfl⟩⟩ rfl hp holds_tup (fun z => nomatch z)
  · obtain ⟨ow, S⟩ := S
    obtain ⟨a', vs, ev, h1, h2, h3⟩ := S.last
    cases ev
    exact ⟨vs, hk H vs h1, by rw [← h3.length, enumD_length]; exact Nat.le_refl _⟩
def gEn (r : Rho) (xs : List R) : IO := match xs with
  | [.val (.node .lst _ ds)] => .ok (enumD 0 (frzs ds)) r
  | [.val (.node .rd _ ds)] => .ok (enumD 0 (frzs ds)) r
  | _ => .bad
theorem vi_enum {e : Expr} {p pos tpos : Pos} {elts : List Expr} {kk : Nat} (hK : G.K = X.K) (hg : Gl X "enumerate") (hm : X.mg "enumerate" = none) (ha : VA X G C W [e] fs) (hs : starEach [e] X.env = [(false, eval e X.env)] := by rfl) : VI X G C W (.Tuple elts kk tpos) (.Call (.Name "enumerate" p) [e] [] pos) (iRng gEn fs) := by
  refine PI.imp (pi_enum hg hm ha hs) fun s H R h => ?_
  obtain ⟨r, T, S, h⟩ := h
  refine tV_rng S h fun xs vs r1 H1 S1 l1 g => ?_
  unfold gEn at g
  split at g
  · rename_i o ds
    obtain ⟨v, ev, lx, ep⟩ := one_arg l1
    rw [ep] at S1
    subst ev
    obtain ⟨ow, S1⟩ := S1
    have S2 := (show StW G C ow r1 (T ++ (D.node .lst o ds, v) :: []) s H1 from S1).frzTm
    obtain ⟨a, vs, ev, h1, h2, h3⟩ := (show StW G C _ r1 (T ++ [(frz (.node .lst o ds), v)]) s H1 from S2).last
    subst ev
    exact ⟨a, vs, rfl, SqL.of h1, g _ _ _ (cur_enum (k := .lst) (fun _ _ z => SqL.of z) (frzs_frzs ds)) ⟨_, S2⟩⟩
  · rename_i o ds
    obtain ⟨v, ev, lx, ep⟩ := one_arg l1
    rw [ep] at S1
    subst ev
    obtain ⟨ow, S1⟩ := S1
    have S2 := (show StW G C ow r1 (T ++ (D.node .rd o ds, v) :: []) s H1 from S1).frzTm
    obtain ⟨a, vs, ev, h1, h2, h3⟩ := (show StW G C _ r1 (T ++ [(frz (.node .rd o ds), v)]) s H1 from S2).last
    subst ev
    exact ⟨a, vs, rfl, hK ▸ h1.seq, g _ _ _ (cur_enum (k := .rd) (fun _ _ z => hK ▸ z.seq) (frzs_frzs ds)) ⟨_, S2⟩⟩
  · exact g.elim
/-! ### list(range(..)) -/
def rgD (a b : Int) : List D := (List.range (b - a).toNat).map fun i => .int (a + (i : Nat))
theorem rgD_ints (a b : Int) : rgD a b = ((List.range (b - a).toNat).map fun i => a + ((i : Nat) : Int)).map D.int := by
  unfold rgD; rw [List.map_map]; rfl
def rgOk (a b : Int) : Bool := within a && within b && decide ((b - a).toNat ≤ 16777216)
def gLr1 (x : R) (r : Rho) : EO := match opd r x with
  | some (.int n) => if rgOk 0 n = true then .ok (.val (.node .lst true (rgD 0 n))) r else .bad
  | _ => .bad
def cListRg1 (fa : Ev) : Ev := fun r => (fa r).bd gLr1
theorem rg_fin {x : List D} {a b : Int} {Q : VK} (S : StW G C ow r T s H) (hq : ∀ v H', Post G C r T s H' (.val (.node .lst true (rgD a b))) v → Q v H') : ∀ p, H p = none → Q (.ref p) (upd H p (.lst (rgV a b))) := by
  refine S.made (l := ⟨.fo, []⟩) (i := 0) (ds := rgD a b) ?_ ?_ hq
  · rw [rgD_ints, frzs_ints]
  · have e : rgV a b = ((List.range (b - a).toNat).map fun i => a + ((i : Nat) : Int)).map V.int := by unfold rgV; rw [List.map_map]; rfl
    rw [rgD_ints, e]
    exact reps_ints _ _ _
theorem rgOk_of {a b : Int} (h : rgOk a b = true) : RgOk a b := by
  unfold rgOk at h
  simp only [Bool.and_eq_true, decide_eq_true_eq] at h
  obtain ⟨⟨h1, h2⟩, h3⟩ := h
  have h1 := VL.within_of h1
  have h2 := VL.within_of h2
  exact ⟨h1.1, h1.2, h2.1, h2.2, by simpa using h3⟩
theorem ve_listRg1 {a : Expr} {p p2 pos pos2 : Pos} (hc : X.calm = true) (hl : Gl X "list") (hlm : X.mg "list" = none) (hg : Gl X "range") (hm : X.mg "range" = none) (ha : VE X G C W a fa)
    (na : starEach [a] X.env = (false, eval a X.env) :: starEach [] X.env := by rfl) (nb : starEach [.Call (.Name "range" p) [a] [] pos] X.env = (false, eval (.Call (.Name "range" p) [a] [] pos) X.env) :: starEach [] X.env := by rfl) : VE X G C W (.Call (.Name "list" p2) [.Call (.Name "range" p) [a] [] pos] [] pos2) (cListRg1 fa) := by
  refine PE.imp (pe_listRg hc hl hlm (prg_1 hg hm ha na) nb) fun s H Q h => ?_
  obtain ⟨r, T, S, g⟩ := h
  refine one S g fun x v r1 H1 P g1 => ?_
  unfold gLr1 at g1
  split at g1
  · rename_i n e1
    split at g1
    · rename_i hr
      obtain ⟨ow, S1⟩ := P.1
      have ev := rep_int (opd_rep (T2 := []) (by simpa using S1) P.2 e1)
      exact ⟨n, ev, rgOk_of hr, rg_fin (x := []) S1.drop g1⟩
    · exact g1.elim
  · exact g1.elim
def gLr2 : G2 := fun x y r => match opd r x, opd r y with
  | some (.int a), some (.int b) => if rgOk a b = true then .ok (.val (.node .lst true (rgD a b))) r else .bad
  | _, _ => .bad
def cListRg2 (fa fb : Ev) : Ev := cBin gLr2 fa fb
theorem ve_listRg2 {a b : Expr} {p p2 pos pos2 : Pos} (hc : X.calm = true) (hl : Gl X "list") (hlm : X.mg "list" = none) (hg : Gl X "range") (hm : X.mg "range" = none) (ha : VE X G C W a fa) (hb : VE X G C W b fb)
    (na : starEach [a, b] X.env = (false, eval a X.env) :: starEach [b] X.env := by rfl) (nb : starEach [b] X.env = (false, eval b X.env) :: starEach [] X.env := by rfl) (hp : (backTo pos (starEach [b] X.env)).any (·.1) = false := by rfl)
    (nc : starEach [.Call (.Name "range" p) [a, b] [] pos] X.env = (false, eval (.Call (.Name "range" p) [a, b] [] pos) X.env) :: starEach [] X.env := by rfl) : VE X G C W (.Call (.Name "list" p2) [.Call (.Name "range" p) [a, b] [] pos] [] pos2) (cListRg2 fa fb) := by
  refine PE.imp (pe_listRg hc hl hlm (prg_2 hg hm ha hb na nb hp) nc) fun s H Q h => ?_
  obtain ⟨r, T, S, g⟩ := h
  refine two S g fun x y v u r2 H2 S2 lx ly g2 => ?_
  unfold gLr2 at g2
  split at g2
  · rename_i a' b' e1 e2
    split at g2
    · rename_i hr
      obtain ⟨ow, S2⟩ := S2
      have ev := rep_int (opd_rep S2 lx e1)
      have eu := rep_int (opd_rep (T := T ++ pushR x v) (T2 := []) (by rw [List.append_nil, List.append_assoc]; exact S2) ly e2)
      exact ⟨a', b', ev, eu, rgOk_of hr, rg_fin (x := []) S2.drop g2⟩
    · exact g2.elim
  · exact g2.elim
/-! ### xs.remove(k), xs.insert(i, k), xs.count(k) of whole numbers -/
def remK (i : Nat) (x : R) (r1 : Rho) : EO := match opd r1 x, r1[i]? with
  | some (.int k), some (some (.node .lst true ds)) => (match intsOf ds with
    | some ns => (match ns.findIdx? (fun n => n == k) with
      | some j => .ok (.val .non) ((r1.set i (some (.node .lst true (frzs ds)))).set i (some (.node .lst true ((ns.eraseIdx j).map .int))))
      | none => .bad)
    | none => .bad)
  | _, _ => .bad
def cRem (i : Nat) (fa : Ev) : Ev := fun r => if isLst r i = true then (fa r).bd (remK i) else .bad
theorem frzs_ints_of {ds : List D} {ns : List Int} (e : intsOf ds = some ns) : frzs ds = ds := by rw [intsOf_eq e, frzs_ints]
theorem ve_rem {i : Nat} {x : Str} {e : Expr} {p apos cpos : Pos} (hN : X.N[i]? = some x) (hv : Vis X.env.scope x) (hd : (x == ("__debug__" : Str)) = false) (hcd : (x == ("__classdict__" : Str)) = false) (ha : VE X G C W e fa)
    (hbase : attributeBase (.Name x p) "remove" X.env (eval (.Name x p) X.env) = eval (.Name x p) X.env := by rfl)
    (hfew : ((backTo cpos (starEach [e] X.env)).all (fun x => !x.1) && (backToKw cpos (keywordEach [] X.env)).all (fun x => x.1.isSome)
      && decide ([e].length + ([] : List Keyword).length + (if ([] : List Keyword).isEmpty then 0 else 1) < 30)) = true := by rfl)
    (hline : (apos.endLine == cpos.line) = true := by rfl) (hs : starEach [e] X.env = (false, eval e X.env) :: starEach [] X.env := by rfl) (hplain : (backTo cpos (starEach [] X.env)).any (·.1) = false := by rfl) :
    VE X G C W (.Call (.Attribute (.Name x p) "remove" apos) [e] [] cpos) (cRem i fa) := by
  refine PE.imp (pe_bm PySem.F.plainAttrs_list PySem.F.slot_list_remove PySem.F.type_list_remove mt_remove (pe_var hN hv hd hcd) (pa_cons ha pa_nil hs) hbase hfew hline hs hplain) fun s H Q h => ?_
  obtain ⟨r, T, S, g⟩ := h
  have g : Goes G C W T s Q (cRem i fa r) := g
  unfold cRem at g
  split at g
  · rename_i hi
    obtain ⟨o, ds, hr⟩ := isLst_at hi
    obtain ⟨ow, S0⟩ := S
    obtain ⟨v, v1, a, vs, ev, v2, v3, v4⟩ := S0.sl i _ hr
    subst ev
    refine ⟨_, v1, .inl ⟨rfl, vs, SqL.of v2⟩, ?_⟩
    refine one (fa := fa) ⟨ow, S0⟩ g fun x v' r1 H1 P g1 => ?_
    unfold remK at g1
    split at g1
    · rename_i k ds2 e1 q
      split at g1
      · rename_i ns e2
        split at g1
        · rename_i j hj
          obtain ⟨ow1, S1⟩ := P.1
          have ek := rep_int (opd_rep (T2 := []) (by simpa using S1) P.2 e1)
          obtain ⟨ow3, a', vs', z1, hA, S3, q3, rx, hn3, oa⟩ := S1.drop.mine q
          rw [v1] at z1
          cases z1
          have ev := ints_rep (by rw [frzs_ints_of e2]; exact e2) (rx ⟨.fo, []⟩)
          obtain ⟨hj1, hj2, hj3⟩ := List.findIdx?_eq_some_iff_getElem.mp hj
          have S4 := S3.relist (o' := true) (ds' := (ns.eraseIdx j).map .int) (vs' := (ns.eraseIdx j).map V.int) (l := ⟨.fo, []⟩) (n := 0) q3 v1 (frzs_ints _) (reps_ints _ _ _)
          refine ⟨a, ns, k, j, rfl, by rw [ek], by rw [← ev]; exact hA, ?_, fun m hm hm2 => ?_, g1 _ _ ⟨StOk.pushN ⟨_, S4⟩, trivial⟩⟩
          · rw [List.getElem?_eq_getElem hj1]
            have : ns[j] = k := by simpa using hj2
            rw [this]
          · obtain ⟨h1, h2⟩ := List.getElem?_eq_some_iff.mp hm2
            have := hj3 m hm
            rw [h2] at this
            simp at this
        · exact g1.elim
      · exact g1.elim
    · exact g1.elim
  · exact g.elim
/-- what a scalar is told as -/
theorem rep_atomAny {d : D} {v : V} {l l' : Loc} (a : atom d = true) (h : Rep G ow H d l v) : Rep G ow' H d l' v := by
  cases d with
  | any => trivial
  | node k o xs => cases a
  | _ => exact h
def insK (i : Nat) (x y : R) (r1 : Rho) : EO := match opd r1 x, opd r1 y, r1[i]? with
  | some (.int k), some d, some (some (.node .lst true ds)) => if atom d = true ∧ 0 ≤ k ∧ k.natAbs < 2 ^ 62 ∧ ds.length < 16777216 then .ok (.val .non) ((r1.set i (some (.node .lst true (frzs ds)))).set i (some (.node .lst true ((frzs ds).take k.toNat ++ [d] ++ (frzs ds).drop k.toNat)))) else .bad
  | _, _, _ => .bad
/-- xs.insert(k, e), e a scalar -/
def cIns (i : Nat) (fa fb : Ev) : Ev := fun r => if isLst r i = true then (fa r).bd fun x r1 => (fb r1).bd (insK i x) else .bad
theorem ve_ins {i : Nat} {x : Str} {e e2 : Expr} {p apos cpos : Pos} (hN : X.N[i]? = some x) (hv : Vis X.env.scope x) (hd : (x == ("__debug__" : Str)) = false) (hcd : (x == ("__classdict__" : Str)) = false) (ha : VE X G C W e fa) (hb : VE X G C W e2 fb)
    (hbase : attributeBase (.Name x p) "insert" X.env (eval (.Name x p) X.env) = eval (.Name x p) X.env := by rfl)
    (hfew : ((backTo cpos (starEach [e, e2] X.env)).all (fun x => !x.1) && (backToKw cpos (keywordEach [] X.env)).all (fun x => x.1.isSome)
      && decide ([e, e2].length + ([] : List Keyword).length + (if ([] : List Keyword).isEmpty then 0 else 1) < 30)) = true := by rfl)
    (hline : (apos.endLine == cpos.line) = true := by rfl) (hs : starEach [e, e2] X.env = (false, eval e X.env) :: starEach [e2] X.env := by rfl) (hs2 : starEach [e2] X.env = (false, eval e2 X.env) :: starEach [] X.env := by rfl) (hplain : (backTo cpos (starEach [e2] X.env)).any (·.1) = false := by rfl) :
    VE X G C W (.Call (.Attribute (.Name x p) "insert" apos) [e, e2] [] cpos) (cIns i fa fb) := by
  refine PE.imp (pe_bm PySem.F.plainAttrs_list PySem.F.slot_list_insert PySem.F.type_list_insert mt_insert (pe_var hN hv hd hcd) (pa_cons ha (pa_cons hb pa_nil hs2) hs) hbase hfew hline hs hplain) fun s H Q h => ?_
  obtain ⟨r, T, S, g⟩ := h
  have g : Goes G C W T s Q (cIns i fa fb r) := g
  unfold cIns at g
  split at g
  · rename_i hi
    obtain ⟨o, ds, hr⟩ := isLst_at hi
    obtain ⟨ow, S0⟩ := S
    obtain ⟨v, v1, a, vs, ev, v2, v3, v4⟩ := S0.sl i _ hr
    subst ev
    refine ⟨_, v1, .inl ⟨rfl, vs, SqL.of v2⟩, ?_⟩
    refine two (fa := fa) (fb := fb) ⟨ow, S0⟩ g fun x y v' u r1 H1 P lx ly g1 => ?_
    unfold insK at g1
    split at g1
    · rename_i k d ds2 e1 e2 q
      split at g1
      · rename_i hz
        obtain ⟨az, k0, k1, hl⟩ := hz
        obtain ⟨ow1, S1⟩ := P
        have ek := rep_int (opd_rep S1 lx e1)
        have ed := opd_rep (T := T ++ pushR x v') (T2 := []) (by rw [List.append_nil, List.append_assoc]; exact S1) ly e2
        obtain ⟨ow3, a', vs', z1, hA, S3, q3, rx, hn3, oa⟩ := S1.drop.mine q
        rw [v1] at z1
        cases z1
        have l1 := (rx ⟨.fo, []⟩).length
        have fd : frz d = d := by
          cases d with
          | node k o xs => cases az
          | _ => rfl
        have ft : frzs ((frzs ds2).take k.toNat) = (frzs ds2).take k.toNat := by rw [frzs_map, List.map_take, ← frzs_map, frzs_frzs]
        have fdr : frzs ((frzs ds2).drop k.toNat) = (frzs ds2).drop k.toNat := by rw [frzs_map, List.map_drop, ← frzs_map, frzs_frzs]
        have f1 : frzs [d] = [d] := by show [frz d] = _; rw [fd]
        have rt : Reps G ow3 H1 ((frzs ds2).take k.toNat) ⟨.fo, []⟩ 0 (vs'.take k.toNat) := Reps.of_get (by rw [List.length_take, List.length_take, l1]) fun j dj vj q1 q2 => by
          have hj : j < k.toNat := by
            have := (List.getElem?_eq_some_iff.mp q1).1
            rw [List.length_take] at this; omega
          rw [List.getElem?_take_of_lt hj] at q1 q2
          obtain ⟨v', w1, w2⟩ := (rx ⟨.fo, []⟩).get j dj q1
          rw [q2] at w1
          cases w1
          exact w2
        have rdr : Reps G ow3 H1 ((frzs ds2).drop k.toNat) ⟨.fo, []⟩ 0 (vs'.drop k.toNat) := Reps.of_get (by rw [List.length_drop, List.length_drop, l1]) fun j dj vj q1 q2 => by
          rw [List.getElem?_drop] at q1 q2
          obtain ⟨v', w1, w2⟩ := (rx ⟨.fo, []⟩).get _ dj q1
          rw [q2] at w1
          cases w1
          exact Rep.moveF _ (frz_at (frzs_frzs ds2) q1) (fun _ _ z q => ⟨z, q⟩) (fun _ _ z _ => z) w2
        have r1' : Reps G ow3 H1 [d] ⟨.fo, []⟩ 0 [u] := ⟨_, _, rfl, rep_atomAny az ed, rfl⟩
        have ra := Reps.app (by rw [frzs_append, ft, f1]) fdr (Reps.app ft f1 rt r1') rdr
        have S4 := S3.relist (o' := true) q3 v1 (by rw [frzs_append, frzs_append, ft, f1, fdr]) ra
        rw [frzs_length] at l1
        exact ⟨a, vs', k, u, rfl, by rw [ek], hA, by rw [sizeLine_eq, ← l1]; exact hl, k0, by omega, g1 _ _ ⟨StOk.pushN ⟨_, S4⟩, trivial⟩⟩
      · exact g1.elim
    · exact g1.elim
  · exact g.elim
def gCount : G2 := fun x y r => match opd r x, opd r y with
  | some (.node .lst _ ds), some (.int k) => (match intsOf ds with
    | some ns => .ok (.val (.int (ns.count k : Nat))) r
    | none => .bad)
  | _, _ => .bad
def cCount (i : Nat) (fa : Ev) : Ev := fun r => if isLst r i = true then cBin gCount (cVar i) fa r else .bad
theorem ve_count {i : Nat} {x : Str} {e : Expr} {p apos cpos : Pos} (hN : X.N[i]? = some x) (hv : Vis X.env.scope x) (hd : (x == ("__debug__" : Str)) = false) (hcd : (x == ("__classdict__" : Str)) = false) (ha : VE X G C W e fa)
    (hbase : attributeBase (.Name x p) "count" X.env (eval (.Name x p) X.env) = eval (.Name x p) X.env := by rfl)
    (hfew : ((backTo cpos (starEach [e] X.env)).all (fun x => !x.1) && (backToKw cpos (keywordEach [] X.env)).all (fun x => x.1.isSome)
      && decide ([e].length + ([] : List Keyword).length + (if ([] : List Keyword).isEmpty then 0 else 1) < 30)) = true := by rfl)
    (hline : (apos.endLine == cpos.line) = true := by rfl) (hs : starEach [e] X.env = (false, eval e X.env) :: starEach [] X.env := by rfl) (hplain : (backTo cpos (starEach [] X.env)).any (·.1) = false := by rfl) :
    VE X G C W (.Call (.Attribute (.Name x p) "count" apos) [e] [] cpos) (cCount i fa) := by
  refine PE.imp (pe_bm PySem.F.plainAttrs_list PySem.F.slot_list_count PySem.F.type_list_count mt_lcount (pe_var hN hv hd hcd) (pa_cons ha pa_nil hs) hbase hfew hline hs hplain) fun s H Q h => ?_
  obtain ⟨r, T, S, g⟩ := h
  have g : Goes G C W T s Q (cCount i fa r) := g
  unfold cCount at g
  split at g
  · rename_i hi
    obtain ⟨o, ds, hr⟩ := isLst_at hi
    obtain ⟨ow, S0⟩ := S
    obtain ⟨v, v1, a, vs, ev, v2, v3, v4⟩ := S0.sl i _ hr
    subst ev
    refine ⟨_, v1, .inl ⟨rfl, vs, SqL.of v2⟩, ?_⟩
    rw [show cBin gCount (cVar i) fa r = (fa r).bd fun y r1 => gCount (.loc i) y r1 from by
      show (cVar i r).bd _ = _
      rw [cvar_loc hr rfl]
      rfl] at g
    refine one (fa := fa) ⟨ow, S0⟩ g fun y v' r1 H1 P g1 => ?_
    unfold gCount at g1
    split at g1
    · rename_i o2 ds2 k e1 e2
      split at g1
      · rename_i ns e3
        obtain ⟨ow1, S1⟩ := P.1
        have ek := rep_int (opd_rep (T2 := []) (by simpa using S1) P.2 e2)
        have q := opd_loc e1
        obtain ⟨v2', w1, a2, vs2, ev2, w2, w3, w4⟩ := S1.sl i _ q
        rw [v1] at w1
        cases w1
        cases ev2
        have ev := ints_rep e3 w4
        exact ⟨a, ns, k, rfl, by rw [ek], by rw [← ev]; exact SqL.of w2, g1 _ _ ⟨StOk.pushI _ ⟨_, S1.drop⟩, trivial⟩⟩
      · exact g1.elim
    · exact g1.elim
  · exact g.elim
end
/-! ### sorted(xs) of whole numbers -/
def ins1 (x : Int) : List Int → List Int
  | [] => [x]
  | y :: ys => if x ≤ y then x :: y :: ys else y :: ins1 x ys
def srt : List Int → List Int
  | [] => []
  | x :: xs => ins1 x (srt xs)
theorem ins1_perm (x : Int) : ∀ ys : List Int, (ins1 x ys).Perm (x :: ys)
  | [] => List.Perm.refl _
  | y :: ys => by
    unfold ins1
    split
    · exact List.Perm.refl _
    · exact ((ins1_perm x ys).cons y).trans (List.Perm.swap x y ys)
theorem srt_perm : ∀ xs : List Int, (srt xs).Perm xs
  | [] => List.Perm.refl _
  | x :: xs => (ins1_perm x (srt xs)).trans ((srt_perm xs).cons x)
theorem ins1_up (x : Int) : ∀ ys : List Int, ys.Pairwise (· ≤ ·) → (ins1 x ys).Pairwise (· ≤ ·)
  | [], _ => by simp [ins1]
  | y :: ys, h => by
    unfold ins1
    have h1 := List.pairwise_cons.mp h
    split
    · rename_i hx
      refine List.pairwise_cons.mpr ⟨fun z hz => ?_, h⟩
      rcases List.mem_cons.mp hz with e | e
      · rw [e]; exact hx
      · exact Int.le_trans hx (h1.1 z e)
    · rename_i hx
      refine List.pairwise_cons.mpr ⟨fun z hz => ?_, ins1_up x ys h1.2⟩
      rcases List.mem_cons.mp ((ins1_perm x ys).mem_iff.mp hz) with e | e
      · rw [e]; omega
      · exact h1.1 z e
theorem srt_up : ∀ xs : List Int, (srt xs).Pairwise (· ≤ ·)
  | [] => List.Pairwise.nil
  | x :: xs => ins1_up x _ (srt_up xs)
theorem up_unique : ∀ {xs ys : List Int}, xs.Perm ys → xs.Pairwise (· ≤ ·) → ys.Pairwise (· ≤ ·) → xs = ys
  | [], ys, p, _, _ => by rw [List.nil_perm.mp p]
  | x :: xs, [], p, _, _ => by have := p.length_eq; simp at this
  | x :: xs, y :: ys, p, h1, h2 => by
    have h1' := List.pairwise_cons.mp h1
    have h2' := List.pairwise_cons.mp h2
    have e1 : x ≤ y := by
      rcases List.mem_cons.mp (p.mem_iff.mpr (List.mem_cons_self : y ∈ y :: ys)) with e | e
      · omega
      · exact h1'.1 y e
    have e2 : y ≤ x := by
      rcases List.mem_cons.mp (p.mem_iff.mp (List.mem_cons_self : x ∈ x :: xs)) with e | e
      · omega
      · exact h2'.1 x e
    have e : x = y := Int.le_antisymm e1 e2
    subst e
    rw [up_unique ((List.perm_cons x).mp p) h1'.2 h2'.2]
def gSortedI : List R → Rho → EO := fun xs r => match xs with
  | [x] => (match opd r x with
    | some (.node .lst _ ds) => (match intsOf ds with
      | some ns => .ok (.val (.node .lst true ((srt ns).map .int))) r
      | none => .bad)
    | _ => .bad)
  | _ => .bad
section
variable {X : Cx} {G : GX} {C : Fc} {W : WX} {ow ow' : Ow} {r : Rho} {T T1 T2 : List (D × V)} {s : L2.St} {H H' : Hp} {fa fb fc : Ev} {f g : Sv} {fs : Av}
theorem cs_sortedI : CallS X (.builtin "sorted") gSortedI := by
  refine ⟨_, cr_sortedI, fun G hG C W r T s H xs vs Q S l q => ?_⟩
  unfold gSortedI at q
  split at q
  · rename_i x
    obtain ⟨v, ev, lx, ep⟩ := one_arg l
    rw [ep] at S
    subst ev
    obtain ⟨ow, S⟩ := S
    split at q
    · rename_i o ds e1
      split at q
      · rename_i ns e2
        obtain ⟨a, ws, ev, h1, h2, h3⟩ := opd_rep (T2 := []) (by simpa using S) lx e1
        subst ev
        have ev := ints_rep e2 h3
        refine ⟨a, ns, rfl, by rw [← ev]; exact SqL.of h1, fun ns' p hp up hn => ?_⟩
        have e : ns' = srt ns := up_unique (hp.trans (srt_perm ns).symm) up (srt_up ns)
        subst e
        exact S.drop.made (l := ⟨.fo, []⟩) (i := 0) (frzs_ints _) (reps_ints _ _ _) q p hn
      · exact q.elim
    · exact q.elim
  · exact q.elim
/-! ### max(xs), min(xs), all(xs) of a list -/
def maxL : List Int → Option Int
  | [] => none
  | x :: xs => some (xs.foldl max x)
def minL : List Int → Option Int
  | [] => none
  | x :: xs => some (xs.foldl min x)
theorem foldl_max (xs : List Int) : ∀ x : Int, x ≤ xs.foldl max x ∧ (∀ y ∈ xs, y ≤ xs.foldl max x) ∧ (xs.foldl max x = x ∨ xs.foldl max x ∈ xs) := by
  induction xs with
  | nil => exact fun x => ⟨Int.le_refl x, fun y hy => by simp at hy, .inl rfl⟩
  | cons z xs ih =>
    intro x
    obtain ⟨h1, h2, h3⟩ := ih (max x z)
    refine ⟨Int.le_trans (Int.le_max_left x z) h1, fun y hy => ?_, ?_⟩
    · rcases List.mem_cons.mp hy with e | e
      · rw [e]; exact Int.le_trans (Int.le_max_right x z) h1
      · exact h2 y e
    · rcases h3 with e | e
      · show xs.foldl max (max x z) = x ∨ xs.foldl max (max x z) ∈ z :: xs
        rw [e]
        rcases Int.le_total x z with q | q
        · right; rw [Int.max_eq_right q]; exact List.mem_cons_self
        · left; exact Int.max_eq_left q
      · exact .inr (List.mem_cons_of_mem _ e)
theorem foldl_min (xs : List Int) : ∀ x : Int, xs.foldl min x ≤ x ∧ (∀ y ∈ xs, xs.foldl min x ≤ y) ∧ (xs.foldl min x = x ∨ xs.foldl min x ∈ xs) := by
  induction xs with
  | nil => exact fun x => ⟨Int.le_refl x, fun y hy => by simp at hy, .inl rfl⟩
  | cons z xs ih =>
    intro x
    obtain ⟨h1, h2, h3⟩ := ih (min x z)
    refine ⟨Int.le_trans h1 (Int.min_le_left x z), fun y hy => ?_, ?_⟩
    · rcases List.mem_cons.mp hy with e | e
      · rw [e]; exact Int.le_trans h1 (Int.min_le_right x z)
      · exact h2 y e
    · rcases h3 with e | e
      · show xs.foldl min (min x z) = x ∨ xs.foldl min (min x z) ∈ z :: xs
        rw [e]
        rcases Int.le_total x z with q | q
        · left; exact Int.min_eq_left q
        · right; rw [Int.min_eq_right q]; exact List.mem_cons_self
      · exact .inr (List.mem_cons_of_mem _ e)
def lstInts : D → Option (List Int)
  | .node .lst _ ds => intsOf ds
  | _ => none
def maxD (d : D) : Option D := (lstInts d).bind fun ns => (maxL ns).map .int
def minD (d : D) : Option D := (lstInts d).bind fun ns => (minL ns).map .int
theorem lstInts_rep {d : D} {ns : List Int} {l : Loc} {v : V} (K : PySem.W.Frag) (e : lstInts d = some ns) (h : Rep G ow H d l v) : ∃ a, v = .ref a ∧ SqL K H a (ns.map V.int) := by
  cases d with
  | node k o xs =>
    cases k with
    | lst =>
      obtain ⟨a, vs, ev, h1, h2, h3⟩ := h
      exact ⟨a, ev, by rw [← ints_rep e h3]; exact SqL.of h1⟩
    | _ => cases e
  | _ => cases e
theorem cs_maxL (hc : X.calm = true) : CallS X (.builtin "max") (b1 maxD) := by
  refine CallS.scal (cr_max hc) fun G hG ow H d z l v Q h e q => ?_
  unfold maxD at e
  cases e1 : lstInts d with
  | none => rw [e1] at e; cases e
  | some ns =>
    rw [e1] at e
    obtain ⟨a, ev, hs⟩ := lstInts_rep X.K e1 h
    cases ns with
    | nil => cases e
    | cons x xs =>
      cases e
      refine ⟨a, x :: xs, by rw [ev], hs, by simp, fun m hm hy => ?_⟩
      obtain ⟨h1, h2, h3⟩ := foldl_max xs x
      have e : m = xs.foldl max x := by
        refine Int.le_antisymm ?_ ?_
        · rcases List.mem_cons.mp hm with e | e
          · rw [e]; exact h1
          · exact h2 m e
        · rcases h3 with e | e
          · rw [e]; exact hy x List.mem_cons_self
          · exact hy _ (List.mem_cons_of_mem _ e)
      rw [e]
      exact q _ fun _ _ => rfl
theorem cs_minL (hc : X.calm = true) : CallS X (.builtin "min") (b1 minD) := by
  refine CallS.scal (cr_min hc) fun G hG ow H d z l v Q h e q => ?_
  unfold minD at e
  cases e1 : lstInts d with
  | none => rw [e1] at e; cases e
  | some ns =>
    rw [e1] at e
    obtain ⟨a, ev, hs⟩ := lstInts_rep X.K e1 h
    cases ns with
    | nil => cases e
    | cons x xs =>
      cases e
      refine ⟨a, x :: xs, by rw [ev], hs, by simp, fun m hm hy => ?_⟩
      obtain ⟨h1, h2, h3⟩ := foldl_min xs x
      have e : m = xs.foldl min x := by
        refine Int.le_antisymm ?_ ?_
        · rcases h3 with e | e
          · rw [e]; exact hy x List.mem_cons_self
          · exact hy _ (List.mem_cons_of_mem _ e)
        · rcases List.mem_cons.mp hm with e | e
          · rw [e]; exact h1
          · exact h2 m e
      rw [e]
      exact q _ fun _ _ => rfl
def blsOf : List D → Option (List Bool)
  | [] => some []
  | .bl b :: ds => (match blsOf ds with
    | some bs => some (b :: bs)
    | none => none)
  | _ :: _ => none
theorem bls_rep : ∀ {ds : List D} {bs : List Bool} {l : Loc} {i : Nat} {vs : List V}, blsOf ds = some bs → Reps G ow H ds l i vs → vs = bs.map V.bl
  | [], _, _, _, vs, e, h => by
    cases e
    exact h
  | d :: ds, bs, l, i, vs, e, h => by
    obtain ⟨v, ws, ev, h1, h2⟩ := h
    cases d with
    | bl b =>
      unfold blsOf at e
      cases e2 : blsOf ds with
      | none => rw [e2] at e; cases e
      | some bs' =>
        rw [e2] at e
        cases e
        rw [ev, rep_bl h1, bls_rep e2 h2]
        rfl
    | _ => cases e
theorem blsOf_map (bs : List Bool) : blsOf (bs.map D.bl) = some bs := by
  induction bs with
  | nil => rfl
  | cons b bs ih => show (match blsOf (bs.map D.bl) with | some ms => some (b :: ms) | none => none) = _; rw [ih]
def allD : D → Option D
  | .node .lst _ ds => (blsOf ds).map fun bs => .bl (bs.all id)
  | _ => none
theorem cs_allL (hc : X.calm = true) : CallS X (.builtin "all") (b1 allD) := by
  refine CallS.scal (cr_all hc) fun G hG ow H d z l v Q h e q => ?_
  cases d with
  | node k o xs =>
    cases k with
    | lst =>
      obtain ⟨a, vs, ev, h1, h2, h3⟩ := h
      simp only [allD] at e
      cases e2 : blsOf xs with
      | none => rw [e2] at e; cases e
      | some bs =>
        rw [e2] at e
        cases e
        exact ⟨a, bs, by rw [ev], by rw [← bls_rep e2 h3]; exact SqL.of h1, q _ fun _ _ => rfl⟩
    | _ => cases e
  | _ => cases e
end
end VL

namespace VL
open PySem PySem.Spec PyProof.Rows L2
def chL (g : Int → Int → Bool) (j : Int) (w : R) (r : Rho) : EO := match opd r w with
  | some (.int k) => .ok (.val (.bl (g j k))) r
  | _ => .bad
def chK (f g : Int → Int → Bool) (fc : Ev) (x y : R) (r : Rho) : EO := match opd r x, opd r y with
  | some (.int i), some (.int j) => if f i j = true then (fc r).bd (chL g j) else .ok (.val (.bl false)) r
  | _, _ => .bad
/-- a < b < c of whole numbers -/
def cChain (f g : Int → Int → Bool) (fa fb fc : Ev) : Ev := fun r => (fa r).bd fun x r1 => (fb r1).bd (chK f g fc x)
section
variable {X : Cx} {G : GX} {C : Fc} {W : WX} {ow ow' : Ow} {r : Rho} {T T1 T2 : List (D × V)} {s : L2.St} {H H' : Hp} {fa fb fc : Ev} {fs : Av} {f g : Int → Int → Bool}
theorem chain_in {Q : VK} (h : tV G C W (cChain f g fa fb fc) s H Q) : tChain (rI0 fun i j => .bl (f i j)) (rI0 fun i j => .bl (g i j)) (tV G C W fa) (tV G C W fb) (tV G C W fc) s H Q := by
  obtain ⟨r, T, S, h⟩ := h
  refine two S h fun x y v u r2 H2 S2 lx ly g2 => ?_
  unfold chK at g2
  split at g2
  · rename_i i j e1 e2
    have S2' := S2
    obtain ⟨ow, S2⟩ := S2
    have ev := rep_int (opd_rep S2 lx e1)
    have eu := rep_int (opd_rep (T := T ++ pushR x v) (T2 := []) (by rw [List.append_nil, List.append_assoc]; exact S2) ly e2)
    refine ⟨i, j, ev, eu, f i j, rfl, ?_⟩
    split at g2
    · rename_i hf
      rw [if_pos hf]
      refine one S2'.drop g2 fun w u' r3 H3 P g3 => ?_
      unfold chL at g3
      split at g3
      · rename_i k e3
        obtain ⟨ow3, S3⟩ := P.1
        have ew := rep_int (opd_rep (T2 := []) (by simpa using S3) P.2 e3)
        exact ⟨j, k, eu, ew, g3 _ _ ⟨StOk.pushB _ ⟨_, S3.drop⟩, trivial⟩⟩
      · exact g3.elim
    · rename_i hf
      rw [if_neg hf]
      exact g2 _ _ ⟨StOk.pushB _ S2'.drop, trivial⟩
  · exact g2.elim
theorem ve_chain {op op' : CmpOp} {a b c : Expr} {pos : Pos} (ho : OpR X (compareOp op) (rI0 fun i j => .bl (f i j))) (ho' : OpR X (compareOp op') (rI0 fun i j => .bl (g i j))) (ha : VE X G C W a fa) (hb : VE X G C W b fb) (hc : VE X G C W c fc)
    (hm : lastMarks [op, op'] [b, c] = false := by with_unfolding_all rfl) : VE X G C W (.Compare a [op, op'] [b, c] pos) (cChain f g fa fb fc) :=
  PE.imp (pe_chain ho ho' ha hb hc hm) fun s H Q h => chain_in h
theorem vt_chain {op op' : CmpOp} {a b c : Expr} {pos : Pos} (ho : OpR X (compareOp op) (rI0 fun i j => .bl (f i j))) (ho' : OpR X (compareOp op') (rI0 fun i j => .bl (g i j))) (ha : VE X G C W a fa) (hb : VE X G C W b fb) (hc : VE X G C W c fc)
    (hm : lastMarks [op, op'] [b, c] = false := by with_unfolding_all rfl) : VT X G C W (.Compare a [op, op'] [b, c] pos) (cChain f g fa fb fc) :=
  PT.imp (pt_chain ho ho' ha hb hc hm) fun s H Q h => chain_in (tV_bl h)
end
theorem chain_ok {f g : Int → Int → Bool} {fa fb fc : Ev} {r r1 r2 : Rho} {i j k : Int} (h1 : fa r = .ok (.val (.int i)) r1) (h2 : fb r1 = .ok (.val (.int j)) r2) (h3 : fc r2 = .ok (.val (.int k)) r2) : cChain f g fa fb fc r = .ok (.val (.bl (f i j && g j k))) r2 := by
  unfold cChain
  rw [h1, bd_ok, h2, bd_ok]
  unfold chK
  show (if f i j = true then (fc r2).bd (chL g j) else EO.ok (.val (.bl false)) r2) = _
  rw [h3, bd_ok]
  cases h : f i j with
  | true => rw [if_pos rfl]; rfl
  | false => rw [if_neg (by decide)]; rfl
/-! ### simp lemmas of the new parts -/
@[simp] theorem q_iEn {fs : Av} {r : Rho} {o : Bool} {ds : List D} {r1 : Rho} (h : fs r = .ok [.val (.node .lst o ds)] r1) : iRng gEn fs r = .ok (enumD 0 (frzs ds)) r1 := by
  rw [q_iRng, h]; rfl
theorem it_enum {fa : Ev} {r r1 : Rho} {o : Bool} {ds : List D} (h : fa r = .ok (.val (.node .lst o ds)) r1) (f : frzs ds = ds) : iRng gEn (cCons (cSet fa) cNil) r = .ok (enumD 0 ds) r1 := by
  rw [q_iRng, q_cons, q_set, h, bd_ok]
  show IO.ok (enumD 0 (frzs ds)) r1 = _
  rw [f]
theorem listRg1_ok {fa : Ev} {r r1 : Rho} {n : Int} (h : fa r = .ok (.val (.int n)) r1) (hr : rgOk 0 n = true) : cListRg1 fa r = .ok (.val (.node .lst true (rgD 0 n))) r1 := by
  unfold cListRg1
  rw [h, bd_ok]
  show (if rgOk 0 n = true then _ else _) = _
  rw [if_pos hr]
theorem rem_ok {fa : Ev} {r r1 : Rho} {i j : Nat} {k : Int} {ns : List Int} (hi : isLst r i = true) (h : fa r = .ok (.val (.int k)) r1) (h2 : r1[i]? = some (some (.node .lst true (ns.map .int)))) (hj : ns.findIdx? (fun n => n == k) = some j) : cExpr (cRem i fa) r = .nx (r1.set i (some (.node .lst true ((ns.eraseIdx j).map .int)))) := by
  rw [q_expr]
  unfold cRem
  rw [if_pos hi, h, bd_ok]
  unfold remK
  show (match some (D.int k), r1[i]? with | some (.int k), some (some (.node .lst true ds)) => _ | _, _ => _ : EO).st _ = _
  rw [h2]
  show (match intsOf (ns.map D.int) with | some ns' => (match ns'.findIdx? (fun n => n == k) with | some j => EO.ok (.val .non) ((r1.set i (some (.node .lst true (frzs (ns.map .int))))).set i (some (.node .lst true ((ns'.eraseIdx j).map .int)))) | none => .bad) | none => .bad).st _ = _
  rw [intsOf_map]
  show (match ns.findIdx? (fun n => n == k) with | some j => EO.ok (.val .non) ((r1.set i (some (.node .lst true (frzs (ns.map .int))))).set i (some (.node .lst true ((ns.eraseIdx j).map .int)))) | none => .bad).st _ = _
  rw [hj]
  show SO.nx ((r1.set i _).set i _) = _
  rw [List.set_set]
theorem ins_ok {fa fb : Ev} {r r1 r2 : Rho} {i : Nat} {k : Int} {d : D} {ds : List D} (hi : isLst r i = true) (h1 : fa r = .ok (.val (.int k)) r1) (h2 : fb r1 = .ok (.val d) r2) (h3 : r2[i]? = some (some (.node .lst true ds))) (f : frzs ds = ds) (ha : atom d = true) (hk : 0 ≤ k) (hk2 : k < 1000000000) (hl : ds.length < 16777216) :
    cExpr (cIns i fa fb) r = .nx (r2.set i (some (.node .lst true (ds.take k.toNat ++ [d] ++ ds.drop k.toNat)))) := by
  rw [q_expr]
  unfold cIns
  rw [if_pos hi, h1, bd_ok, h2, bd_ok]
  unfold insK
  show (match some (D.int k), some d, r2[i]? with | some (.int k), some d, some (some (.node .lst true ds)) => _ | _, _, _ => _ : EO).st _ = _
  rw [h3]
  show (if atom d = true ∧ 0 ≤ k ∧ k.natAbs < 2 ^ 62 ∧ ds.length < 16777216 then EO.ok (.val .non) ((r2.set i (some (.node .lst true (frzs ds)))).set i (some (.node .lst true ((frzs ds).take k.toNat ++ [d] ++ (frzs ds).drop k.toNat)))) else .bad).st _ = _
  rw [if_pos ⟨ha, hk, by omega, hl⟩, f, List.set_set]
  rfl
theorem count_ok {fa : Ev} {r : Rho} {i : Nat} {k : Int} {o : Bool} {ns : List Int} (h2 : r[i]? = some (some (.node .lst o (ns.map .int)))) (h : fa r = .ok (.val (.int k)) r) : cCount i fa r = .ok (.val (.int (ns.count k : Nat))) r := by
  unfold cCount
  have hi : isLst r i = true := by rw [q_isLst, h2]
  rw [if_pos hi]
  refine bin_ok (cvar_loc h2 rfl) h ?_
  unfold gCount
  rw [opd_loc' h2]
  show (match intsOf (ns.map D.int) with | some ns => EO.ok (.val (.int (ns.count k : Nat))) r | none => .bad) = _
  rw [intsOf_map]
theorem sortedI_ok {fa : Ev} {r r1 : Rho} {x : R} {o : Bool} {ns : List Int} (h : fa r = .ok x r1) (ho : opd r1 x = some (.node .lst o (ns.map .int))) : cB gSortedI (cCons fa cNil) r = .ok (.val (.node .lst true ((srt ns).map .int))) r1 := by
  rw [q_B, q_cons, h]
  show (match opd r1 x with | some (.node .lst _ ds) => (match intsOf ds with | some ns => EO.ok (.val (.node .lst true ((srt ns).map .int))) r1 | none => .bad) | _ => .bad) = _
  rw [ho]
  show (match intsOf (ns.map D.int) with | some ns => EO.ok (.val (.node .lst true ((srt ns).map .int))) r1 | none => .bad) = _
  rw [intsOf_map]
theorem index_ok {fa : Ev} {r : Rho} {i j : Nat} {k : Int} {o : Bool} {ns : List Int} (h2 : r[i]? = some (some (.node .lst o (ns.map .int)))) (h : fa r = .ok (.val (.int k)) r) (hj : ns.findIdx? (fun n => n == k) = some j) : cIdx i fa r = .ok (.val (.int j)) r := by
  rw [q_idx, if_pos (by rw [q_isLst, h2])]
  refine bin_ok (cvar_loc h2 rfl) h ?_
  rw [q_gIndex, opd_loc' h2]
  show (if (flatD (.int k) && (ns.map D.int).all flatD) = true then (match idxD (ns.map D.int) (.int k) with | some j => EO.ok (.val (.int (j : Nat))) r | none => .bad) else .bad) = _
  rw [flat_ints, idx_ints, hj]
  rfl
end VL

namespace VL
open PySem PySem.Spec PyProof.Rows L2
/-! ### a comprehension over a name's own list, which stays one's own -/
def lcO (i n : Nat) (t : Tg) (fc : Option Ev) (fe : Ev) (vs : List Nat) : Nat → List D → Rho → LO
  | 0, acc, r => (match r[i]? with
    | some (some (.node .lst true ds)) => if ds.length = n then .ok acc r else .bad
    | _ => .bad)
  | k + 1, acc, r => (match r[i]? with
    | some (some (.node .lst true ds)) => if ds.length = n then (match ds[n - (k + 1)]? with
      | some d => (match tgt t (frz d) (r.set i (some (.node .lst true (frzs ds)))) with
        | none => .bad
        | some r1 => (match tstR fc r1 with
          | .ok (.val (.bl true)) r2 => (match cSet fe r2 with
            | .ok (.val e) r3 => if acc.length < 16777216 then lcO i n t fc fe vs k (acc ++ [e]) (wipeR r3 vs) else .bad
            | _ => .bad)
          | .ok (.val (.bl false)) r2 => lcO i n t fc fe vs k acc (wipeR r2 vs)
          | _ => .bad))
      | none => .bad) else .bad
    | _ => .bad)
def cLcO (i : Nat) (vs : List Nat) (t : Tg) (fc : Option Ev) (fe : Ev) : Ev := fun r => match r[i]? with
  | some (some (.node .lst true ds)) => if i ∈ vs then .bad else (match lcO i ds.length t fc fe vs ds.length [] (wipeR r vs) with
    | .ok acc r2 => .ok (.val (.node .lst true acc)) (backR r r2 vs)
    | .bad => .bad)
  | _ => .bad
theorem wipeR_at {i : Nat} : ∀ {vs : List Nat} {r : Rho}, i ∉ vs → (wipeR r vs)[i]? = r[i]?
  | [], r, _ => rfl
  | v :: vs, r, h => by
    show ((wipeR r vs).set v none)[i]? = _
    rw [List.getElem?_set_ne (fun e => h (by rw [e]; exact List.mem_cons_self)), wipeR_at (fun m => h (List.mem_cons_of_mem _ m))]
section
variable {X : Cx} {G : GX} {C : Fc} {W : WX} {ow ow' : Ow} {r : Rho} {T T1 T2 : List (D × V)} {s : L2.St} {H H' : Hp} {fa fb fc : Ev} {f g : Sv} {fs : Av}
theorem lc_goO {i : Nat} {vs : List Nat} {t : Tg} {fc : Option Ev} {fe : Ev} {Q : VK} (hpin : ∀ p ∈ C.pin, p.1 ∉ vs) (ht : ∀ i ∈ t.slots, i ∈ vs) (h : tV G C W (cLcO i vs t fc fe) s H Q) :
    tLc (iList X.K fun s H Q => ∃ v, s[i]? = some (some v) ∧ Q v H) (fun v s H Q => ∃ a, tVG G (C.pinned i (.ref a)) t v s H Q) (fun s H Q => ∃ a, tVT G (C.pinned i (.ref a)) W0 (tstR fc) s H Q) (fun s H Q => ∃ a, tV G (C.pinned i (.ref a)) W0 (cSet fe) s H Q) vs s H Q := by
  obtain ⟨r, T, S, h⟩ := h
  have h : Goes G C W T s Q (cLcO i vs t fc fe r) := h
  unfold cLcO at h
  split at h
  case h_2 => exact h.elim
  rename_i ds0 q0
  split at h
  · exact h.elim
  rename_i hiv
  obtain ⟨ow, S⟩ := S
  obtain ⟨v, z1, a, ws, ev, z2, z3, z4⟩ := S.sl i _ q0
  subst ev
  refine ⟨.ref a, z1, a, rfl, ⟨ws, SqL.of z2⟩, fun da hD => ?_⟩
  have hpin' : ∀ p ∈ (C.pinned i (.ref a)).pin, p.1 ∉ vs := pinCo hpin hiv
  have pins : ∀ {r' : Rho} {T' : List (D × V)} {s' : L2.St} {H' : Hp}, StOk G (C.pinned i (.ref a)) r' T' s' H' → StOk G (C.pinned i (.ref a)) (wipeR r' vs) T' (wipe s' vs) H' := fun {r' T' s' H'} ⟨ow', S'⟩ => ⟨ow', S'.wipes hpin'⟩
  cases eL : lcO i ds0.length t fc fe vs ds0.length [] (wipeR r vs) with
  | bad => rw [eL] at h; exact h.elim
  | ok acc r2 =>
    simp only [eL] at h
    have S1 : StOk G (C.pinned i (.ref a)) r T s H := ⟨ow, S.pinned z1⟩
    have S2 : StOk G (C.pinned i (.ref a)) (wipeR r vs) (T ++ [(.node .lst true [], .ref da)]) (wipe s vs) (upd H da (.lst [])) :=
      pins (StOk.alloc (ds := []) (vs := []) true (by simpa using S1) rfl hD holds_lst (fun _ => trivial))
    refine ⟨fun j m H' => m = ds0.length - j ∧ j ≤ ds0.length ∧ ∃ ac r', StOk G (C.pinned i (.ref a)) (wipeR r' vs) (T ++ [(.node .lst true ac, .ref da)]) (wipe s vs) H' ∧ lcO i ds0.length t fc fe vs (ds0.length - j) ac (wipeR r' vs) = .ok acc r2,
      ⟨ds0.length, by simp, Nat.zero_le _, [], r, S2, by simpa using eL⟩, ?_⟩
    rintro j m H' ⟨rfl, hj, ac, r', ⟨ow', S'⟩, h'⟩
    have hp0 := S'.pin (i, .ref a) List.mem_cons_self
    by_cases hlt : j < ds0.length
    · obtain ⟨k, hk⟩ : ∃ k, ds0.length - j = k + 1 := ⟨ds0.length - j - 1, by omega⟩
      rw [hk] at h'
      unfold lcO at h'
      split at h'
      case h_2 => cases h'
      rename_i ds q
      split at h'
      case isFalse => cases h'
      rename_i hl
      have ej : ds0.length - (k + 1) = j := by omega
      rw [ej] at h'
      split at h'
      case h_2 => cases h'
      rename_i d hd'
      obtain ⟨ow2, a2, vs2, w1, hA, S3, q2, rx, _, _⟩ := S'.mine q
      rw [hp0] at w1
      cases w1
      have hdf : (frzs ds)[j]? = some (frz d) := by rw [frzs_map, List.getElem?_map, hd']; rfl
      obtain ⟨y, y1, y2⟩ := (rx ⟨.fo, []⟩).get j _ hdf
      have kk : ds0.length - (j + 1) = k := by omega
      refine .inr ⟨⟨vs2, y, SqL.of hA, y1⟩, fun H' => j + 1 ≤ ds0.length ∧ ∃ ac r', StOk G (C.pinned i (.ref a)) (wipeR r' vs) (T ++ [(.node .lst true ac, .ref da)]) (wipe s vs) H' ∧ lcO i ds0.length t fc fe vs (ds0.length - (j + 1)) ac (wipeR r' vs) = .ok acc r2,
        fun H2 n2 => ⟨ds0.length - (j + 1), by omega, rfl, n2.1, n2.2⟩, fun x H2 yl => ?_⟩
      obtain ⟨e1, e2⟩ := yl
      subst e1
      have ex := e2 vs2 (SqL.of hA)
      rw [y1] at ex
      cases ex
      refine ⟨a, _, _, frz d, ⟨ow2, S3.push (Rep.moveF _ (frz_frz d) (fun _ _ z q => ⟨z, q⟩) (fun _ _ z _ => z) y2)⟩, ?_⟩
      split at h'
      case h_1 => cases h'
      rename_i r3 et
      rw [et]
      intro s4 H4 S4 b4
      have hw : wipe s4 vs = wipe s vs := wipe_but b4 ht
      refine ⟨hw, a, _, _, S4, ?_⟩
      cases e2 : tstR fc r3 with
      | exc c r4 => simp only [e2] at h'; cases h'
      | bad => simp only [e2] at h'; cases h'
      | ok xb r4 =>
        simp only [e2] at h' ⊢
        cases xb with
        | loc _ => cases h'
        | val db =>
          cases db with
          | bl b =>
            cases b with
            | false =>
              intro H5 S5
              rw [if_neg Bool.false_ne_true]
              have S6 := pins S5
              rw [hw] at S6
              exact ⟨hlt, ac, r4, S6, by rw [kk]; exact h'⟩
            | true =>
              intro H5 S5
              rw [if_pos rfl]
              refine ⟨a, _, _, S5, ?_⟩
              simp only at h'
              cases e3 : cSet fe r4 with
              | exc c r5 => simp only [e3] at h'; cases h'
              | bad => simp only [e3] at h'; cases h'
              | ok xe r5 =>
                cases xe with
                | loc _ => simp only [e3] at h'; cases h'
                | val d =>
                  simp only [e3] at h'
                  split at h'
                  · rename_i hz
                    intro yv H6 P6
                    obtain ⟨ow8, S8⟩ := P6.1
                    have S8 : StW G (C.pinned i (.ref a)) ow8 r5 (T ++ [(.node .lst true ac, .ref da), (d, yv)]) s4 H6 := by simpa [List.append_assoc, pushR] using S8
                    obtain ⟨vs', q1, q2, S9⟩ := S8.appT
                    refine ⟨vs', q1, by rw [q2, sizeLine_eq]; exact hz, hlt, ac ++ [d], r5, ?_, by rw [kk]; exact h'⟩
                    have S11 := pins ⟨_, S9⟩
                    rw [hw] at S11
                    exact S11
                  · cases h'
          | _ => cases h'
    · have ej : j = ds0.length := by omega
      subst ej
      rw [Nat.sub_self] at h'
      unfold lcO at h'
      split at h'
      case h_2 => cases h'
      rename_i ds q
      split at h'
      case isFalse => cases h'
      rename_i hl
      injection h' with e1 e2
      subst e1
      subst e2
      obtain ⟨v2, w1, a2, vs2, ev2, w2, w3, w4⟩ := S'.sl i _ q
      rw [hp0] at w1
      cases w1
      cases ev2
      refine .inl ⟨⟨vs2, SqL.of w2, by rw [← w4.length]; omega⟩, ?_⟩
      exact h _ _ ⟨⟨ow', S.back S'.unpin⟩, trivial⟩
theorem ve_lcO {i : Nat} {x : Str} {p : Pos} {elt tg : Expr} {ifs : List Expr} {scope : Scope} {own : List (Str × Nat)} {pos : Pos} {t : Tg} {ft : Option Ev} {fe : Ev} (hc : X.calm = true) (hN : X.N.Nodup) (hn : X.N[i]? = some x) (hv : Vis X.env.scope x) (hd : (x == ("__debug__" : Str)) = false) (hcd : (x == ("__classdict__" : Str)) = false) (ok : BlkOk X.N X.env.scope scope own)
    (hpin : ∀ p ∈ C.pin, p.1 ∉ own.map (·.2)) (hts : ∀ i ∈ t.slots, i ∈ own.map (·.2))
    (hg : ∀ (s : Shared) (H : Hp) (ca : Addr) (cl : List (Str × Addr)) (fp : List Addr) (a : Addr), VG (X.blk s H scope (compEnvC scope cl ca X.env) fp) G (C.pinned i (.ref a)) tg t) (ht : ∀ (s : Shared) (H : Hp) (ca : Addr) (cl : List (Str × Addr)) (fp : List Addr) (a : Addr), VTs (X.blk s H scope (compEnvC scope cl ca X.env) fp) G (C.pinned i (.ref a)) W0 ifs ft)
    (he : ∀ (s : Shared) (H : Hp) (ca : Addr) (cl : List (Str × Addr)) (fp : List Addr) (a : Addr), VE (X.blk s H scope (compEnvC scope cl ca X.env) fp) G (C.pinned i (.ref a)) W0 elt fe) (hs : ∀ y, foldedSetIterable (.Name x p) X.env y = pure y := by intro _; rfl) :
    VE X G C W (.ListComp elt [⟨tg, .Name x p, ifs, 0⟩] scope pos) (cLcO i (own.map (·.2)) t ft fe) :=
  PE.imp (pe_lc hc hN (pi_list (pe_var hn hv hd hcd)) ok
    (fun s H ca cl fp => ⟨fun pins s σ H v u Q I rr w => by
      obtain ⟨a, w⟩ := w
      exact (hg _ _ _ _ _ a).run pins s σ H v u Q I rr w⟩)
    (fun s H ca cl fp => ⟨fun pins s σ H Q I w => by
      obtain ⟨a, w⟩ := w
      exact (ht _ _ _ _ _ a).run pins s σ H Q I w⟩)
    (fun s H ca cl fp => ⟨fun pins s σ H Q I w => by
      obtain ⟨a, w⟩ := w
      exact (ve_set (he _ _ _ _ _ a)).run pins s σ H Q I w⟩) hs) fun s H Q h => lc_goO hpin hts h
theorem vs_setLcO {i j : Nat} {x y : Str} {p py : Pos} {elt tg : Expr} {ifs : List Expr} {scope : Scope} {own : List (Str × Nat)} {pos spos : Pos} {t : Tg} {ft : Option Ev} {fe : Ev} (hc : X.calm = true) (hN : X.N.Nodup) (hy : X.N[j]? = some y) (hyl : X.env.scope.names.lookup y = some .local) (hp : ∀ p ∈ C.pin, p.1 ≠ j)
    (hsw : swapsWith (.ListComp elt [⟨tg, .Name x p, ifs, 0⟩] scope pos) (some (.Name y py)) spos.line X.env = pure true) (hn : X.N[i]? = some x) (hv : Vis X.env.scope x) (hd : (x == ("__debug__" : Str)) = false) (hcd : (x == ("__classdict__" : Str)) = false) (ok : BlkOk X.N X.env.scope scope own)
    (hpin : ∀ p ∈ C.pin, p.1 ∉ own.map (·.2)) (hts : ∀ i ∈ t.slots, i ∈ own.map (·.2))
    (hg : ∀ (s : Shared) (H : Hp) (ca : Addr) (cl : List (Str × Addr)) (fp : List Addr) (a : Addr), VG (X.blk s H scope (compEnvC scope cl ca X.env) fp) G (C.pinned i (.ref a)) tg t) (ht : ∀ (s : Shared) (H : Hp) (ca : Addr) (cl : List (Str × Addr)) (fp : List Addr) (a : Addr), VTs (X.blk s H scope (compEnvC scope cl ca X.env) fp) G (C.pinned i (.ref a)) W0 ifs ft)
    (he : ∀ (s : Shared) (H : Hp) (ca : Addr) (cl : List (Str × Addr)) (fp : List Addr) (a : Addr), VE (X.blk s H scope (compEnvC scope cl ca X.env) fp) G (C.pinned i (.ref a)) W0 elt fe) (hs : ∀ y, foldedSetIterable (.Name x p) X.env y = pure y := by intro _; rfl) :
    VS X G C W (.Assign [.Name y py] (.ListComp elt [⟨tg, .Name x p, ifs, 0⟩] scope pos) spos) (cAsg (.nm j) (cLcO i (own.map (·.2)) t ft fe)) := by
  refine PS.imp (ps_setLc (g := fun v s H Q => ∃ a, tVG G (C.pinned i (.ref a)) t v s H Q) (tt := fun s H Q => ∃ a, tVT G (C.pinned i (.ref a)) W0 (tstR ft) s H Q) (te := fun s H Q => ∃ a, tV G (C.pinned i (.ref a)) W0 (cSet fe) s H Q) hc hN hy hyl hsw (pi_list (pe_var hn hv hd hcd)) ok
    (fun s H ca cl fp => ⟨fun pins s σ H v u Q I rr w => by
      obtain ⟨a, w⟩ := w
      exact (hg _ _ _ _ _ a).run pins s σ H v u Q I rr w⟩)
    (fun s H ca cl fp => ⟨fun pins s σ H Q I w => by
      obtain ⟨a, w⟩ := w
      exact (ht _ _ _ _ _ a).run pins s σ H Q I w⟩)
    (fun s H ca cl fp => ⟨fun pins s σ H Q I w => by
      obtain ⟨a, w⟩ := w
      exact (ve_set (he _ _ _ _ _ a)).run pins s σ H Q I w⟩) hs) fun D s H h => ?_
  obtain ⟨r, T, S, h⟩ := h
  have z : tV G C W (cSet (cLcO i (own.map (·.2)) t ft fe)) s H fun x H1 => gName j x s H1 D.nx := by
    refine oneS (fa := cSet (cLcO i (own.map (·.2)) t ft fe)) S h fun x v r1 H1 P g => ?_
    cases x with
    | loc i => exact g.elim
    | val d => exact g _ _ (P.1.set hp)
  refine lc_goO (W := W) hpin hts ?_
  obtain ⟨r', T', S', g⟩ := z
  refine ⟨r', T', S', ?_⟩
  unfold cSet at g
  cases e : cLcO i (own.map (·.2)) t ft fe r' with
  | exc c r1 => rw [e] at g; exact g
  | bad => rw [e] at g; exact g
  | ok x r1 =>
    rw [e] at g
    cases x with
    | val d => exact g
    | loc j =>
      unfold cLcO at e
      split at e
      · split at e
        · cases e
        · split at e <;> cases e
      · cases e
end
/-! ### laws of it: conditions and parts that change no name but the comprehension's -/
theorem lcO_cons {i n k : Nat} {t : Tg} {fc : Option Ev} {fe : Ev} {vs : List Nat} {acc ds : List D} {d e : D} {r r1 r2 r3 : Rho} (h : r[i]? = some (some (.node .lst true ds))) (hf : frzs ds = ds) (hn : ds.length = n) (hd : ds[n - (k + 1)]? = some d) (h1 : tgt t d r = some r1)
    (h2 : tstR fc r1 = .ok (.val (.bl true)) r2) (h3 : cSet fe r2 = .ok (.val e) r3) (hl : acc.length < 16777216) : lcO i n t fc fe vs (k + 1) acc r = lcO i n t fc fe vs k (acc ++ [e]) (wipeR r3 vs) := by
  have fd := frz_at hf hd
  show (match r[i]? with | some (some (.node .lst true ds)) => _ | _ => _) = _
  rw [h]
  show (if ds.length = n then (match ds[n - (k + 1)]? with | some d => (match tgt t (frz d) (r.set i (some (.node .lst true (frzs ds)))) with | none => LO.bad | some r1 => (match tstR fc r1 with | .ok (.val (.bl true)) r2 => (match cSet fe r2 with | .ok (.val e) r3 => if acc.length < 16777216 then lcO i n t fc fe vs k (acc ++ [e]) (wipeR r3 vs) else .bad | _ => .bad) | .ok (.val (.bl false)) r2 => lcO i n t fc fe vs k acc (wipeR r2 vs) | _ => .bad)) | none => .bad) else .bad) = _
  rw [if_pos hn, hd, hf]
  show (match tgt t (frz d) (r.set i (some (.node .lst true ds))) with | none => LO.bad | some r1 => (match tstR fc r1 with | .ok (.val (.bl true)) r2 => (match cSet fe r2 with | .ok (.val e) r3 => if acc.length < 16777216 then lcO i n t fc fe vs k (acc ++ [e]) (wipeR r3 vs) else .bad | _ => .bad) | .ok (.val (.bl false)) r2 => lcO i n t fc fe vs k acc (wipeR r2 vs) | _ => .bad)) = _
  rw [fd, set_same h, h1]
  show (match tstR fc r1 with | .ok (.val (.bl true)) r2 => (match cSet fe r2 with | .ok (.val e) r3 => if acc.length < 16777216 then lcO i n t fc fe vs k (acc ++ [e]) (wipeR r3 vs) else .bad | _ => .bad) | .ok (.val (.bl false)) r2 => lcO i n t fc fe vs k acc (wipeR r2 vs) | _ => LO.bad) = _
  rw [h2]
  show (match cSet fe r2 with | .ok (.val e) r3 => if acc.length < 16777216 then lcO i n t fc fe vs k (acc ++ [e]) (wipeR r3 vs) else .bad | _ => LO.bad) = _
  rw [h3]
  show (if acc.length < 16777216 then lcO i n t fc fe vs k (acc ++ [e]) (wipeR r3 vs) else .bad) = _
  rw [if_pos hl]
theorem lcO_skip {i n k : Nat} {t : Tg} {fc : Option Ev} {fe : Ev} {vs : List Nat} {acc ds : List D} {d : D} {r r1 r2 : Rho} (h : r[i]? = some (some (.node .lst true ds))) (hf : frzs ds = ds) (hn : ds.length = n) (hd : ds[n - (k + 1)]? = some d) (h1 : tgt t d r = some r1)
    (h2 : tstR fc r1 = .ok (.val (.bl false)) r2) : lcO i n t fc fe vs (k + 1) acc r = lcO i n t fc fe vs k acc (wipeR r2 vs) := by
  have fd := frz_at hf hd
  show (match r[i]? with | some (some (.node .lst true ds)) => _ | _ => _) = _
  rw [h]
  show (if ds.length = n then (match ds[n - (k + 1)]? with | some d => (match tgt t (frz d) (r.set i (some (.node .lst true (frzs ds)))) with | none => LO.bad | some r1 => (match tstR fc r1 with | .ok (.val (.bl true)) r2 => (match cSet fe r2 with | .ok (.val e) r3 => if acc.length < 16777216 then lcO i n t fc fe vs k (acc ++ [e]) (wipeR r3 vs) else .bad | _ => .bad) | .ok (.val (.bl false)) r2 => lcO i n t fc fe vs k acc (wipeR r2 vs) | _ => .bad)) | none => .bad) else .bad) = _
  rw [if_pos hn, hd, hf]
  show (match tgt t (frz d) (r.set i (some (.node .lst true ds))) with | none => LO.bad | some r1 => (match tstR fc r1 with | .ok (.val (.bl true)) r2 => (match cSet fe r2 with | .ok (.val e) r3 => if acc.length < 16777216 then lcO i n t fc fe vs k (acc ++ [e]) (wipeR r3 vs) else .bad | _ => .bad) | .ok (.val (.bl false)) r2 => lcO i n t fc fe vs k acc (wipeR r2 vs) | _ => .bad)) = _
  rw [fd, set_same h, h1]
  show (match tstR fc r1 with | .ok (.val (.bl true)) r2 => (match cSet fe r2 with | .ok (.val e) r3 => if acc.length < 16777216 then lcO i n t fc fe vs k (acc ++ [e]) (wipeR r3 vs) else .bad | _ => .bad) | .ok (.val (.bl false)) r2 => lcO i n t fc fe vs k acc (wipeR r2 vs) | _ => LO.bad) = _
  rw [h2]
theorem lcO_nil {i n : Nat} {t : Tg} {fc : Option Ev} {fe : Ev} {vs : List Nat} {acc ds : List D} {r : Rho} (h : r[i]? = some (some (.node .lst true ds))) (hn : ds.length = n) : lcO i n t fc fe vs 0 acc r = .ok acc r := by
  show (match r[i]? with | some (some (.node .lst true ds)) => _ | _ => _) = _
  rw [h]
  show (if ds.length = n then LO.ok acc r else .bad) = _
  rw [if_pos hn]
/-- the comprehension picks and maps; the names stay as they are (r0: with the comprehension's names wiped) -/
theorem lcO_map {i : Nat} {t : Tg} {fc : Option Ev} {fe : Ev} {vs : List Nat} {ds : List D} {r r0 : Rho} {p : D → Bool} {q : D → D} (hi : i ∉ vs) (h : r[i]? = some (some (.node .lst true ds))) (hf : frzs ds = ds) (h0 : wipeR r vs = r0) (hl : ds.length < 16777216)
    (hs : ∀ d ∈ ds, ∃ r1, tgt t d r0 = some r1 ∧ ∃ r2, tstR fc r1 = .ok (.val (.bl (p d))) r2 ∧ wipeR r2 vs = r0 ∧ (p d = true → ∃ r3, cSet fe r2 = .ok (.val (q d)) r3 ∧ wipeR r3 vs = r0)) : cLcO i vs t fc fe r = .ok (.val (.node .lst true ((ds.filter p).map q))) (backR r r0 vs) := by
  have hr0 : r0[i]? = some (some (.node .lst true ds)) := by rw [← h0, wipeR_at hi]; exact h
  have go : ∀ (k : Nat) (acc : List D), k ≤ ds.length → acc.length + k ≤ ds.length → lcO i ds.length t fc fe vs k acc r0 = .ok (acc ++ ((ds.drop (ds.length - k)).filter p).map q) r0 := by
    intro k
    induction k with
    | zero => intro acc _ _; rw [lcO_nil hr0 rfl]; simp
    | succ k ih =>
      intro acc hk ha
      have hlt : ds.length - (k + 1) < ds.length := by omega
      have hd : ds[ds.length - (k + 1)]? = some ds[ds.length - (k + 1)] := List.getElem?_eq_getElem hlt
      obtain ⟨r1, e1, r2, e2, e3, e4⟩ := hs _ (List.getElem_mem hlt)
      have en : ds.length - (k + 1) + 1 = ds.length - k := by omega
      rw [List.drop_eq_getElem_cons hlt, en]
      cases hp : p ds[ds.length - (k + 1)] with
      | true =>
        obtain ⟨r3, e5, e6⟩ := e4 hp
        rw [hp] at e2
        rw [lcO_cons hr0 hf rfl hd e1 e2 e5 (by omega), e6, ih _ (by omega) (by rw [List.length_append, List.length_singleton]; omega), List.filter_cons_of_pos (by rw [hp]), List.map_cons, List.append_assoc]
        rfl
      | false =>
        rw [hp] at e2
        rw [lcO_skip hr0 hf rfl hd e1 e2, e3, ih acc (by omega) (by omega), List.filter_cons_of_neg (by rw [hp]; decide)]
  have g := go ds.length [] (Nat.le_refl _) (by simp)
  rw [Nat.sub_self, List.drop_zero, List.nil_append] at g
  unfold cLcO
  rw [h]
  show (if i ∈ vs then EO.bad else (match lcO i ds.length t fc fe vs ds.length [] (wipeR r vs) with | .ok acc r2 => .ok (.val (.node .lst true acc)) (backR r r2 vs) | .bad => .bad)) = _
  rw [if_neg hi, h0, g]
/-- the same over any walk -/
theorem lcL_map {t : Tg} {fc : Option Ev} {fe : Ev} {vs : List Nat} {r0 : Rho} {p : D → Bool} {q : D → D} : ∀ (ds acc : List D), acc.length + ds.length < 16777216 →
    (∀ d ∈ ds, ∃ r1, tgt t d r0 = some r1 ∧ ∃ r2, tstR fc r1 = .ok (.val (.bl (p d))) r2 ∧ wipeR r2 vs = r0 ∧ (p d = true → ∃ r3, cSet fe r2 = .ok (.val (q d)) r3 ∧ wipeR r3 vs = r0)) → lcL t fc fe vs ds acc r0 = .ok (acc ++ (ds.filter p).map q) r0
  | [], acc, _, _ => by simp [lcL]
  | d :: ds, acc, hl, hs => by
    simp only [List.length_cons] at hl
    obtain ⟨r1, e1, r2, e2, e3, e4⟩ := hs d List.mem_cons_self
    unfold lcL
    rw [e1]
    show (match tstR fc r1 with | .ok (.val (.bl true)) r2 => (match cSet fe r2 with | .ok (.val e) r3 => if acc.length < 16777216 then lcL t fc fe vs ds (acc ++ [e]) (wipeR r3 vs) else .bad | _ => .bad) | .ok (.val (.bl false)) r2 => lcL t fc fe vs ds acc (wipeR r2 vs) | _ => LO.bad) = _
    rw [e2]
    cases hp : p d with
    | true =>
      obtain ⟨r3, e5, e6⟩ := e4 hp
      show (match cSet fe r2 with | .ok (.val e) r3 => if acc.length < 16777216 then lcL t fc fe vs ds (acc ++ [e]) (wipeR r3 vs) else .bad | _ => LO.bad) = _
      rw [e5]
      show (if acc.length < 16777216 then lcL t fc fe vs ds (acc ++ [q d]) (wipeR r3 vs) else LO.bad) = _
      rw [if_pos (by omega), e6, lcL_map ds (acc ++ [q d]) (by rw [List.length_append, List.length_singleton]; omega) (fun x hx => hs x (List.mem_cons_of_mem _ hx)), List.filter_cons_of_pos (by rw [hp]), List.map_cons, List.append_assoc]
      rfl
    | false =>
      show lcL t fc fe vs ds acc (wipeR r2 vs) = _
      rw [e3, lcL_map ds acc (by omega) (fun x hx => hs x (List.mem_cons_of_mem _ hx)), List.filter_cons_of_neg (by rw [hp]; decide)]
theorem lc_map {fi : Iv} {t : Tg} {fc : Option Ev} {fe : Ev} {vs : List Nat} {ds : List D} {r r1 r0 : Rho} {p : D → Bool} {q : D → D} (hi : fi r = .ok ds r1) (h0 : wipeR r1 vs = r0) (hl : ds.length < 16777216)
    (hs : ∀ d ∈ ds, ∃ r1, tgt t d r0 = some r1 ∧ ∃ r2, tstR fc r1 = .ok (.val (.bl (p d))) r2 ∧ wipeR r2 vs = r0 ∧ (p d = true → ∃ r3, cSet fe r2 = .ok (.val (q d)) r3 ∧ wipeR r3 vs = r0)) : cLc vs t fi fc fe r = .ok (.val (.node .lst true ((ds.filter p).map q))) (backR r1 r0 vs) := by
  rw [q_lc, hi]
  show (match lcL t fc fe vs ds [] (wipeR r1 vs) with | .ok acc r2 => EO.ok (.val (.node .lst true acc)) (backR r1 r2 vs) | .bad => .bad) = _
  rw [h0, lcL_map ds [] (by simpa using hl) hs]
  rfl
end VL
namespace VL
open PySem PySem.Spec PyProof.Rows L2
section
variable {X : Cx} {G : GX} {C : Fc} {W : WX} {ow ow' : Ow} {r : Rho} {T T1 T2 : List (D × V)} {s : L2.St} {H H' : Hp}
/-- a, b, .. = a list of that length -/
theorem vg_lst {es : List Expr} {is : List Nat} {k : Nat} {pos : Pos} (hc : X.calm = true) (h : VGs X G C es is)
    (hn : (assignEach es X.env).length = is.length := by rfl) (hst : (assignEach es X.env).findIdx? (·.1) = none := by rfl) : VG X G C (.Tuple es k pos) (.tl is) := by
  refine PG.imp (pg_unl hc h hn hst) fun v s H Q h => ?_
  obtain ⟨r, T, d, S, h⟩ := h
  obtain ⟨ow, S⟩ := S
  cases d with
  | node k o ds =>
    cases k with
    | lst =>
      obtain ⟨a, vs, ev, h1, h2, S'⟩ := S.spread
      by_cases hl : is.length = ds.length
      · have e : tgt (.tl is) (.node .lst o ds) r = some (setAll r is ds) := if_pos hl
        rw [e] at h
        exact ⟨a, vs, ev, SqL.of h1, by rw [← h2]; exact hl.symm, r, T, ds, h2, hl, ⟨_, S'⟩, h⟩
      · have e : tgt (.tl is) (.node .lst o ds) r = none := if_neg hl
        rw [e] at h
        exact h.elim
    | _ => exact h.elim
  | _ => exact h.elim
end
end VL
namespace VL
open PySem PySem.Spec PyProof.Rows L2
/-! ### a, b = x, y, both sides written, plain local names: stored as they are -/
def cPar (is : List Nat) (fs : Av) : Sv := fun r => match fs r with
  | .ok xs r1 => (match valsR xs with
    | some ds => if is.length = ds.length then .nx (setAll r1 is ds) else .bad
    | none => .bad)
  | .exc c r1 => .exc c r1
  | .bad => .bad
section
variable {X : Cx} {G : GX} {C : Fc} {W : WX} {ow ow' : Ow} {r : Rho} {T T1 T2 : List (D × V)} {s : L2.St} {H H' : Hp} {fs : Av}
theorem par_in {is : List Nat} {D : Ends} {K : List V → Hp → Prop} (S : StOk G C r T s H) (h : GoesS G C W T D (cPar is fs r))
    (hk : ∀ ds vs r1 H1, StOk G C r1 (T ++ ds.zip vs) s H1 → ds.length = vs.length → is.length = ds.length → (∀ s' H', StOk G C (setAll r1 is ds) T s' H' → D.nx s' H') → K vs H1) : tVA G C W fs s H K := by
  refine ⟨r, T, S, ?_⟩
  unfold cPar at h
  cases e : fs r with
  | exc c r1 => rw [e] at h; exact fun H' S' => h s H' S'
  | bad => rw [e] at h; exact h.elim
  | ok xs r1 =>
    rw [e] at h
    intro vs H1 S1 l1
    cases e2 : valsR xs with
    | none => simp only [e2] at h; exact h.elim
    | some ds =>
      simp only [e2] at h
      split at h
      · rename_i hl
        obtain ⟨p1, p2⟩ := pushs_vals l1 e2
        rw [p1] at S1
        exact hk ds vs r1 H1 S1 p2 hl h
      · exact h.elim
theorem vs_par2 {i j : Nat} {x y : Str} {a b : Expr} {px py pt pos : Pos} {kt k2 pt2} (hc : X.calm = true) (hN : X.N.Nodup) (hi : X.N[i]? = some x) (hj : X.N[j]? = some y) (hij : i ≠ j)
    (hx : X.env.scope.names.lookup x = some .local) (hy : X.env.scope.names.lookup y = some .local) (hp : ∀ p ∈ C.pin, p.1 ≠ i) (hq : ∀ p ∈ C.pin, p.1 ≠ j) (ha : VA X G C W [a, b] fs)
    (hw : swappedStores [.Tuple [.Name x px, .Name y py] kt pt] (.Tuple [a, b] k2 pt2) X.env = pure (some [x, y]) := by rfl)
    (hs : swapsWithSole [.Tuple [.Name x px, .Name y py] kt pt] (.Tuple [a, b] k2 pt2) pos.line X.env = pure false := by rfl) :
    VS X G C W (.Assign [.Tuple [.Name x px, .Name y py] kt pt] (.Tuple [a, b] k2 pt2) pos) (cPar [i, j] fs) := by
  refine PS.imp (ps_par hc hN hi hj hij hx hy ha hw hs) fun D s H h => ?_
  obtain ⟨r, T, S, h⟩ := h
  refine par_in S h fun ds vs r1 H1 S1 hl h2 hD => ?_
  match ds, vs, hl, h2 with
  | [d1, d2], [v1, v2], _, _ =>
    obtain ⟨ow, S1⟩ := S1
    have A1 := StW.setM (T := T) (d := d1) (v := v1) (T2 := [(d2, v2)]) S1 hp
    have A2 := StW.setM (T := T) (d := d2) (v := v2) (T2 := []) A1 hq
    exact ⟨v1, v2, rfl, hD _ _ ⟨_, by simpa [setAll] using A2⟩⟩
theorem vs_par3 {i j l : Nat} {x y z : Str} {a b c : Expr} {px py pz pt pos : Pos} {kt k2 pt2} (hc : X.calm = true) (hN : X.N.Nodup) (hi : X.N[i]? = some x) (hj : X.N[j]? = some y) (hl : X.N[l]? = some z) (hij : i ≠ j) (hil : i ≠ l) (hjl : j ≠ l)
    (hx : X.env.scope.names.lookup x = some .local) (hy : X.env.scope.names.lookup y = some .local) (hz : X.env.scope.names.lookup z = some .local) (hp : ∀ p ∈ C.pin, p.1 ≠ i) (hq : ∀ p ∈ C.pin, p.1 ≠ j) (hr : ∀ p ∈ C.pin, p.1 ≠ l) (ha : VA X G C W [a, b, c] fs)
    (hw : swappedStores [.Tuple [.Name x px, .Name y py, .Name z pz] kt pt] (.Tuple [a, b, c] k2 pt2) X.env = pure (some [x, y, z]) := by rfl)
    (hs : swapsWithSole [.Tuple [.Name x px, .Name y py, .Name z pz] kt pt] (.Tuple [a, b, c] k2 pt2) pos.line X.env = pure false := by rfl) :
    VS X G C W (.Assign [.Tuple [.Name x px, .Name y py, .Name z pz] kt pt] (.Tuple [a, b, c] k2 pt2) pos) (cPar [i, j, l] fs) := by
  refine PS.imp (ps_par3 hc hN hi hj hl hij hil hjl hx hy hz ha hw hs) fun D s H h => ?_
  obtain ⟨r, T, S, h⟩ := h
  refine par_in S h fun ds vs r1 H1 S1 hl h2 hD => ?_
  match ds, vs, hl, h2 with
  | [d1, d2, d3], [v1, v2, v3], _, _ =>
    obtain ⟨ow, S1⟩ := S1
    have A1 := StW.setM (T := T) (d := d1) (v := v1) (T2 := [(d2, v2), (d3, v3)]) S1 hp
    have A2 := StW.setM (T := T) (d := d2) (v := v2) (T2 := [(d3, v3)]) A1 hq
    have A3 := StW.setM (T := T) (d := d3) (v := v3) (T2 := []) A2 hr
    exact ⟨v1, v2, v3, rfl, hD _ _ ⟨_, by simpa [setAll] using A3⟩⟩
end
theorem par_ok {is : List Nat} {fs : Av} {r r1 : Rho} {xs : List R} {ds : List D} (h : fs r = .ok xs r1) (h2 : valsR xs = some ds) (hl : is.length = ds.length) : cPar is fs r = .nx (setAll r1 is ds) := by
  unfold cPar
  rw [h]
  show (match valsR xs with | some ds => if is.length = ds.length then SO.nx (setAll r1 is ds) else .bad | none => .bad) = _
  rw [h2]
  show (if is.length = ds.length then SO.nx (setAll r1 is ds) else .bad) = _
  rw [if_pos hl]
end VL

namespace VL
open PySem PySem.Spec PyProof.Rows L2
section
variable {X : Cx} {G : GX} {C : Fc} {W : WX} {ow ow' : Ow} {r : Rho} {T T1 T2 : List (D × V)} {s : L2.St} {H H' : Hp} {fa fb fc : Ev} {f g : Sv} {fs : Av}
/-! ### zip(list, list) -/
def zipD (ds es : List D) : List D := List.zipWith (fun d e => D.node .tup false [d, e]) ds es
theorem zipD_get (ds es : List D) (i : Nat) (d : D) (h : (zipD ds es)[i]? = some d) : ∃ x y, ds[i]? = some x ∧ es[i]? = some y ∧ d = .node .tup false [x, y] := by
  unfold zipD at h
  rw [List.getElem?_zipWith] at h
  cases h1 : ds[i]? with
  | none => rw [h1] at h; cases h
  | some x =>
    cases h2 : es[i]? with
    | none => rw [h1, h2] at h; cases h
    | some y =>
      rw [h1, h2] at h
      cases h
      exact ⟨x, y, rfl, rfl, rfl⟩
theorem cur_zip {K : PySem.W.Frag} {ds es : List D} {a b : Addr} (e1 : frzs ds = ds) (e2 : frzs es = es) : CurOk G C (Itz K a b) (zipD ds es) fun _ => [(.node .lst false ds, .ref a), (.node .lst false es, .ref b)] := by
  refine ⟨fun i d r T s H hd S => ?_, fun r T s H S => ?_⟩
  · obtain ⟨x0, y0, hx, hy, rfl⟩ := zipD_get ds es i d hd
    obtain ⟨ow, S⟩ := S
    have za := S.tm T.length (.node .lst false ds) (.ref a) (by simp)
    have zb := S.tm (T.length + 1) (.node .lst false es) (.ref b) (by rw [List.getElem?_append_right (by omega)]; simp)
    obtain ⟨a', vs, ev, h1, h2, h3⟩ := za
    cases ev
    obtain ⟨b', us, eu, k1, k2, k3⟩ := zb
    cases eu
    obtain ⟨x, x1, x2⟩ := h3.get i x0 hx
    obtain ⟨y, y1, y2⟩ := k3.get i y0 hy
    refine ⟨⟨vs, us, x, y, SqL.of h1, SqL.of k1, x1, y1⟩, fun v H' z => ?_⟩
    obtain ⟨p, x', y', ev, hp, eH, ha, hb⟩ := z
    subst ev eH
    have ex := ha vs (SqL.of h1)
    rw [x1] at ex
    cases ex
    have ey := hb us (SqL.of k1)
    rw [y1] at ey
    cases ey
    have fx := frz_at e1 hx
    have fy := frz_at e2 hy
    have e' : frzs [x0, y0] = [x0, y0] := by show [frz x0, frz y0] = _; rw [fx, fy]
    exact StOk.alloc false ⟨ow, S.pushFs e' (l := ⟨.fo, []⟩) (i := 0) (vs := [x, y]) ⟨_, _, rfl, Rep.moveF _ fx (fun _ _ z q => ⟨z, q⟩) (fun _ _ z _ => z) x2, _, _, rfl, Rep.moveF _ fy (fun _ _ z q => ⟨z, q⟩) (fun _ _ z _ => z) y2, rfl⟩⟩ rfl hp holds_tup (fun z => nomatch z)
  · obtain ⟨ow, S⟩ := S
    have za := S.tm T.length (.node .lst false ds) (.ref a) (by simp)
    have zb := S.tm (T.length + 1) (.node .lst false es) (.ref b) (by rw [List.getElem?_append_right (by omega)]; simp)
    obtain ⟨a', vs, ev, h1, h2, h3⟩ := za
    cases ev
    obtain ⟨b', us, eu, k1, k2, k3⟩ := zb
    cases eu
    refine ⟨vs, us, SqL.of h1, SqL.of k1, ?_⟩
    rw [← h3.length, ← k3.length]
    unfold zipD
    rw [List.length_zipWith]
    omega
def gZip (r : Rho) (xs : List R) : IO := match xs with
  | [.val (.node .lst _ ds), .val (.node .lst _ es)] => .ok (zipD (frzs ds) (frzs es)) r
  | _ => .bad
theorem vi_zip {e e2 : Expr} {p pos tpos : Pos} {elts : List Expr} {kk : Nat} (hg : Gl X "zip") (hm : X.mg "zip" = none) (ha : VA X G C W [e, e2] fs)
    (hs : starEach [e, e2] X.env = (false, eval e X.env) :: starEach [e2] X.env := by rfl) (hpl : (backTo pos (starEach [e2] X.env)).any (·.1) = false := by rfl) : VI X G C W (.Tuple elts kk tpos) (.Call (.Name "zip" p) [e, e2] [] pos) (iRng gZip fs) := by
  refine PI.imp (pi_zip hg hm ha hs hpl) fun s H R h => ?_
  obtain ⟨r, T, S, h⟩ := h
  refine tV_rng S h fun xs vs r1 H1 S1 l1 g => ?_
  unfold gZip at g
  split at g
  · rename_i o ds o' es
    match vs, l1 with
    | [v, u], l1 =>
      obtain ⟨ow, S1⟩ := S1
      have S1 : StW G C ow r1 (T ++ [(D.node .lst o ds, v), (D.node .lst o' es, u)]) s H1 := by simpa [pushs, pushR] using S1
      have S2 := StW.frzTm (T1 := T) (d := D.node .lst o ds) (v := v) (T2 := [(D.node .lst o' es, u)]) S1
      have S3 := StW.frzTm (T1 := T ++ [(frz (D.node .lst o ds), v)]) (d := D.node .lst o' es) (v := u) (T2 := []) (by simpa using S2)
      generalize free (free ow (.tm T.length)) (.tm (T ++ [(frz (D.node .lst o ds), v)]).length) = ow3 at S3
      have S3 : StW G C ow3 r1 (T ++ [(frz (D.node .lst o ds), v), (frz (D.node .lst o' es), u)]) s H1 := by simpa using S3
      have za := S3.tm T.length (frz (.node .lst o ds)) v (by simp)
      have zb := S3.tm (T.length + 1) (frz (.node .lst o' es)) u (by rw [List.getElem?_append_right (by omega)]; simp)
      obtain ⟨a, ws, ev, h1, h2, h3⟩ := za
      subst ev
      obtain ⟨b, us, eu, k1, k2, k3⟩ := zb
      subst eu
      exact ⟨a, b, ws, us, rfl, SqL.of h1, SqL.of k1, g _ _ _ (cur_zip (frzs_frzs ds) (frzs_frzs es)) ⟨_, S3⟩⟩
    | [], l1 => exact l1.elim
    | [_], l1 => exact l1.2.elim
    | _ :: _ :: _ :: _, l1 => exact l1.2.2.elim
  · exact g.elim
end
theorem it_zip {fa fb : Ev} {r r1 r2 : Rho} {o o' : Bool} {ds es : List D} (h : cSet fa r = .ok (.val (.node .lst o ds)) r1) (h2 : cSet fb r1 = .ok (.val (.node .lst o' es)) r2) (f : frzs ds = ds) (f2 : frzs es = es) : iRng gZip (cCons (cSet fa) (cCons (cSet fb) cNil)) r = .ok (zipD ds es) r2 := by
  rw [q_iRng, q_cons, h]
  show (match (match cCons (cSet fb) cNil r1 with | .ok xs r2 => AO.ok (R.val (.node .lst o ds) :: xs) r2 | .exc c r2 => .exc c r2 | .bad => .bad) with | .ok xs r1 => gZip r1 xs | .exc c r1 => .exc c r1 | .bad => .bad) = _
  rw [q_cons, h2]
  show IO.ok (zipD (frzs ds) (frzs es)) r2 = _
  rw [f, f2]
/-- a def of which nothing is known yet -/
theorem fn_bad {P : Program} {w : World} {K : PySem.W.Frag} {mg : Str → Option Value} {base : Heap} {CX : CXT} {k : Nat} {f : Addr} {fd : FuncData} {ps : List Str} {G : GX} {n : Nat} : FnOk P w K mg base CX k f fd ps (spV G n fun _ => .bad) :=
  ⟨fun vs H Q E q => by obtain ⟨_, _, _, _, _, _, q⟩ := q; exact q.elim, fun A outer s H args us vs Q E hr he hb hv hs => by obtain ⟨_, _, _, _, _, _, q⟩ := hs; exact q.elim⟩
end VL

namespace VL
open PySem PySem.Spec PyProof.Rows L2
section
variable {X : Cx} {G : GX} {C : Fc} {W : WX} {ow ow' : Ow} {r : Rho} {T T1 T2 : List (D × V)} {s : L2.St} {H H' : Hp}
/-! ### is, is not of truths -/
def isBl : D → D → Option D
  | .bl a, .bl b => some (.bl (decide (a = b)))
  | _, _ => none
def isntBl : D → D → Option D
  | .bl a, .bl b => some (.bl (!decide (a = b)))
  | _, _ => none
def gIsB : G2 := g2 isBl
def gIsNotB : G2 := g2 isntBl
theorem os_isB : OpS X (compareOp .Is) gIsB := by
  refine OpS.scal op_isBl fun G ow H d e z l m v u Q h1 h2 e3 q => ?_
  cases d with
  | bl a =>
    cases e with
    | bl b =>
      cases e3
      exact ⟨a, b, rep_bl h1, rep_bl h2, q _ fun _ _ => rfl⟩
    | _ => cases e3
  | _ => cases e3
theorem os_isnotB : OpS X (compareOp .IsNot) gIsNotB := by
  refine OpS.scal op_notBl fun G ow H d e z l m v u Q h1 h2 e3 q => ?_
  cases d with
  | bl a =>
    cases e with
    | bl b =>
      cases e3
      exact ⟨a, b, rep_bl h1, rep_bl h2, q _ fun _ _ => rfl⟩
    | _ => cases e3
  | _ => cases e3
end
theorem isTF_ok {fa fb : Ev} {r r1 r2 : Rho} {a b : Bool} (h1 : fa r = .ok (.val (.bl a)) r1) (h2 : fb r1 = .ok (.val (.bl b)) r2) : cBin gIsB fa fb r = .ok (.val (.bl (decide (a = b)))) r2 := bin_ok h1 h2 (g2_ok rfl rfl rfl rfl)
theorem isnTF_ok {fa fb : Ev} {r r1 r2 : Rho} {a b : Bool} (h1 : fa r = .ok (.val (.bl a)) r1) (h2 : fb r1 = .ok (.val (.bl b)) r2) : cBin gIsNotB fa fb r = .ok (.val (.bl (!decide (a = b)))) r2 := bin_ok h1 h2 (g2_ok rfl rfl rfl rfl)
end VL

namespace VL
open PySem PySem.Spec PyProof.Rows L2
/-! ### a part of a name's own thing is lent, and given back -/
def rel (φ : Loc → Option Loc) (ow : Ow) : Ow := fun a => (ow a).bind φ
section
variable {X : Cx} {G : GX} {C : Fc} {W : WX} {ow ow' : Ow} {r : Rho} {T T1 T2 : List (D × V)} {s : L2.St} {H H' : Hp} {fa fb fc : Ev} {f g : Sv} {φ : Loc → Option Loc}
theorem rel_none {a : Addr} (h : ow a = none) : rel φ ow a = none := by unfold rel; rw [h]; rfl
theorem rel_some {a : Addr} {l : Loc} (h : ow a = some l) : rel φ ow a = φ l := by unfold rel; rw [h]; rfl
theorem rel_of {a : Addr} {l : Loc} (h : rel φ ow a = some l) : ∃ l0, ow a = some l0 ∧ φ l0 = some l := by
  unfold rel at h
  cases e : ow a with
  | none => rw [e] at h; cases h
  | some l0 => rw [e] at h; exact ⟨l0, rfl, h⟩
theorem Rep.rel {d : D} {l l' : Loc} {v : V} (h : Rep G ow H d l v) (hφ : ∀ q, φ (l.app q) = some (l'.app q)) : Rep G (VL.rel φ ow) H d l' v :=
  h.mono d (fun _ _ z _ => z) (fun _ _ z _ => z) (fun _ _ _ z => rel_none z) fun a o q _ z => (rel_some z).trans (hφ q)
theorem OwnAt.rel {k : Kd} {o : Bool} {l l' : Loc} {a : Addr} (h : OwnAt k o l (ow a)) (hφ : φ l = some l') : OwnAt k o l' (VL.rel φ ow a) := by
  rcases h.cases with e | e
  · subst e; trivial
  · refine .mk ?_
    cases o with
    | true => rw [rel_some (l := l) (by simpa using e), hφ]; rfl
    | false => rw [rel_none (by simpa using e)]; rfl
theorem StW.reloc {r' : Rho} {T' : List (D × V)} (S : StW G C ow r T s H) (hl : r'.length = r.length) (hf : ∀ l, l.b = .fo → φ l = some l)
    (hsl : ∀ (i : Nat) (d : D), r'[i]? = some (some d) → ∃ v, s[i]? = some (some v) ∧ Rep G (VL.rel φ ow) H d ⟨.sl i, []⟩ v) (htm : ∀ (j : Nat) (d : D) (v : V), T'[j]? = some (d, v) → Rep G (VL.rel φ ow) H d ⟨.tm j, []⟩ v) : StW G C (VL.rel φ ow) r' T' s H where
  len := hl.trans S.len
  sl := hsl
  tm := htm
  old := S.old
  own := fun a l q => by
    obtain ⟨l0, e, q⟩ := rel_of q
    rcases S.own a l0 e with z | z
    · rw [hf l0 z] at q; cases q; exact .inl z
    · exact .inr z
  fo := fun a q => by rw [rel_some (S.fo a q)]; exact hf _ rfl
  mu := fun a l q => by obtain ⟨l0, e, _⟩ := rel_of q; exact S.mu a l0 e
  pin := S.pin
/-- part m of slot i becomes the last temporary -/
def liftF (n i m : Nat) : Loc → Option Loc
  | ⟨.sl j, p⟩ => if j = i ∧ p.head? = some m then some ⟨.tm n, p.tail⟩ else some ⟨.sl j, p⟩
  | ⟨.tm j, p⟩ => if j < n then some ⟨.tm j, p⟩ else none
  | ⟨.fo, p⟩ => some ⟨.fo, p⟩
theorem liftF_fo {n i m : Nat} : ∀ l : Loc, l.b = .fo → liftF n i m l = some l := fun ⟨b, p⟩ h => by
  have h : b = .fo := h
  subst h; rfl
theorem liftF_tm {n i m j : Nat} {p : List Nat} (h : j < n) : liftF n i m ⟨.tm j, p⟩ = some ⟨.tm j, p⟩ := if_pos h
theorem liftF_sl {n i m j : Nat} {p : List Nat} (h : j ≠ i) : liftF n i m ⟨.sl j, p⟩ = some ⟨.sl j, p⟩ := if_neg fun z => h z.1
theorem liftF_in {n i m : Nat} {p : List Nat} (h : p.head? ≠ some m) : liftF n i m ⟨.sl i, p⟩ = some ⟨.sl i, p⟩ := if_neg fun z => h z.2
theorem liftF_at {n i m : Nat} {p : List Nat} : liftF n i m ⟨.sl i, m :: p⟩ = some ⟨.tm n, p⟩ := if_pos ⟨rfl, rfl⟩
theorem getT {p : D × V} {j : Nat} {d : D} {v : V} (q : (T ++ [p])[j]? = some (d, v)) : (j < T.length ∧ T[j]? = some (d, v)) ∨ (j = T.length ∧ p = (d, v)) := by
  by_cases hj : j < T.length
  · rw [List.getElem?_append_left hj] at q
    exact .inl ⟨hj, q⟩
  · rw [List.getElem?_append_right (by omega)] at q
    have e : j = T.length := by
      have := (List.getElem?_eq_some_iff.mp q).1
      simp at this; omega
    subst e
    simp at q
    exact .inr ⟨rfl, q⟩
theorem StW.lift {i m : Nat} {k : Kd} {o : Bool} {ds : List D} {d : D} (S : StW G C ow r T s H) (q : r[i]? = some (some (.node k o ds))) (hd : ds[m]? = some d) :
    ∃ a vs v, s[i]? = some (some (.ref a)) ∧ Holds G H a k vs ∧ OwnAt k o ⟨.sl i, []⟩ (ow a) ∧ vs.length = ds.length ∧ vs[m]? = some v ∧ Reps G ow H ds ⟨.sl i, []⟩ 0 vs ∧ StW G C (VL.rel (liftF T.length i m) ow) (r.set i (some (.node k o (ds.set m .any)))) (T ++ [(d, v)]) s H := by
  obtain ⟨v', z1, a, vs, ev, z2, z3, z4⟩ := S.sl i _ q
  subst ev
  obtain ⟨v, hv, hr⟩ := z4.get m d hd
  have hi : i < r.length := (List.getElem?_eq_some_iff.mp q).1
  refine ⟨a, vs, v, z1, z2, z3, z4.length.symm, hv, z4, S.reloc (by simp) liftF_fo (fun j d' y => ?_) fun j d' w y => ?_⟩
  · by_cases hj : j = i
    · subst hj
      rw [List.getElem?_set_self hi] at y
      cases y
      refine ⟨_, z1, a, vs, rfl, z2, z3.rel (liftF_in (by simp)), Reps.of_get (by simp [z4.length]) fun j' d' v' y1 y2 => ?_⟩
      by_cases hm : j' = m
      · subst hm
        rw [List.getElem?_set_self (List.getElem?_eq_some_iff.mp hd).1] at y1
        cases y1
        trivial
      · rw [List.getElem?_set_ne (Ne.symm hm)] at y1
        obtain ⟨v2, e1, e2⟩ := z4.get j' d' y1
        rw [y2] at e1
        cases e1
        refine e2.rel fun p => ?_
        simp only [Loc.sub, Loc.app]
        exact liftF_in (by simp; omega)
    · rw [List.getElem?_set_ne (Ne.symm hj)] at y
      obtain ⟨w, y1, y2⟩ := S.sl j d' y
      exact ⟨w, y1, y2.rel fun p => liftF_sl hj⟩
  · rcases getT y with ⟨hj, y⟩ | ⟨hj, y⟩
    · exact (S.tm j d' w y).rel fun p => liftF_tm hj
    · cases y
      subst hj
      refine hr.rel fun p => ?_
      simp only [Loc.sub, Loc.app, Nat.zero_add, List.nil_append, List.singleton_append]
      exact liftF_at
/-- slot i's thing becomes the last temporary -/
def pullF (n i : Nat) : Loc → Option Loc
  | ⟨.sl j, p⟩ => if j = i then some ⟨.tm n, p⟩ else some ⟨.sl j, p⟩
  | ⟨.tm j, p⟩ => if j < n then some ⟨.tm j, p⟩ else none
  | ⟨.fo, p⟩ => some ⟨.fo, p⟩
theorem StW.pull {i : Nat} {d : D} (S : StW G C ow r T s H) (q : r[i]? = some (some d)) : ∃ v, s[i]? = some (some v) ∧ StW G C (VL.rel (pullF T.length i) ow) (r.set i (some .any)) (T ++ [(d, v)]) s H := by
  obtain ⟨v, z1, z2⟩ := S.sl i _ q
  have hi : i < r.length := (List.getElem?_eq_some_iff.mp q).1
  refine ⟨v, z1, S.reloc (by simp) (fun ⟨b, p⟩ h => by have h : b = .fo := h; subst h; rfl) (fun j d' y => ?_) fun j d' w y => ?_⟩
  · by_cases hj : j = i
    · subst hj
      rw [List.getElem?_set_self hi] at y
      cases y
      exact ⟨v, z1, trivial⟩
    · rw [List.getElem?_set_ne (Ne.symm hj)] at y
      obtain ⟨w, y1, y2⟩ := S.sl j d' y
      exact ⟨w, y1, y2.rel fun p => if_neg hj⟩
  · rcases getT y with ⟨hj, y⟩ | ⟨hj, y⟩
    · exact (S.tm j d' w y).rel fun p => if_pos hj
    · cases y
      subst hj
      exact z2.rel fun p => if_pos rfl
/-- the last temporary becomes part m of slot i, where it stands -/
def backF (n i m : Nat) : Loc → Option Loc
  | ⟨.sl j, p⟩ => if j = i ∧ p.head? = some m then none else some ⟨.sl j, p⟩
  | ⟨.tm j, p⟩ => if j = n then some ⟨.sl i, m :: p⟩ else if j < n then some ⟨.tm j, p⟩ else none
  | ⟨.fo, p⟩ => some ⟨.fo, p⟩
theorem StW.giveBack {i m : Nat} {k : Kd} {o : Bool} {ds : List D} {d : D} {v : V} {a : Addr} {vs : List V} (S : StW G C ow r (T ++ [(d, v)]) s H) (q : r[i]? = some (some (.node k o ds))) (ha : s[i]? = some (some (.ref a))) (hk : k ≠ .rd) (hh : Holds G H a k vs) (hv : vs[m]? = some v)
    (hu : ∀ us, Holds G H a k us → us = vs) : StW G C (VL.rel (backF T.length i m) ow) (r.set i (some (.node k o (ds.set m d)))) T s H := by
  obtain ⟨v', z1, a', vs', ev, z2, z3, z4⟩ := S.sl i _ q
  rw [ha] at z1
  cases z1
  cases ev
  have ee := hu _ z2
  subst ee
  have hi : i < r.length := (List.getElem?_eq_some_iff.mp q).1
  refine StW.reloc (StW.drop S) (by simp) (fun ⟨b, p⟩ h => by have h : b = .fo := h; subst h; rfl) (fun j d' y => ?_) fun j d' w y => ?_
  · by_cases hj : j = i
    · subst hj
      rw [List.getElem?_set_self hi] at y
      cases y
      refine ⟨_, ha, a, vs', rfl, z2, z3.rel (if_neg (by simp)), Reps.of_get (by simp [z4.length]) fun j' d' v' y1 y2 => ?_⟩
      by_cases hm : j' = m
      · subst hm
        have hlt : j' < ds.length := by
          have := (List.getElem?_eq_some_iff.mp y1).1
          simpa using this
        rw [List.getElem?_set_self hlt] at y1
        cases y1
        rw [hv] at y2
        cases y2
        refine (StW.last S).rel fun p => ?_
        simp only [Loc.sub, Loc.app, Nat.zero_add, List.nil_append, List.singleton_append]
        exact if_pos rfl
      · rw [List.getElem?_set_ne (Ne.symm hm)] at y1
        obtain ⟨v2, e1, e2⟩ := z4.get j' d' y1
        rw [y2] at e1
        cases e1
        refine e2.rel fun p => ?_
        simp only [Loc.sub, Loc.app]
        exact if_neg (by simp; omega)
    · rw [List.getElem?_set_ne (Ne.symm hj)] at y
      obtain ⟨w, y1, y2⟩ := S.sl j d' y
      exact ⟨w, y1, y2.rel fun p => if_neg fun z => hj z.1⟩
  · have hj : j < T.length := (List.getElem?_eq_some_iff.mp y).1
    refine ((StW.drop S).tm j d' w y).rel fun p => ?_
    show (if j = T.length then _ else if j < T.length then _ else _) = _
    rw [if_neg (by omega), if_pos hj]
    rfl
/-! ### the frame of a body that has only the part in hand -/
def Fc.bod (C : Fc) (H : Hp) (ow : Ow) (i j : Nat) (u v : V) : Fc := ⟨H, fun b => ∃ l, ow b = some l ∧ l.b ≠ .fo ∧ l.b ≠ .sl i, fun b => C.fo b ∨ ∃ p, ow b = some ⟨.sl i, p⟩, (j, v) :: (i, u) :: C.pin⟩
theorem pinB {C' : Fc} {i j l : Nat} (h : ∀ p ∈ C.pin, p.1 ≠ l) (e : ∃ u v, C'.pin = (j, v) :: (i, u) :: C.pin) (hi : i ≠ l) (hj : j ≠ l) : ∀ p ∈ C'.pin, p.1 ≠ l := fun p hp => by
  obtain ⟨u, v, e⟩ := e
  rw [e] at hp
  rcases List.mem_cons.mp hp with z | hp
  · rw [z]; exact hj
  rcases List.mem_cons.mp hp with z | hp
  · rw [z]; exact hi
  · exact h p hp
theorem pinBo {C' : Fc} {i j : Nat} {l : List Nat} (h : ∀ p ∈ C.pin, p.1 ∉ l) (e : ∃ u v, C'.pin = (j, v) :: (i, u) :: C.pin) (hi : i ∉ l) (hj : j ∉ l) : ∀ p ∈ C'.pin, p.1 ∉ l := fun p hp => by
  obtain ⟨u, v, e⟩ := e
  rw [e] at hp
  rcases List.mem_cons.mp hp with z | hp
  · rw [z]; exact hj
  rcases List.mem_cons.mp hp with z | hp
  · rw [z]; exact hi
  · exact h p hp
def lendF (i : Nat) : Loc → Option Loc := fun l => if l.b = .sl i then some ⟨.fo, []⟩ else some l
theorem StW.lend {i j : Nat} {u v : V} (S : StW G C ow r T s H) (hi : s[i]? = some (some u)) (hj : s[j]? = some (some v)) : StW G (C.bod H ow i j u v) (VL.rel (lendF i) ow) (r.set i (some .any)) T s H where
  len := by simpa using S.len
  sl := fun i' d q => by
    by_cases he : i' = i
    · subst he
      have hlt : i' < r.length := by
        have := (List.getElem?_eq_some_iff.mp q).1
        simpa using this
      rw [List.getElem?_set_self hlt] at q
      cases q
      exact ⟨u, hi, trivial⟩
    · rw [List.getElem?_set_ne (Ne.symm he)] at q
      obtain ⟨w, y1, y2⟩ := S.sl i' d q
      exact ⟨w, y1, y2.rel fun p => if_neg fun z => he (by injection z)⟩
  tm := fun n d w q => (S.tm n d w q).rel fun p => if_neg fun z => nomatch z
  old := fun a o _ z => z
  own := fun b l q => by
    obtain ⟨l0, e, q⟩ := rel_of q
    unfold lendF at q
    split at q
    · cases q; exact .inl rfl
    · rename_i n
      cases q
      by_cases hf : l.b = .fo
      · exact .inl hf
      · exact .inr (.inr ⟨l, e, hf, n⟩)
  fo := fun b q => by
    rcases q with q | ⟨p, q⟩
    · rw [rel_some (S.fo b q)]; exact if_neg fun z => nomatch z
    · rw [rel_some q]; exact if_pos rfl
  mu := fun b l q => by obtain ⟨l0, e, _⟩ := rel_of q; exact S.mu b l0 e
  pin := fun p hp => by
    rcases List.mem_cons.mp hp with z | hp
    · rw [z]; exact hj
    rcases List.mem_cons.mp hp with z | hp
    · rw [z]; exact hi
    · exact S.pin p hp
def unl (ow ow3 : Ow) (i j m : Nat) : Ow := fun b => match ow3 b with
  | none => none
  | some ⟨.fo, _⟩ => (match ow b with
    | some ⟨.fo, p⟩ => some ⟨.fo, p⟩
    | some ⟨.sl i', p⟩ => if i' = i then some ⟨.sl i, p⟩ else none
    | _ => none)
  | some ⟨.sl j', p⟩ => if j' = i then none else if j' = j then some ⟨.sl i, m :: p⟩ else some ⟨.sl j', p⟩
  | some ⟨.tm n, p⟩ => some ⟨.tm n, p⟩
theorem unl_none {ow3 : Ow} {i j m : Nat} {b : Addr} (h : ow3 b = none) : unl ow ow3 i j m b = none := by unfold unl; rw [h]
theorem unl_tm {ow3 : Ow} {i j m n : Nat} {p : List Nat} {b : Addr} (h : ow3 b = some ⟨.tm n, p⟩) : unl ow ow3 i j m b = some ⟨.tm n, p⟩ := by unfold unl; rw [h]
theorem unl_sl {ow3 : Ow} {i j m n : Nat} {p : List Nat} {b : Addr} (h : ow3 b = some ⟨.sl n, p⟩) (h1 : n ≠ i) (h2 : n ≠ j) : unl ow ow3 i j m b = some ⟨.sl n, p⟩ := by
  unfold unl; rw [h]
  show (if n = i then none else if n = j then some (Loc.mk (.sl i) (m :: p)) else some ⟨.sl n, p⟩) = _
  rw [if_neg h1, if_neg h2]
theorem unl_j {ow3 : Ow} {i j m : Nat} {p : List Nat} {b : Addr} (h : ow3 b = some ⟨.sl j, p⟩) (h1 : j ≠ i) : unl ow ow3 i j m b = some ⟨.sl i, m :: p⟩ := by
  unfold unl; rw [h]
  show (if j = i then none else if j = j then some (Loc.mk (.sl i) (m :: p)) else some ⟨.sl j, p⟩) = _
  rw [if_neg h1, if_pos rfl]
theorem unl_i {ow3 : Ow} {i j m : Nat} {p q : List Nat} {b : Addr} (h : ow3 b = some ⟨.fo, q⟩) (h1 : ow b = some ⟨.sl i, p⟩) : unl ow ow3 i j m b = some ⟨.sl i, p⟩ := by
  unfold unl; rw [h, h1]
  show (if i = i then some (Loc.mk (.sl i) p) else none) = _
  rw [if_pos rfl]
/-- whoever owns behind the body -/
theorem unl_of {ow3 : Ow} {i j m : Nat} {b : Addr} {l : Loc} (h : unl ow ow3 i j m b = some l) : (∃ l3, ow3 b = some l3) ∧ ((∃ l0, ow b = some l0 ∧ (l.b = .fo ∨ l0.b ≠ .fo)) ∨ ∃ l3, ow3 b = some l3 ∧ l3.b ≠ .fo) := by
  unfold unl at h
  cases e : ow3 b with
  | none => rw [e] at h; cases h
  | some l3 =>
    refine ⟨⟨l3, rfl⟩, ?_⟩
    rw [e] at h
    obtain ⟨b3, p3⟩ := l3
    cases b3 with
    | fo =>
      cases e2 : ow b with
      | none => rw [e2] at h; cases h
      | some l0 =>
        rw [e2] at h
        obtain ⟨b0, p0⟩ := l0
        refine .inl ⟨_, rfl, ?_⟩
        cases b0 with
        | fo => cases h; exact .inl rfl
        | sl n => exact .inr fun z => nomatch z
        | tm n => exact .inr fun z => nomatch z
    | sl n => exact .inr ⟨_, rfl, fun z => nomatch z⟩
    | tm n => exact .inr ⟨_, rfl, fun z => nomatch z⟩
theorem StW.unlend {i j m : Nat} {ds : List D} {d' : D} {a : Addr} {v : V} {vs : List V} {ow3 : Ow} {r3 : Rho} {T3 : List (D × V)} {s3 : L2.St} {H3 : Hp} (S : StW G C ow r T s H) (q : r[i]? = some (some (.node .lst true ds))) (ha : s[i]? = some (some (.ref a)))
    (hH : H a = some (.lst vs)) (hv : vs[m]? = some v) (S3 : StW G (C.bod H ow i j (.ref a) v) ow3 r3 T3 s3 H3) (q3 : r3[j]? = some (some d') ∨ d' = .any) (hij : i ≠ j) :
    StW G C (unl ow ow3 i j m) ((r3.set i (some (.node .lst true (ds.set m d')))).set j (some .any)) T3 s3 H3 := by
  obtain ⟨w, z1, a', vs', ev, z2, z3, z4⟩ := S.sl i _ q
  rw [ha] at z1
  cases z1
  cases ev
  have z2 : H a = some (.lst vs') := z2
  rw [hH] at z2
  cases z2
  have oa : ow a = some ⟨.sl i, []⟩ := by simpa [OwnAt] using z3
  have keep : ∀ b o, H b = some o → ¬ (C.bod H ow i j (.ref a) v).io b → H3 b = some o := fun b o e n => S3.old b o n e
  have nset : ∀ b p, ow b = some ⟨.sl i, p⟩ → ¬ (C.bod H ow i j (.ref a) v).io b := fun b p e n => by
    obtain ⟨l, e2, _, n2⟩ := n
    rw [e] at e2
    cases e2
    exact n2 rfl
  have nnone : ∀ b, ow b = none → ¬ (C.bod H ow i j (.ref a) v).io b := fun b e n => by
    obtain ⟨l, e2, _, _⟩ := n
    rw [e] at e2; cases e2
  have fo3 : ∀ b p, ow b = some ⟨.sl i, p⟩ → ow3 b = some ⟨.fo, []⟩ := fun b p e => S3.fo b (.inr ⟨p, e⟩)
  have nown : ∀ b o, H b = some o → ow b = none → unl ow ow3 i j m b = none := fun b o e n => by
    cases e3 : ow3 b with
    | none => exact unl_none e3
    | some l3 =>
      obtain ⟨b3, p3⟩ := l3
      rcases S3.own b _ e3 with z | z | z
      · have z : b3 = .fo := z
        subst z
        unfold unl
        rw [e3, n]
      · have z : H b = none := z
        rw [z] at e; cases e
      · exact absurd z (nnone b n)
  have p3 : s3[j]? = some (some v) := S3.pin (j, v) List.mem_cons_self
  have p3i : s3[i]? = some (some (.ref a)) := S3.pin (i, .ref a) (List.mem_cons_of_mem _ List.mem_cons_self)
  refine ⟨by simpa using S3.len, fun i' d y => ?_, fun n d w y => ?_, fun b o n y => ?_, fun b l y => ?_, fun b y => ?_, fun b l y => ?_, fun p hp => S3.pin p (List.mem_cons_of_mem _ (List.mem_cons_of_mem _ hp))⟩
  · by_cases hj : i' = j
    · subst hj
      have hlt : i' < r3.length := by
        have := (List.getElem?_eq_some_iff.mp y).1
        simpa using this
      rw [List.getElem?_set_self (by simpa using hlt)] at y
      cases y
      exact ⟨v, p3, trivial⟩
    · rw [List.getElem?_set_ne (Ne.symm hj)] at y
      by_cases hi : i' = i
      · subst hi
        have hlt : i' < r3.length := by
          have := (List.getElem?_eq_some_iff.mp y).1
          simpa using this
        rw [List.getElem?_set_self hlt] at y
        cases y
        refine ⟨_, p3i, a, vs, rfl, keep a _ hH (nset a _ oa), .mk ?_, Reps.of_get (by simp [z4.length]) fun n d v' y1 y2 => ?_⟩
        · exact unl_i (fo3 a _ oa) oa
        · by_cases hm : n = m
          · subst hm
            have hlt : n < ds.length := by
              have := (List.getElem?_eq_some_iff.mp y1).1
              simpa using this
            rw [List.getElem?_set_self hlt] at y1
            cases y1
            rw [hv] at y2
            cases y2
            rcases q3 with q3 | q3
            · obtain ⟨w, x1, x2⟩ := S3.sl j _ q3
              rw [p3] at x1
              cases x1
              refine x2.mono d' (fun _ _ z _ => z) (fun _ _ z _ => z) (fun _ _ _ z => unl_none z) fun b o p _ z => ?_
              have z : ow3 b = some ⟨.sl j, p⟩ := by rw [z]; simp [Loc.app]
              rw [unl_j z (Ne.symm hij)]
              simp [Loc.sub, Loc.app]
            · rw [q3]; trivial
          · rw [List.getElem?_set_ne (Ne.symm hm)] at y1
            obtain ⟨v2, e1, e2⟩ := z4.get n d y1
            rw [y2] at e1
            cases e1
            refine e2.mono d (fun b o z u => keep b o z ?_) (fun b o z u => keep b o z ?_) (fun b o z n => nown b o z n) fun b o p _ z => ?_
            · rcases u with u | ⟨p, u⟩
              · exact nnone b u
              · exact nset b _ u
            · rintro ⟨l, x1, _, _⟩
              have := S.mu b l x1
              rw [z] at this
              exact u this
            · exact unl_i (fo3 b _ z) z
      · rw [List.getElem?_set_ne (Ne.symm hi)] at y
        obtain ⟨w, y1, y2⟩ := S3.sl i' d y
        refine ⟨w, y1, y2.mono d (fun _ _ z _ => z) (fun _ _ z _ => z) (fun _ _ _ z => unl_none z) fun b o p _ z => ?_⟩
        exact unl_sl z hi hj
  · exact Rep.mono (l := ⟨.tm n, []⟩) d (fun _ _ z _ => z) (fun _ _ z _ => z) (fun _ _ _ z => unl_none z) (fun b o p _ z => unl_tm (p := [] ++ p) z) (S3.tm n d w y)
  · refine keep b o (S.old b o n y) ?_
    rintro ⟨l, x1, x2, _⟩
    rcases S.own b l x1 with z | z | z
    · exact x2 z
    · rw [z] at y; cases y
    · exact n z
  · have back : ∀ l0, ow b = some l0 → l0.b ≠ .fo → C.H0 b = none ∨ C.io b := fun l0 e n => (S.own b l0 e).resolve_left n
    rcases (unl_of y).2 with ⟨l0, e, h | h⟩ | ⟨l3, e, h⟩
    · exact .inl h
    · exact .inr (back l0 e h)
    · refine .inr ?_
      rcases S3.own b l3 e with z | z | z
      · exact absurd z h
      · have z : H b = none := z
        cases e0 : C.H0 b with
        | none => exact .inl rfl
        | some o =>
          by_cases hi : C.io b
          · exact .inr hi
          · rw [S.old b o hi e0] at z; cases z
      · obtain ⟨l0, x1, x2, _⟩ := z
        exact back l0 x1 x2
  · have e3 := S3.fo b (.inl y)
    unfold unl
    rw [e3, S.fo b y]
  · obtain ⟨⟨l3, e3⟩, _⟩ := unl_of y
    exact S3.mu b l3 e3
/-! ### for x in a name's own list, each part in hand -/
def partD (r : Rho) (j : Nat) : D := match r[j]? with
  | some (some d) => d
  | _ => .any
theorem partD_or (r : Rho) (j : Nat) : r[j]? = some (some (partD r j)) ∨ partD r j = .any := by
  unfold partD
  split
  · rename_i d e; exact .inl e
  · exact .inr rfl
def putM (i j m : Nat) (ds : List D) (r2 : Rho) : Rho := (r2.set i (some (.node .lst true (ds.set m (partD r2 j))))).set j (some .any)
def atL (i j : Nat) : R → Bool
  | .loc l => decide (l = i) || decide (l = j)
  | .val _ => false
def forM (i j n : Nat) (f : Sv) : Nat → Rho → SO
  | 0, r => (match r[i]? with
    | some (some (.node .lst true ds)) => if ds.length = n then .nx r else .bad
    | _ => .bad)
  | k + 1, r => (match r[i]? with
    | some (some (.node .lst true ds)) => if ds.length = n ∧ j < r.length then (match ds[n - (k + 1)]? with
      | some d => (match f ((r.set i (some .any)).set j (some d)) with
        | .nx r2 => forM i j n f k (putM i j (n - (k + 1)) ds r2)
        | .ct r2 => forM i j n f k (putM i j (n - (k + 1)) ds r2)
        | .bk r2 => .nx (putM i j (n - (k + 1)) ds r2)
        | .rt x r2 => if atL i j x = true then .bad else .rt x (putM i j (n - (k + 1)) ds r2)
        | .exc c r2 => .exc c (putM i j (n - (k + 1)) ds r2)
        | .bad => .bad)
      | none => .bad) else .bad
    | _ => .bad)
def cForM (i j : Nat) (f : Sv) : Sv := fun r => match r[i]? with
  | some (some (.node .lst true ds)) => forM i j ds.length f ds.length r
  | _ => .bad
theorem vs_forM {i j : Nat} {x y : Str} {p py : Pos} {body : List Stmt} {pos : Pos} (hp : PassesOwn (model X.prog X.w) X.A X.env X.xe) (hc : X.calm = true) (hND : X.N.Nodup) (hij : i ≠ j) (hN : X.N[i]? = some x) (hv : Vis X.env.scope x) (hd : (x == ("__debug__" : Str)) = false) (hcd : (x == ("__classdict__" : Str)) = false)
    (hj : X.N[j]? = some y) (hx : L2.Loc X.env.scope y) (hpin : ∀ p ∈ C.pin, p.1 ≠ j) (hb : ∀ C' : Fc, (∃ u v, C'.pin = (j, v) :: (i, u) :: C.pin) → VSs X G C' W body f)
    (hf : X.fn y = true ∨ X.env.scope.names.lookup y = some .local := by first | exact .inl rfl | exact .inr rfl | assumption)
    (hs : ∀ y, foldedSetIterable (.Name x p) X.env y = pure y := by intro _; rfl) : VS X G C W (.For (.Name y py) (.Name x p) body [] pos) (cForM i j f) := by
  have hb' : PSs X body (fun D s H => ∃ C' : Fc, (∃ u v, C'.pin = (j, v) :: (i, u) :: C.pin) ∧ tVS G C' W f D s H) := ⟨fun pins s σ H D I w => by
    obtain ⟨C', e, w⟩ := w
    exact (hb C' e).run pins s σ H D I w⟩
  refine PS.imp (ps_for hp hc (pi_list (pe_var hN hv hd hcd)) (pg_name hND hj hx hf) hb' hs) fun E s H h => ?_
  obtain ⟨r, T, S, h⟩ := h
  unfold cForM at h
  split at h
  · rename_i ds0 q0
    obtain ⟨ow, S⟩ := S
    obtain ⟨v, z1, a, vs, ev, z2, z3, z4⟩ := S.sl i _ q0
    subst ev
    refine ⟨_, z1, a, rfl, ⟨vs, SqL.of z2⟩, ?_⟩
    refine ⟨fun l m s' H' => m = ds0.length - l ∧ l ≤ ds0.length ∧ s'[i]? = some (some (.ref a)) ∧ ∃ r', StOk G C r' T s' H' ∧ GoesS G C W T E (forM i j ds0.length f (ds0.length - l) r'), ⟨ds0.length, by simp, Nat.zero_le _, z1, r, ⟨ow, S⟩, by simpa using h⟩, ?_⟩
    rintro l m s' H' ⟨rfl, hl0, hpi, r', ⟨ow', S'⟩, h'⟩
    by_cases hlt : l < ds0.length
    · obtain ⟨k, hk⟩ : ∃ k, ds0.length - l = k + 1 := ⟨ds0.length - l - 1, by omega⟩
      rw [hk] at h'
      unfold forM at h'
      split at h'
      · rename_i ds q
        split at h'
        · rename_i hl
          obtain ⟨hl, hjl⟩ := hl
          have ej : ds0.length - (k + 1) = l := by omega
          rw [ej] at h'
          split at h'
          · rename_i d hd'
            obtain ⟨a2, vs2, v2, w1, hA, oA, hl2, hv2, rx, S2⟩ := S'.lift q hd'
            rw [hpi] at w1
            cases w1
            have hA : H' a = some (.lst vs2) := hA
            refine .inr ⟨⟨vs2, v2, SqL.of hA, hv2⟩, fun s2 H2 => s2[i]? = some (some (.ref a)) ∧ ∃ r2, StOk G C r2 T s2 H2 ∧ GoesS G C W T E (forM i j ds0.length f (ds0.length - (l + 1)) r2), fun s2 H2 n2 => ⟨ds0.length - (l + 1), by omega, rfl, hlt, n2⟩, fun x H2 yl => ?_⟩
            obtain ⟨e1, e2⟩ := yl
            subst e1
            have ex := e2 vs2 (SqL.of hA)
            rw [hv2] at ex
            cases ex
            have kk : ds0.length - (l + 1) = k := by omega
            rw [kk]
            obtain ⟨ow4, S4⟩ : StOk G C ((r'.set i (some (.node .lst true (ds.set l .any)))).set j (some d)) T (s'.set j (some v2)) H2 := ⟨_, S2.set hpin⟩
            have hsl : j < s'.length := by rw [← S'.len]; exact hjl
            have a4 : (s'.set j (some v2))[i]? = some (some (.ref a)) := by rw [List.getElem?_set_ne (Ne.symm hij)]; exact hpi
            have S5 := S4.lend a4 (List.getElem?_set_self hsl)
            have hil : i < r'.length := (List.getElem?_eq_some_iff.mp q).1
            have q4 : ((r'.set i (some (.node .lst true (ds.set l .any)))).set j (some d))[i]? = some (some (.node .lst true (ds.set l .any))) := by
              rw [List.getElem?_set_ne (Ne.symm hij), List.getElem?_set_self hil]
            have er : ((r'.set i (some (.node .lst true (ds.set l .any)))).set j (some d)).set i (some .any) = (r'.set i (some .any)).set j (some d) := by
              rw [List.set_comm _ _ (Ne.symm hij), List.set_set]
            rw [er] at S5
            have un : ∀ {T3 : List (D × V)} {r6 : Rho} {s6 : L2.St} {H6 : Hp}, StOk G (C.bod H2 ow4 i j (.ref a) v2) r6 T3 s6 H6 → StOk G C (putM i j l ds r6) T3 s6 H6 ∧ s6[i]? = some (some (.ref a)) := fun {T3 r6 s6 H6} ⟨ow6, S6⟩ => by
              have z := StW.unlend S4 q4 a4 hA hv2 S6 (partD_or r6 j) hij
              rw [List.set_set] at z
              exact ⟨⟨_, z⟩, S6.pin (i, .ref a) (List.mem_cons_of_mem _ List.mem_cons_self)⟩
            refine ⟨_, ⟨.ref a, v2, rfl⟩, _, T, ⟨_, S5⟩, ?_⟩
            cases e3 : f ((r'.set i (some .any)).set j (some d)) with
            | nx r3 => simp only [e3] at h'; exact fun s4 H4 S4 => ⟨(un S4).2, _, (un S4).1, h'⟩
            | ct r3 => simp only [e3] at h'; exact fun s4 H4 S4 => ⟨(un S4).2, _, (un S4).1, h'⟩
            | bk r3 => simp only [e3] at h'; exact fun s4 H4 S4 => h' s4 H4 (un S4).1
            | rt x r3 =>
              simp only [e3] at h'
              split at h'
              · exact h'.elim
              · exact fun s4 v H4 P4 => h' s4 v H4 ⟨(un P4.1).1, P4.2⟩
            | exc c r3 => simp only [e3] at h'; exact fun s4 H4 S4 => h' s4 H4 (un S4).1
            | bad => simp only [e3] at h'; exact h'.elim
          · exact h'.elim
        · exact h'.elim
      · exact h'.elim
    · have ej : l = ds0.length := by omega
      subst ej
      rw [Nat.sub_self] at h'
      unfold forM at h'
      split at h'
      · rename_i ds q
        split at h'
        · rename_i hl
          obtain ⟨v2, w1, a2, vs2, ev2, w2, w3, w4⟩ := S'.sl i _ q
          rw [hpi] at w1
          cases w1
          cases ev2
          exact .inl ⟨⟨vs2, SqL.of w2, by rw [← w4.length]; omega⟩, h' s' H' ⟨ow', S'⟩⟩
        · exact h'.elim
      · exact h'.elim
  · exact h.elim
end
/-- a turn of it -/
theorem forM_cons {i j n k : Nat} {f : Sv} {d : D} {ds : List D} {r r2 : Rho} (h : r[i]? = some (some (.node .lst true ds))) (hn : ds.length = n) (hj : j < r.length) (hd : ds[n - (k + 1)]? = some d) (h2 : f ((r.set i (some .any)).set j (some d)) = .nx r2) : forM i j n f (k + 1) r = forM i j n f k (putM i j (n - (k + 1)) ds r2) := by
  conv => lhs; unfold forM
  rw [h]
  show (if ds.length = n ∧ j < r.length then _ else _) = _
  rw [if_pos ⟨hn, hj⟩, hd]
  show (match f ((r.set i (some .any)).set j (some d)) with | .nx r2 => forM i j n f k (putM i j (n - (k + 1)) ds r2) | .ct r2 => forM i j n f k (putM i j (n - (k + 1)) ds r2) | .bk r2 => .nx (putM i j (n - (k + 1)) ds r2) | .rt x r2 => if atL i j x = true then .bad else .rt x (putM i j (n - (k + 1)) ds r2) | .exc c r2 => .exc c (putM i j (n - (k + 1)) ds r2) | .bad => .bad) = _
  rw [h2]
theorem forM_nil {i j n : Nat} {f : Sv} {ds : List D} {r : Rho} (h : r[i]? = some (some (.node .lst true ds))) (hn : ds.length = n) : forM i j n f 0 r = .nx r := by
  unfold forM
  rw [h]
  exact if_pos hn
/-- the whole walk: each part becomes another one, and the rest of the state is kept up -/
theorem forM_all {i j : Nat} {f : Sv} {ds : List D} {r : Rho} (Inv : Nat → Rho → Prop) (es : List D) (hl : es.length = ds.length) (hij : i ≠ j) (h : r[i]? = some (some (.node .lst true ds))) (hj : j < r.length) (h0 : Inv 0 r)
    (hs : ∀ (k : Nat) (r' : Rho), k < ds.length → Inv k r' → r'[i]? = some (some (.node .lst true (es.take k ++ ds.drop k))) → j < r'.length → ∃ r2, f ((r'.set i (some .any)).set j (some (ds.getD k .any))) = .nx r2 ∧ j < r2.length ∧ i < r2.length ∧ partD r2 j = es.getD k .any ∧ Inv (k + 1) ((r2.set i (some (.node .lst true (es.take (k + 1) ++ ds.drop (k + 1))))).set j (some .any))) :
    ∃ r', cForM i j f r = .nx r' ∧ Inv ds.length r' ∧ r'[i]? = some (some (.node .lst true es)) := by
  have go : ∀ (k : Nat) (r' : Rho), k ≤ ds.length → Inv (ds.length - k) r' → r'[i]? = some (some (.node .lst true (es.take (ds.length - k) ++ ds.drop (ds.length - k)))) → j < r'.length → ∃ r2, forM i j ds.length f k r' = .nx r2 ∧ Inv ds.length r2 ∧ r2[i]? = some (some (.node .lst true es)) := by
    intro k
    induction k with
    | zero =>
      intro r' _ hi hr _
      rw [Nat.sub_zero] at hi hr
      rw [List.drop_length, List.append_nil, ← hl, List.take_length] at hr
      exact ⟨r', forM_nil hr hl, hi, hr⟩
    | succ k ih =>
      intro r' hk hi hr hj'
      obtain ⟨m, hm⟩ : ∃ m, ds.length - (k + 1) = m := ⟨_, rfl⟩
      rw [hm] at hi hr
      have hml : m < ds.length := by omega
      obtain ⟨r2, e1, e2, e3, e4, e5⟩ := hs m r' hml hi hr hj'
      have hd : (es.take m ++ ds.drop m)[m]? = some ds[m] := by
        rw [List.getElem?_append_right (by rw [List.length_take]; omega), List.length_take, Nat.min_eq_left (by omega), Nat.sub_self, List.getElem?_drop, Nat.add_zero, List.getElem?_eq_getElem hml]
      have eg : ds.getD m .any = ds[m] := by rw [List.getD_eq_getElem?_getD, List.getElem?_eq_getElem hml]; rfl
      rw [eg] at e1
      have st := forM_cons (n := ds.length) (k := k) (f := f) hr (by rw [List.length_append, List.length_take, List.length_drop]; omega) hj' (by rw [hm]; exact hd) e1
      rw [st]
      have ep : putM i j (ds.length - (k + 1)) (es.take m ++ ds.drop m) r2 = (r2.set i (some (.node .lst true (es.take (m + 1) ++ ds.drop (m + 1))))).set j (some .any) := by
        unfold putM
        rw [hm, e4]
        congr 4
        rw [List.set_append_right _ _ (by rw [List.length_take]; omega), List.length_take, Nat.min_eq_left (by omega), Nat.sub_self, List.drop_eq_getElem_cons hml, List.set_cons_zero, List.take_succ_eq_append_getElem (by omega), List.append_assoc, List.getD_eq_getElem?_getD, List.getElem?_eq_getElem (by omega)]
        rfl
      have hmk : ds.length - k = m + 1 := by omega
      rw [ep]
      refine ih _ (by omega) (by rw [hmk]; exact e5) ?_ (by simpa using e2)
      rw [hmk, List.getElem?_set_ne (Ne.symm hij), List.getElem?_set_self e3]
  have st : cForM i j f r = forM i j ds.length f ds.length r := by
    unfold cForM; rw [h]
  rw [st]
  refine go ds.length r (Nat.le_refl _) (by rw [Nat.sub_self]; exact h0) ?_ hj
  rw [Nat.sub_self, List.take_zero, List.nil_append, List.drop_zero]
  exact h
end VL

namespace VL
open PySem PySem.Spec PyProof.Rows L2
/-! ### a def that changes one of its arguments, wherever it stands; the thing a name's, or new -/
def fcQ (H : Hp) (ow0 : Ow) (q : Nat) (v0 : V) : Fc := ⟨H, fun a => ∃ p, ow0 a = some ⟨.sl q, p⟩, fun a => ow0 a = some ⟨.fo, []⟩, [(q, v0)]⟩
def spQ (G : GX) (q n : Nat) (F : D → List D → MO) : Sp := fun vs H Q E => ∃ (d0 : D) (ds : List D) (v0 : V) (us1 us2 : List V) (ow0 : Ow), vs = us1 ++ v0 :: us2 ∧ us1.length = q ∧ ds.length = n ∧ frzs ds = ds ∧ Rep G ow0 H d0 ⟨.sl q, []⟩ v0 ∧ Reps G ow0 H ds ⟨.fo, []⟩ 0 (us1 ++ us2) ∧
  (∀ a l, ow0 a = some l → OwnO (H a) ∧ (l.b = .sl q ∨ l = ⟨.fo, []⟩)) ∧ match F d0 ds with
  | .ok d d0' => ∀ v H' (ow1 : Ow) (b : Bs), (∀ a o, (∀ p, ow0 a ≠ some ⟨.sl q, p⟩) → H a = some o → H' a = some o) → b ≠ .fo → b ≠ .sl q → Rep G ow1 H' d ⟨b, []⟩ v → Rep G ow1 H' d0' ⟨.sl q, []⟩ v0 →
      (∀ a l, ow1 a = some l → l.b ≠ .fo → H a = none ∨ ∃ p, ow0 a = some ⟨.sl q, p⟩) → (∀ a, ow0 a = some ⟨.fo, []⟩ → ow1 a = some ⟨.fo, []⟩) → (∀ a l, ow1 a = some l → OwnO (H' a)) → Q v H'
  | .bad => False
theorem spQ_len {G : GX} {q n : Nat} {F : D → List D → MO} {vs : List V} {H : Hp} {Q : VK} {E : XK} (h : spQ G q n F vs H Q E) : vs.length = n + 1 := by
  obtain ⟨d0, ds, v0, us1, us2, ow0, e, _, h1, _, _, h4, _⟩ := h
  have := h4.length
  rw [List.length_append] at this
  rw [e, List.length_append, List.length_cons]
  omega
def putQ (q : Nat) (d0 : D) (ds : List D) : List D := ds.take q ++ d0 :: ds.drop q
def runQ (q n : Nat) (f : Sv) (d0 : D) (ds : List D) : MO := match f (startR n (putQ q d0 ds)) with
  | .rt (.val d) r => (match r[q]? with
    | some (some d0') => .ok d d0'
    | _ => .bad)
  | .rt (.loc i) r => if i = q then .bad else (match opd r (.loc i), r[q]? with
    | some d, some (some d0') => .ok d d0'
    | _, _ => .bad)
  | .nx r => (match r[q]? with
    | some (some d0') => .ok .non d0'
    | _ => .bad)
  | _ => .bad
section
variable {G : GX} {H H' : Hp} {ow ow0 : Ow}
theorem startQ_ok {N : List Str} {d0 : D} {ds : List D} {v0 : V} {us1 us2 : List V} {q : Nat} (hq : us1.length = q) (hm : ∀ a l, ow0 a = some l → OwnO (H a) ∧ (l.b = .sl q ∨ l = ⟨.fo, []⟩)) (e : frzs ds = ds) (h0 : Rep G ow0 H d0 ⟨.sl q, []⟩ v0) (h : Reps G ow0 H ds ⟨.fo, []⟩ 0 (us1 ++ us2)) : StW G (fcQ H ow0 q v0) ow0 (startR N.length (putQ q d0 ds)) [] (L2.start N (us1 ++ v0 :: us2)) H := by
  have hlen := h.length
  rw [List.length_append] at hlen
  have part : ∀ (i' : Nat) (i : Nat) (d : D), ds[i']? = some d → (us1 ++ v0 :: us2)[i]? = (us1 ++ us2)[i']? → ∃ v, (L2.start N (us1 ++ v0 :: us2))[i]? = some (some v) ∧ Rep G ow0 H d ⟨.sl i, []⟩ v := fun i' i d q2 ev => by
    obtain ⟨v, h1, h2⟩ := h.get i' d q2
    have f : frz d = d := by
      have := congrArg (·[i']?) e
      simp only [frzs_map, List.getElem?_map, q2, Option.map_some] at this
      exact Option.some.inj this
    exact ⟨v, start_get (by rw [ev]; exact h1), Rep.moveF d f (fun a o z q => ⟨z, q⟩) (fun _ _ z _ => z) h2⟩
  exact {
  len := by
    unfold startR L2.start putQ
    simp
    omega
  sl := fun i d y => by
    have y' := startR_get y
    unfold putQ at y'
    by_cases h1 : i < q
    · rw [List.getElem?_append_left (by rw [List.length_take]; omega), List.getElem?_take_of_lt h1] at y'
      exact part i i d y' (by rw [List.getElem?_append_left (by omega), List.getElem?_append_left (by omega)])
    · by_cases h2 : i = q
      · subst h2
        rw [List.getElem?_append_right (by rw [List.length_take]; omega), List.length_take, Nat.min_eq_left (by omega), Nat.sub_self] at y'
        simp at y'
        subst y'
        exact ⟨v0, start_get (by rw [List.getElem?_append_right (by omega), hq, Nat.sub_self]; rfl), h0⟩
      · obtain ⟨m, hm⟩ : ∃ m, i = q + 1 + m := ⟨i - q - 1, by omega⟩
        subst hm
        rw [List.getElem?_append_right (by rw [List.length_take]; omega), List.length_take, Nat.min_eq_left (by omega), show q + 1 + m - q = m + 1 by omega, List.getElem?_cons_succ, List.getElem?_drop] at y'
        refine part (q + m) (q + 1 + m) d y' ?_
        rw [List.getElem?_append_right (by omega), List.getElem?_append_right (by omega), hq, show q + 1 + m - q = m + 1 by omega, List.getElem?_cons_succ, show q + m - q = m by omega]
  tm := fun j d v q => by simp at q
  old := fun a o _ z => z
  own := fun a l y => by
    obtain ⟨_, z | z⟩ := hm a l y
    · obtain ⟨lb, lp⟩ := l
      have z : lb = .sl q := z
      subst z
      exact .inr (.inr ⟨lp, y⟩)
    · subst z; exact .inl rfl
  fo := fun a y => y
  mu := fun a l y => (hm a l y).1
  pin := fun p hp => by
    have e : p = (q, v0) := by simpa [fcQ] using hp
    subst e
    exact start_get (by rw [List.getElem?_append_right (by omega), hq, Nat.sub_self]; rfl) }
end
section
variable {P : Program} {w : World} {K : PySem.W.Frag} {mg : Str → Option Value} {base : Heap} {G : GX}
theorem fnQ {x qual : Str} {st : Stmt} {f : Addr} {fd : FuncData} {N ps : List Str} {k q n : Nat} {fb : Sv} (F : Fun K x qual st f fd) (S : FnScope N ps (defScope st)) (hps : ps.length = n + 1)
    (hbody : ∀ (X : Cx) (C : Fc) (W : WX), X.prog = P → X.w = w → X.K = K → X.mg = mg → X.base = base → X.N = N → X.env.scope = defScope st → X.calm = true → X.ex = [] → Room k X.A → (∀ x, X.fn x = true) → (∀ p ∈ C.pin, p.1 = q) → Takes X W → PassesOwn (model X.prog X.w) X.A X.env X.xe → X.stack = X.env :: X.outer → X.env.frame = some X.env.locals → X.env.scope.kind = .function → VSs X G C W (defBody st) fb) :
    FnOk P w K mg base (L2.CX P w) (k + 1) f fd ps (spQ G q n (runQ q N.length fb)) := by
  refine F.okX S (fun vs H Q E h => (spQ_len h).trans hps.symm) (fun cdv A outer s H vs Q E hr h => ?_)
  obtain ⟨d0, ds, v0, us1, us2, ow0, ev, hq, h1, h2, h3, h4, h5, h6⟩ := h
  subst ev
  refine ⟨_, hbody (cxOf (L2.CX P w) P w K mg base N qual (defScope st) f cdv A outer s H E) (fcQ H ow0 q v0) (fun cls d _ H => E cls d H) rfl rfl rfl rfl rfl rfl rfl rfl rfl hr (fun _ => rfl) (fun p hp => by
    have e : p = (q, v0) := by simpa [fcQ] using hp
    rw [e]) (takes_of rfl rfl rfl rfl) (passes_of rfl) rfl rfl S.kind, ?_⟩
  refine ⟨startR N.length (putQ q d0 ds), [], ⟨_, startQ_ok (N := N) hq h5 h2 h3 h4⟩, ?_⟩
  have fin : ∀ {d d0' : D} {v : V} {r : Rho} {T : List (D × V)} {s' : L2.St} {H' : Hp} {ow : Ow} {b : Bs}, StW G (fcQ H ow0 q v0) ow r T s' H' → r[q]? = some (some d0') → b ≠ .fo → b ≠ .sl q → Rep G ow H' d ⟨b, []⟩ v →
      (∀ v H' (ow1 : Ow) (b : Bs), (∀ a o, (∀ p, ow0 a ≠ some ⟨.sl q, p⟩) → H a = some o → H' a = some o) → b ≠ .fo → b ≠ .sl q → Rep G ow1 H' d ⟨b, []⟩ v → Rep G ow1 H' d0' ⟨.sl q, []⟩ v0 →
      (∀ a l, ow1 a = some l → l.b ≠ .fo → H a = none ∨ ∃ p, ow0 a = some ⟨.sl q, p⟩) → (∀ a, ow0 a = some ⟨.fo, []⟩ → ow1 a = some ⟨.fo, []⟩) → (∀ a l, ow1 a = some l → OwnO (H' a)) → Q v H') → Q v H' :=
    fun {d d0' v r T s' H' ow b} S' h0 b1 b2 hr hq => by
      obtain ⟨v0', z1, z2⟩ := S'.sl q d0' h0
      have p0 := S'.pin (q, v0) (by simp [fcQ])
      have p0 : s'[q]? = some (some v0) := p0
      rw [p0] at z1
      cases z1
      exact hq v H' ow b (fun a o n y => S'.old a o (fun ⟨p, z⟩ => n p z) y) b1 b2 hr z2 (fun a l y n => (S'.own a l y).elim (fun z => absurd z n) id) (fun a y => S'.fo a y) S'.mu
  unfold runQ at h6
  cases e : fb (startR N.length (putQ q d0 ds)) with
  | nx r =>
    rw [e] at h6
    intro s' H' S'
    cases e2 : r[q]? with
    | none => simp only [e2] at h6
    | some o =>
      cases o with
      | none => simp only [e2] at h6
      | some d0' =>
        simp only [e2] at h6
        obtain ⟨ow, S'⟩ := S'
        exact fin (d := .non) (b := .tm 0) S' e2 (fun z => nomatch z) (fun z => nomatch z) rfl h6
  | rt x r =>
    rw [e] at h6
    intro s' v H' P'
    obtain ⟨⟨ow, S'⟩, l⟩ := P'
    cases x with
    | val d =>
      cases e2 : r[q]? with
      | none => simp only [e2] at h6
      | some o =>
        cases o with
        | none => simp only [e2] at h6
        | some d0' =>
          simp only [e2] at h6
          have z := opd_rep (x := .val d) (T := []) (T2 := []) (by simpa using S') l rfl
          exact fin (b := .tm 0) S' e2 (fun z => nomatch z) (fun z => nomatch z) z h6
    | loc i =>
      by_cases hi : i = q
      · simp only [hi, if_true] at h6
      · simp only [hi, if_false] at h6
        cases e3 : opd r (.loc i) with
        | none => simp only [e3] at h6
        | some d =>
          cases e2 : r[q]? with
          | none => simp only [e3, e2] at h6
          | some o =>
            cases o with
            | none => simp only [e3, e2] at h6
            | some d0' =>
              simp only [e3, e2] at h6
              have z := opd_rep (x := .loc i) (T := []) (T2 := []) (by simpa using S') l e3
              exact fin (b := .sl i) S' e2 (fun z => nomatch z) (fun z => hi (by injection z)) z h6
  | exc c r => rw [e] at h6; exact h6.elim
  | bk r => rw [e] at h6; exact h6.elim
  | ct r => rw [e] at h6; exact h6.elim
  | bad => rw [e] at h6; exact h6.elim
end
section
variable {X : Cx} {G : GX} {C : Fc} {W : WX} {ow ow' : Ow} {r : Rho} {T T1 T2 : List (D × V)} {s : L2.St} {H H' : Hp} {fs : Av}
/-- the last temporary goes back into the slot that it came from -/
def homeF (n i : Nat) : Loc → Option Loc
  | ⟨.sl j, p⟩ => if j = i then none else some ⟨.sl j, p⟩
  | ⟨.tm j, p⟩ => if j = n then some ⟨.sl i, p⟩ else if j < n then some ⟨.tm j, p⟩ else none
  | ⟨.fo, p⟩ => some ⟨.fo, p⟩
theorem StW.home {i : Nat} {d : D} {v : V} (S : StW G C ow r (T ++ [(d, v)]) s H) (hv : s[i]? = some (some v)) : StW G C (VL.rel (homeF T.length i) ow) (r.set i (some d)) T s H := by
  refine StW.reloc (StW.drop S) (by simp) (fun ⟨b, p⟩ h => by have h : b = .fo := h; subst h; rfl) (fun j d' y => ?_) fun j d' w y => ?_
  · by_cases hj : j = i
    · subst hj
      have hlt : j < r.length := by
        have := (List.getElem?_eq_some_iff.mp y).1
        simpa using this
      rw [List.getElem?_set_self hlt] at y
      cases y
      exact ⟨v, hv, (StW.last S).rel fun p => if_pos rfl⟩
    · rw [List.getElem?_set_ne (Ne.symm hj)] at y
      obtain ⟨w, y1, y2⟩ := S.sl j d' y
      exact ⟨w, y1, y2.rel fun p => if_neg hj⟩
  · have hj : j < T.length := (List.getElem?_eq_some_iff.mp y).1
    refine ((StW.drop S).tm j d' w y).rel fun p => ?_
    show (if j = T.length then _ else if j < T.length then _ else _) = _
    rw [if_neg (by omega), if_pos hj]
    rfl
def lentT (ow : Ow) (m q : Nat) : Ow := fun a => match ow a with
  | some l => if l.b = .tm m then some ⟨.sl q, l.p⟩ else some ⟨.fo, []⟩
  | none => none
def paidT (ow ow1 : Ow) (m n q : Nat) : Ow := fun a => match ow1 a with
  | some l => if l.b = .fo then ow a else if l.b = .sl q then some ⟨.tm m, l.p⟩ else some ⟨.tm n, l.p⟩
  | none => none
theorem lentT_none {m q : Nat} {a : Addr} : lentT ow m q a = none ↔ ow a = none := by
  unfold lentT
  cases ow a with
  | none => simp
  | some l => by_cases h : l.b = .tm m <;> simp [h]
theorem lentT_tm {m q : Nat} {a : Addr} {p : List Nat} : lentT ow m q a = some ⟨.sl q, p⟩ ↔ ow a = some ⟨.tm m, p⟩ := by
  unfold lentT
  cases ow a with
  | none => simp
  | some l =>
    obtain ⟨lb, lp⟩ := l
    by_cases h : lb = .tm m <;> simp [h]
theorem lentT_fo {m q : Nat} {a : Addr} {l : Loc} (h : ow a = some l) (n : l.b ≠ .tm m) : lentT ow m q a = some ⟨.fo, []⟩ := by
  unfold lentT; rw [h]; simp [n]
/-- the call, the changed thing the last temporary but one -/
theorem tempQ {q n : Nat} {F : D → List D → MO} {d0 : D} {v0 : V} {ds : List D} {us1 us2 : List V} {Q : VK} {E : XK} (S2 : StW G C ow r (T ++ [(d0, v0)]) s H) (hq : us1.length = q) (hn : ds.length = n) (hf : frzs ds = ds) (hr : Reps G ow H ds ⟨.fo, []⟩ 0 (us1 ++ us2))
    (h : match F d0 ds with
      | .ok d d0' => ∀ v H', StOk G C r (T ++ [(d0', v0)] ++ [(d, v)]) s H' → (∀ a o, H a = some o → (∀ p, ow a ≠ some ⟨.tm T.length, p⟩) → H' a = some o) → Q v H'
      | .bad => False) : spQ G q n F (us1 ++ v0 :: us2) H Q E := by
  have z2 : Rep G ow H d0 ⟨.tm T.length, []⟩ v0 := S2.last
  refine ⟨d0, ds, v0, us1, us2, lentT ow T.length q, rfl, hq, hn, hf, ?_, ?_, ?_, ?_⟩
  · refine Rep.mono (l := ⟨.tm T.length, []⟩) d0 (fun _ _ z _ => z) (fun _ _ z _ => z) (fun a o _ n => lentT_none.mpr n) (fun a o p _ n => ?_) z2
    exact lentT_tm.mpr n
  · exact Reps.moveF _ hf (fun a o z n => ⟨z, lentT_none.mpr n⟩) (fun _ _ z _ => z) hr
  · intro a m y
    unfold lentT at y
    cases x : ow a with
    | none => rw [x] at y; cases y
    | some m' =>
      rw [x] at y
      refine ⟨S2.mu a m' x, ?_⟩
      simp only at y
      split at y
      · cases y; exact .inl rfl
      · cases y; exact .inr rfl
  · cases e3 : F d0 ds with
    | bad => simp only [e3] at h
    | ok d d0' =>
      simp only [e3] at h
      intro v H' ow1 b k1 b1 b2 hr h0 k2 k3 k4
      have kept : ∀ a o, H a = some o → (∀ p, ow a ≠ some ⟨.tm T.length, p⟩) → H' a = some o := fun a o q n => k1 a o (fun p z => n p (lentT_tm.mp z)) q
      refine h v H' ⟨paidT ow ow1 T.length (T.length + 1) q, ?_⟩ kept
      have exn : ∀ a o, H a = some o → ¬ OwnO (some o) → H' a = some o := fun a o q n => kept a _ q fun p z => by
        have m := S2.mu a _ z
        rw [q] at m
        exact n m
      have none_ : ∀ a o, H a = some o → ow a = none → paidT ow ow1 T.length (T.length + 1) q a = none := fun a o q n => by
        unfold paidT
        cases y : ow1 a with
        | none => rfl
        | some m =>
          by_cases hf : m.b = .fo
          · simp only [hf, if_true]; exact n
          · rcases k2 a m y hf with z | ⟨p, z⟩
            · rw [z] at q; cases q
            · rw [lentT_tm.mp z] at n; cases n
      have same_ : ∀ a m, ow a = some m → m.b ≠ .tm T.length → paidT ow ow1 T.length (T.length + 1) q a = some m := fun a m q n => by
        unfold paidT
        rw [k3 a (lentT_fo q n)]
        simp [q]
      have hpush : StW G C (paidT ow ow1 T.length (T.length + 1) q) r (T ++ [(d0', v0)]) s H' := by
        refine ⟨S2.len, fun i' d' y => ?_, fun j' d' w y => ?_, fun a o n y => ?_, fun a m y => ?_, fun a y => ?_, fun a m y => ?_, S2.pin⟩
        · obtain ⟨w, y1, y2⟩ := S2.sl i' d' y
          refine ⟨w, y1, Rep.mono (l := ⟨.sl i', []⟩) d' (fun a o z u => kept a o z fun p z2 => ?_) (fun a o z n => exn a o z n) (fun a o z n => none_ a o z n) (fun a o p _ n => ?_) y2⟩
          · rcases u with u | ⟨p', u⟩
            · rw [u] at z2; cases z2
            · rw [u] at z2
              have z2 := Option.some.inj z2
              unfold Loc.app at z2
              injection z2 with z3 _
              cases z3
          · exact same_ a _ n (fun z => nomatch z)
        · rcases getT y with ⟨hj, y⟩ | ⟨hj, y⟩
          · have z := (StW.drop S2).tm j' d' w y
            refine Rep.mono (l := ⟨.tm j', []⟩) d' (fun a o z u => kept a o z fun p z2 => ?_) (fun a o z n => exn a o z n) (fun a o z n => none_ a o z n) (fun a o p _ n => ?_) z
            · rcases u with u | ⟨p', u⟩
              · rw [u] at z2; cases z2
              · rw [u] at z2
                have z2 := Option.some.inj z2
                unfold Loc.app at z2
                injection z2 with z3 _
                injection z3 with z3
                omega
            · exact same_ a _ n (fun z => by unfold Loc.app at z; injection z with z; omega)
          · cases y
            subst hj
            refine Rep.mono (l := ⟨.sl q, []⟩) d0' (fun _ _ z _ => z) (fun _ _ z _ => z) (fun a o _ n => by unfold paidT; rw [n]) (fun a o p _ n => ?_) h0
            have n' : ow1 a = some ⟨.sl q, [] ++ p⟩ := n
            unfold paidT
            rw [n']
            simp [Loc.app]
        · refine kept a o (S2.old a o n y) fun p z => ?_
          rcases S2.own a _ z with z2 | z2 | z2
          · cases z2
          · rw [z2] at y; cases y
          · exact n z2
        · unfold paidT at y
          cases y1 : ow1 a with
          | none => rw [y1] at y; cases y
          | some m' =>
            rw [y1] at y
            by_cases hf : m'.b = .fo
            · simp only [hf, if_true] at y
              exact S2.own a m y
            · refine .inr ?_
              rcases k2 a m' y1 hf with z | ⟨p, z⟩
              · cases e : C.H0 a with
                | none => exact .inl rfl
                | some u =>
                  by_cases hi : C.io a
                  · exact .inr hi
                  · rw [S2.old a u hi e] at z; cases z
              · rcases S2.own a _ (lentT_tm.mp z) with z2 | z2
                · cases z2
                · exact z2
        · exact same_ a _ (S2.fo a y) (fun z => nomatch z)
        · unfold paidT at y
          cases y1 : ow1 a with
          | none => rw [y1] at y; cases y
          | some m' => exact k4 a m' y1
      refine hpush.push (Rep.mono (l := ⟨b, []⟩) d (fun _ _ z _ => z) (fun _ _ z _ => z) (fun a o _ n => by unfold paidT; rw [n]) (fun a o p _ n => ?_) hr)
      have n' : ow1 a = some ⟨b, [] ++ p⟩ := n
      unfold paidT
      rw [n']
      simp [Loc.app, b1, b2]
theorem locs_split : ∀ {xs1 : List R} {x0 : R} {xs2 : List R} {vs : List V}, LocsOk s (xs1 ++ x0 :: xs2) vs → ∃ us1 v0 us2, vs = us1 ++ v0 :: us2 ∧ us1.length = xs1.length ∧ us2.length = xs2.length ∧ LocsOk s (xs1 ++ xs2) (us1 ++ us2) ∧ LocsOk s (xs2 ++ xs1) (us2 ++ us1) ∧ LocOk s v0 x0 ∧ pushs (xs1 ++ x0 :: xs2) vs = pushs xs1 us1 ++ (pushR x0 v0 ++ pushs xs2 us2) ∧ pushs (xs1 ++ xs2) (us1 ++ us2) = pushs xs1 us1 ++ pushs xs2 us2 ∧ pushs (xs2 ++ xs1) (us2 ++ us1) = pushs xs2 us2 ++ pushs xs1 us1 := by
  have app : ∀ {xs ys : List R} {us ws : List V}, xs.length = us.length → LocsOk s xs us → LocsOk s ys ws → LocsOk s (xs ++ ys) (us ++ ws) ∧ pushs (xs ++ ys) (us ++ ws) = pushs xs us ++ pushs ys ws := by
    intro xs
    induction xs with
    | nil =>
      intro ys us ws hl _ h2
      have : us = [] := by simpa using hl.symm
      subst this
      exact ⟨h2, rfl⟩
    | cons x xs ih =>
      intro ys us ws hl h1 h2
      cases us with
      | nil => simp at hl
      | cons u us =>
        obtain ⟨a, b⟩ := ih (by simpa using hl) h1.2 h2
        refine ⟨⟨h1.1, a⟩, ?_⟩
        show pushR x u ++ pushs (xs ++ ys) (us ++ ws) = (pushR x u ++ pushs xs us) ++ pushs ys ws
        rw [b, List.append_assoc]
  have spl : ∀ {xs1 : List R} {x0 : R} {xs2 : List R} {vs : List V}, LocsOk s (xs1 ++ x0 :: xs2) vs → ∃ us1 v0 us2, vs = us1 ++ v0 :: us2 ∧ us1.length = xs1.length ∧ us2.length = xs2.length ∧ LocsOk s xs1 us1 ∧ LocsOk s xs2 us2 ∧ LocOk s v0 x0 ∧ pushs (xs1 ++ x0 :: xs2) vs = pushs xs1 us1 ++ (pushR x0 v0 ++ pushs xs2 us2) := by
    intro xs1
    induction xs1 with
    | nil =>
      intro x0 xs2 vs h
      cases vs with
      | nil => exact h.elim
      | cons v vs => exact ⟨[], v, vs, rfl, rfl, h.2.length.symm, trivial, h.2, h.1, rfl⟩
    | cons x xs ih =>
      intro x0 xs2 vs h
      cases vs with
      | nil => exact h.elim
      | cons v vs =>
        obtain ⟨us1, v0, us2, e, l1, l2, h1, h2, h3, h4⟩ := ih h.2
        refine ⟨v :: us1, v0, us2, by rw [e]; rfl, by simp [l1], l2, ⟨h.1, h1⟩, h2, h3, ?_⟩
        show pushR x v ++ pushs (xs ++ x0 :: xs2) vs = (pushR x v ++ pushs xs us1) ++ _
        rw [h4, List.append_assoc]
  intro xs1 x0 xs2 vs h
  obtain ⟨us1, v0, us2, e, l1, l2, h1, h2, h3, h4⟩ := spl h
  obtain ⟨a1, b1⟩ := app l1.symm h1 h2
  obtain ⟨a2, b2⟩ := app l2.symm h2 h1
  exact ⟨us1, v0, us2, e, l1, l2, a1, a2, h3, h4, b1, b2⟩
theorem valsR_app : ∀ {xs ys : List R} {ds es : List D}, valsR xs = some ds → valsR ys = some es → valsR (xs ++ ys) = some (ds ++ es)
  | [], ys, ds, es, h1, h2 => by cases h1; exact h2
  | .loc _ :: _, _, _, _, h1, _ => by cases h1
  | .val d :: xs, ys, ds, es, h1, h2 => by
    unfold valsR at h1
    cases e : valsR xs with
    | none => rw [e] at h1; cases h1
    | some ds' =>
      rw [e] at h1
      cases h1
      show (match valsR (xs ++ ys) with | some ds => some (d :: ds) | none => none) = _
      rw [valsR_app e h2]; rfl
/-- the call: the q-th argument a name's own thing or a new one -/
def callKQ (q n : Nat) (F : D → List D → MO) (xs : List R) (r : Rho) : EO := if xs.length = n + 1 then (match xs.drop q with
  | .loc i :: rest => (match valsR (xs.take q), valsR rest, r[i]? with
    | some ds1, some ds2, some (some d0) => (match F d0 (frzs (ds1 ++ ds2)) with
      | .ok d d0' => .ok (.val d) (r.set i (some d0'))
      | .bad => .bad)
    | _, _, _ => .bad)
  | .val d0 :: rest => (match valsR (xs.take q), valsR rest with
    | some ds1, some ds2 => (match F d0 (frzs (ds1 ++ ds2)) with
      | .ok d _ => .ok (.val d) r
      | .bad => .bad)
    | _, _ => .bad)
  | [] => .bad) else .bad
def cCallQ (q n : Nat) (F : D → List D → MO) (fs : Av) : Ev := fun r => (fs r).bd (callKQ q n F)
theorem callQ_go {q n : Nat} {F : D → List D → MO} {Q : VK} {xs : List R} {vs : List V} {E : XK} (hqn : q ≤ n) (S : StOk G C r (T ++ pushs xs vs) s H) (l : LocsOk s xs vs) (h : Goes G C W T s Q (callKQ q n F xs r)) : spQ G q n F vs H Q E := by
  unfold callKQ at h
  split at h
  · rename_i hlen
    obtain ⟨x0, rest, hd⟩ : ∃ x0 rest, xs.drop q = x0 :: rest := by
      cases e : xs.drop q with
      | nil => have := congrArg List.length e; rw [List.length_drop] at this; simp at this; omega
      | cons x y => exact ⟨x, y, rfl⟩
    have hx : xs = xs.take q ++ x0 :: rest := by rw [← hd, List.take_append_drop]
    rw [hd] at h
    have htl : (xs.take q).length = q := by rw [List.length_take]; omega
    generalize hxs : xs.take q = xs1 at h hx htl
    subst hx
    obtain ⟨us1, v0, us2, ev, l1, l2, a1, a2, l0, e1, e2, e3⟩ := locs_split l
    rw [e1] at S
    subst ev
    have hrest : rest.length + q = n := by rw [List.length_append, List.length_cons] at hlen; omega
    cases x0 with
    | loc i =>
      simp only at h
      cases y1 : valsR xs1 with
      | none => simp only [y1] at h; exact h.elim
      | some ds1 =>
        cases y2 : valsR rest with
        | none => simp only [y1, y2] at h; exact h.elim
        | some ds2 =>
          cases y3 : r[i]? with
          | none => simp only [y1, y2, y3] at h; exact h.elim
          | some o =>
            cases o with
            | none => simp only [y1, y2, y3] at h; exact h.elim
            | some d0 =>
              simp only [y1, y2, y3] at h
              obtain ⟨ow, S⟩ := S
              have y12 := valsR_app y1 y2
              obtain ⟨g1, g2, g3⟩ := valsR_frz (r := r) y12
              obtain ⟨ow2, S2, r1, r2, r3⟩ := StW.settles (T := T) (xs := xs1 ++ rest) (vs := us1 ++ us2) (show StW G C ow r (T ++ pushs (xs1 ++ rest) (us1 ++ us2)) s H by rw [e2]; exact S) a1 g1
              rw [g2] at S2
              obtain ⟨v', z1, S3⟩ := S2.pull y3
              have l0 : s[i]? = some (some v0) := l0
              rw [l0] at z1
              cases z1
              refine tempQ (ds := frzs (ds1 ++ ds2)) S3 (by omega) (by rw [frzs_length, g3, List.length_append]; omega) (frzs_frzs _) (Reps.moveF _ (frzs_frzs _) (fun a o z n => ⟨z, rel_none n⟩) (fun _ _ z _ => z) (r1 ⟨.fo, []⟩ 0)) ?_
              cases y4 : F d0 (frzs (ds1 ++ ds2)) with
              | bad => simp only [y4] at h; exact h.elim
              | ok d d0' =>
                simp only [y4] at h
                intro v H' S4 _
                refine h v H' ⟨?_, trivial⟩
                have S5 : StOk G C (r.set i (some .any)) (T ++ ([(d0', v0)] ++ [(d, v)])) s H' := by simpa using S4
                have S6 := S5.swap
                obtain ⟨ow6, S6⟩ := S6
                have S7 : StW G C ow6 (r.set i (some .any)) ((T ++ [(d, v)]) ++ [(d0', v0)]) s H' := by simpa using S6
                have S8 := S7.home l0
                rw [List.set_set] at S8
                exact ⟨_, S8⟩
    | val d0 =>
      simp only at h
      cases y1 : valsR xs1 with
      | none => simp only [y1] at h; exact h.elim
      | some ds1 =>
        cases y2 : valsR rest with
        | none => simp only [y1, y2] at h; exact h.elim
        | some ds2 =>
          simp only [y1, y2] at h
          have S1 : StOk G C r ((T ++ [(d0, v0)]) ++ pushs (rest ++ xs1) (us2 ++ us1)) s H := by
            rw [e3]
            have z := StOk.swap (T := T) (A := pushs xs1 us1) (B := [(d0, v0)] ++ pushs rest us2) S
            simpa using z
          obtain ⟨ow, S1⟩ := S1
          have y21 := valsR_app y2 y1
          obtain ⟨g1, g2, g3⟩ := valsR_frz (r := r) y21
          have k1 := (valsR_frz (r := r) y1).2.2
          have k2 := (valsR_frz (r := r) y2).2.2
          obtain ⟨ow2, S2, r1, r2, r3⟩ := StW.settles S1 a2 g1
          rw [g2] at S2
          refine tempQ (ds := frzs (ds1 ++ ds2)) S2 (by omega) (by rw [frzs_length, List.length_append]; omega) (frzs_frzs _) ?_ ?_
          · have r1 := r1 ⟨.fo, []⟩ 0
            refine Reps.of_get (by rw [frzs_length, List.length_append, List.length_append]; omega) fun j d v x1 x2 => ?_
            have fd : frz d = d := by
              rw [frzs_map, List.getElem?_map] at x1
              cases z : (ds1 ++ ds2)[j]? with
              | none => rw [z] at x1; cases x1
              | some d1 => rw [z] at x1; cases x1; exact frz_frz d1
            have main : ∀ j', (frzs (ds2 ++ ds1))[j']? = some d → (us2 ++ us1)[j']? = some v → Rep G ow2 H d (Loc.sub ⟨.fo, []⟩ (0 + j)) v := fun j' w1 w2 => by
              obtain ⟨v', w3, w4⟩ := r1.get j' d w1
              rw [w2] at w3
              cases w3
              exact Rep.moveF d fd (fun a o z n => ⟨z, n⟩) (fun _ _ z _ => z) w4
            rw [frzs_map, List.map_append] at x1
            by_cases hj : j < ds1.length
            · rw [List.getElem?_append_left (by simpa using hj)] at x1
              rw [List.getElem?_append_left (by omega)] at x2
              refine main (ds2.length + j) ?_ ?_
              · rw [frzs_map, List.map_append, List.getElem?_append_right (by simp), List.length_map, Nat.add_sub_cancel_left]
                exact x1
              · rw [List.getElem?_append_right (by omega), show ds2.length + j - us2.length = j by omega]
                exact x2
            · rw [List.getElem?_append_right (by simpa using hj), List.length_map] at x1
              rw [List.getElem?_append_right (by omega)] at x2
              refine main (j - ds1.length) ?_ ?_
              · rw [frzs_map, List.map_append, List.getElem?_append_left (by
                  have := (List.getElem?_eq_some_iff.mp x1).1
                  exact this)]
                exact x1
              · rw [List.getElem?_append_left (by
                  have := (List.getElem?_eq_some_iff.mp x1).1
                  simp at this; omega), show j - ds1.length = j - us1.length by omega]
                exact x2
          · cases y4 : F d0 (frzs (ds1 ++ ds2)) with
            | bad => simp only [y4] at h; exact h.elim
            | ok d d0' =>
              simp only [y4] at h
              intro v H' S4 _
              exact h v H' (Post.slide (T2 := [(d0', v0)]) (x := .val d) ⟨S4, trivial⟩)
  · exact h.elim
theorem ve_callQ {q n k : Nat} {F : D → List D → MO} {f : Addr} {fd : FuncData} {ps : List Str} {x : Str} {p pos : Pos} {e : Expr} {es : List Expr} (tk : Takes X W) (Fk : FnOk X.prog X.w X.K X.mg X.base (L2.CX X.prog X.w) k f fd ps (spQ G q n F)) (hqn : q ≤ n) (hr : Room k X.A) (hg : Gl X x) (hm : X.mg x = some (.ref f))
    (hk : PySem.W.keepIn X.K (.ref f) = true) (hb : Binds X.K fd ps []) (ha : VA X G C W (e :: es) fs) (hdb : (x == ("__debug__" : Str)) = false := by decide) (he : starEach (e :: es) X.env = (false, eval e X.env) :: starEach es X.env := by rfl) (hpl : (backTo pos (starEach es X.env)).any (·.1) = false := by rfl) :
    VE X G C W (.Call (.Name x p) (e :: es) [] pos) (cCallQ q n F fs) := by
  refine PE.imp (pe_callS Fk hr hg hm hk hb (fun σ => passAt tk σ) ha hdb he hpl) fun s H Q h => ?_
  obtain ⟨r, T, S, g⟩ := h
  exact many (T2 := []) (by simpa using S) g fun xs vs r1 H1 S1 l1 g1 => callQ_go hqn (by simpa using S1) l1 g1
end
end VL

namespace VL
open PySem PySem.Spec PyProof.Rows L2
/-! ### a part by its place: x[k].append(e), f(x[k], ..) -/
section
variable {X : Cx} {G : GX} {C : Fc} {W : WX} {ow ow' : Ow} {r : Rho} {T T1 T2 : List (D × V)} {s : L2.St} {H H' : Hp} {fa fb fc fk : Ev} {fs : Av} {f g : Sv}
def unl0 (ow ow3 : Ow) (i : Nat) : Ow := fun b => match ow3 b with
  | none => none
  | some ⟨.fo, _⟩ => (match ow b with
    | some ⟨.fo, p⟩ => some ⟨.fo, p⟩
    | some ⟨.sl i', p⟩ => if i' = i then some ⟨.sl i, p⟩ else none
    | _ => none)
  | some ⟨.sl j', p⟩ => if j' = i then none else some ⟨.sl j', p⟩
  | some ⟨.tm n, p⟩ => some ⟨.tm n, p⟩
theorem unl0_none {ow3 : Ow} {i : Nat} {b : Addr} (h : ow3 b = none) : unl0 ow ow3 i b = none := by unfold unl0; rw [h]
theorem unl0_tm {ow3 : Ow} {i n : Nat} {p : List Nat} {b : Addr} (h : ow3 b = some ⟨.tm n, p⟩) : unl0 ow ow3 i b = some ⟨.tm n, p⟩ := by unfold unl0; rw [h]
theorem unl0_sl {ow3 : Ow} {i n : Nat} {p : List Nat} {b : Addr} (h : ow3 b = some ⟨.sl n, p⟩) (h1 : n ≠ i) : unl0 ow ow3 i b = some ⟨.sl n, p⟩ := by
  unfold unl0; rw [h]
  show (if n = i then none else some (Loc.mk (.sl n) p)) = _
  rw [if_neg h1]
theorem unl0_i {ow3 : Ow} {i : Nat} {p q : List Nat} {b : Addr} (h : ow3 b = some ⟨.fo, q⟩) (h1 : ow b = some ⟨.sl i, p⟩) : unl0 ow ow3 i b = some ⟨.sl i, p⟩ := by
  unfold unl0; rw [h, h1]
  show (if i = i then some (Loc.mk (.sl i) p) else none) = _
  rw [if_pos rfl]
theorem unl0_of {ow3 : Ow} {i : Nat} {b : Addr} {l : Loc} (h : unl0 ow ow3 i b = some l) : (∃ l3, ow3 b = some l3) ∧ ((∃ l0, ow b = some l0 ∧ (l.b = .fo ∨ l0.b ≠ .fo)) ∨ ∃ l3, ow3 b = some l3 ∧ l3.b ≠ .fo) := by
  unfold unl0 at h
  cases e : ow3 b with
  | none => rw [e] at h; cases h
  | some l3 =>
    refine ⟨⟨l3, rfl⟩, ?_⟩
    rw [e] at h
    obtain ⟨b3, p3⟩ := l3
    cases b3 with
    | fo =>
      cases e2 : ow b with
      | none => rw [e2] at h; cases h
      | some l0 =>
        rw [e2] at h
        obtain ⟨b0, p0⟩ := l0
        refine .inl ⟨_, rfl, ?_⟩
        cases b0 with
        | fo => cases h; exact .inl rfl
        | sl n => exact .inr fun z => nomatch z
        | tm n => exact .inr fun z => nomatch z
    | sl n => exact .inr ⟨_, rfl, fun z => nomatch z⟩
    | tm n => exact .inr ⟨_, rfl, fun z => nomatch z⟩
theorem StW.unlend0 {i : Nat} {k : Kd} {o : Bool} {ds : List D} {a : Addr} {vs : List V} {ow3 : Ow} {r3 : Rho} {T3 : List (D × V)} {s3 : L2.St} {H3 : Hp} (S : StW G C ow r T s H) (q : r[i]? = some (some (.node k o ds))) (hk : k ≠ .rd) (ha : s[i]? = some (some (.ref a)))
    (hH : Holds G H a k vs) (hu : ∀ us, Holds G H a k us → us = vs) (S3 : StW G (C.bod H ow i i (.ref a) (.ref a)) ow3 r3 T3 s3 H3) :
    StW G C (unl0 ow ow3 i) (r3.set i (some (.node k o ds))) T3 s3 H3 ∧ Holds G H3 a k vs ∧ s3[i]? = some (some (.ref a)) := by
  obtain ⟨w, z1, a', vs', ev, z2, z3, z4⟩ := S.sl i _ q
  rw [ha] at z1
  cases z1
  cases ev
  have ee := hu _ z2
  subst ee
  have oa : ow a = if o = true then some ⟨.sl i, []⟩ else none := z3.cases.resolve_left hk
  have keep : ∀ b o, H b = some o → ¬ (C.bod H ow i i (.ref a) (.ref a)).io b → H3 b = some o := fun b o e n => S3.old b o n e
  have nset : ∀ b p, ow b = some ⟨.sl i, p⟩ → ¬ (C.bod H ow i i (.ref a) (.ref a)).io b := fun b p e n => by
    obtain ⟨l, e2, _, n2⟩ := n
    rw [e] at e2
    cases e2
    exact n2 rfl
  have nnone : ∀ b, ow b = none → ¬ (C.bod H ow i i (.ref a) (.ref a)).io b := fun b e n => by
    obtain ⟨l, e2, _, _⟩ := n
    rw [e] at e2; cases e2
  have fo3 : ∀ b p, ow b = some ⟨.sl i, p⟩ → ow3 b = some ⟨.fo, []⟩ := fun b p e => S3.fo b (.inr ⟨p, e⟩)
  have nown : ∀ b o, H b = some o → ow b = none → unl0 ow ow3 i b = none := fun b o e n => by
    cases e3 : ow3 b with
    | none => exact unl0_none e3
    | some l3 =>
      obtain ⟨b3, p3⟩ := l3
      rcases S3.own b _ e3 with z | z | z
      · have z : b3 = .fo := z
        subst z
        unfold unl0
        rw [e3, n]
      · have z : H b = none := z
        rw [z] at e; cases e
      · exact absurd z (nnone b n)
  have p3i : s3[i]? = some (some (.ref a)) := S3.pin (i, .ref a) (List.mem_cons_of_mem _ List.mem_cons_self)
  have na : ¬ (C.bod H ow i i (.ref a) (.ref a)).io a := by
    cases o with
    | true => exact nset a [] (by simpa using oa)
    | false => exact nnone a (by simpa using oa)
  have hH3 : Holds G H3 a k vs' := by
    obtain ⟨ob, hob⟩ := hH.there hk
    exact hH.keep fun o z => keep a o z na
  refine ⟨⟨by simpa using S3.len, fun i' d y => ?_, fun n d w y => ?_, fun b o n y => ?_, fun b l y => ?_, fun b y => ?_, fun b l y => ?_, fun p hp => S3.pin p (List.mem_cons_of_mem _ (List.mem_cons_of_mem _ hp))⟩, hH3, p3i⟩
  · by_cases hi : i' = i
    · subst hi
      have hlt : i' < r3.length := by
        have := (List.getElem?_eq_some_iff.mp y).1
        simpa using this
      rw [List.getElem?_set_self hlt] at y
      cases y
      refine ⟨_, p3i, a, vs', rfl, hH3, .mk ?_, Reps.of_get z4.length fun n d v' y1 y2 => ?_⟩
      · obtain ⟨ob, hob⟩ := hH.there hk
        cases o with
        | true =>
          have oa' : ow a = some ⟨.sl i', []⟩ := by simpa using oa
          rw [unl0_i (fo3 a _ oa') oa']; rfl
        | false =>
          have oa' : ow a = none := by simpa using oa
          rw [nown a ob hob oa']; rfl
      · obtain ⟨v2, e1, e2⟩ := z4.get n d y1
        rw [y2] at e1
        cases e1
        refine e2.mono d (fun b o z u => keep b o z ?_) (fun b o z u => keep b o z ?_) (fun b o z n => nown b o z n) fun b o p _ z => ?_
        · rcases u with u | ⟨p, u⟩
          · exact nnone b u
          · exact nset b _ u
        · rintro ⟨l, x1, _, _⟩
          have := S.mu b l x1
          rw [z] at this
          exact u this
        · exact unl0_i (fo3 b _ z) z
    · rw [List.getElem?_set_ne (Ne.symm hi)] at y
      obtain ⟨w, y1, y2⟩ := S3.sl i' d y
      refine ⟨w, y1, y2.mono d (fun _ _ z _ => z) (fun _ _ z _ => z) (fun _ _ _ z => unl0_none z) fun b o p _ z => ?_⟩
      exact unl0_sl z hi
  · exact Rep.mono (l := ⟨.tm n, []⟩) d (fun _ _ z _ => z) (fun _ _ z _ => z) (fun _ _ _ z => unl0_none z) (fun b o p _ z => unl0_tm (p := [] ++ p) z) (S3.tm n d w y)
  · refine keep b o (S.old b o n y) ?_
    rintro ⟨l, x1, x2, _⟩
    rcases S.own b l x1 with z | z | z
    · exact x2 z
    · rw [z] at y; cases y
    · exact n z
  · have back : ∀ l0, ow b = some l0 → l0.b ≠ .fo → C.H0 b = none ∨ C.io b := fun l0 e n => (S.own b l0 e).resolve_left n
    rcases (unl0_of y).2 with ⟨l0, e, h | h⟩ | ⟨l3, e, h⟩
    · exact .inl h
    · exact .inr (back l0 e h)
    · refine .inr ?_
      rcases S3.own b l3 e with z | z | z
      · exact absurd z h
      · have z : H b = none := z
        cases e0 : C.H0 b with
        | none => exact .inl rfl
        | some o =>
          by_cases hi : C.io b
          · exact .inr hi
          · rw [S.old b o hi e0] at z; cases z
      · obtain ⟨l0, x1, x2, _⟩ := z
        exact back l0 x1 x2
  · have e3 := S3.fo b (.inl y)
    unfold unl0
    rw [e3, S.fo b y]
  · obtain ⟨⟨l3, e3⟩, _⟩ := unl0_of y
    exact S3.mu b l3 e3
/-- nothing is kept of it -/
theorem StW.unlendA {i : Nat} {a : Addr} {ow3 : Ow} {r3 : Rho} {T3 : List (D × V)} {s3 : L2.St} {H3 : Hp} (S : StW G C ow r T s H) (S3 : StW G (C.bod H ow i i (.ref a) (.ref a)) ow3 r3 T3 s3 H3) :
    StW G C (unl0 ow ow3 i) (r3.set i (some .any)) T3 s3 H3 := by
  have keep : ∀ b o, H b = some o → ¬ (C.bod H ow i i (.ref a) (.ref a)).io b → H3 b = some o := fun b o e n => S3.old b o n e
  have p3i : s3[i]? = some (some (.ref a)) := S3.pin (i, .ref a) (List.mem_cons_of_mem _ List.mem_cons_self)
  refine ⟨by simpa using S3.len, fun i' d y => ?_, fun n d w y => ?_, fun b o n y => ?_, fun b l y => ?_, fun b y => ?_, fun b l y => ?_, fun p hp => S3.pin p (List.mem_cons_of_mem _ (List.mem_cons_of_mem _ hp))⟩
  · by_cases hi : i' = i
    · subst hi
      have hlt : i' < r3.length := by
        have := (List.getElem?_eq_some_iff.mp y).1
        simpa using this
      rw [List.getElem?_set_self hlt] at y
      cases y
      exact ⟨_, p3i, trivial⟩
    · rw [List.getElem?_set_ne (Ne.symm hi)] at y
      obtain ⟨w, y1, y2⟩ := S3.sl i' d y
      refine ⟨w, y1, y2.mono d (fun _ _ z _ => z) (fun _ _ z _ => z) (fun _ _ _ z => unl0_none z) fun b o p _ z => ?_⟩
      exact unl0_sl z hi
  · exact Rep.mono (l := ⟨.tm n, []⟩) d (fun _ _ z _ => z) (fun _ _ z _ => z) (fun _ _ _ z => unl0_none z) (fun b o p _ z => unl0_tm (p := [] ++ p) z) (S3.tm n d w y)
  · refine keep b o (S.old b o n y) ?_
    rintro ⟨l, x1, x2, _⟩
    rcases S.own b l x1 with z | z | z
    · exact x2 z
    · rw [z] at y; cases y
    · exact n z
  · have back : ∀ l0, ow b = some l0 → l0.b ≠ .fo → C.H0 b = none ∨ C.io b := fun l0 e n => (S.own b l0 e).resolve_left n
    rcases (unl0_of y).2 with ⟨l0, e, h | h⟩ | ⟨l3, e, h⟩
    · exact .inl h
    · exact .inr (back l0 e h)
    · refine .inr ?_
      rcases S3.own b l3 e with z | z | z
      · exact absurd z h
      · have z : H b = none := z
        cases e0 : C.H0 b with
        | none => exact .inl rfl
        | some o =>
          by_cases hi : C.io b
          · exact .inr hi
          · rw [S.old b o hi e0] at z; cases z
      · obtain ⟨l0, x1, x2, _⟩ := z
        exact back l0 x1 x2
  · have e3 := S3.fo b (.inl y)
    unfold unl0
    rw [e3, S.fo b y]
  · obtain ⟨⟨l3, e3⟩, _⟩ := unl0_of y
    exact S3.mu b l3 e3
def seqK : Kd → Bool
  | .lst => true
  | .tup => true
  | _ => false
theorem seqK_of {k : Kd} (h : seqK k = true) : k = .lst ∨ k = .tup := by
  cases k <;> first | exact .inl rfl | exact .inr rfl | cases h
theorem seqK_one {k : Kd} {a : Addr} {us vs : List V} (h : seqK k = true) (h1 : Holds G H a k us) (h2 : Holds G H a k vs) : us = vs := by
  rcases seqK_of h with e | e
  · subst e
    have h1 : H a = some (.lst us) := h1
    have h2 : H a = some (.lst vs) := h2
    rw [h1] at h2; cases h2; rfl
  · subst e
    have h1 : H a = some (.tup us) := h1
    have h2 : H a = some (.tup vs) := h2
    rw [h1] at h2; cases h2; rfl
theorem seqK_ix {K : PySem.W.Frag} {k : Kd} {a : Addr} {vs : List V} {i : Int} {w : V} {Q : VK} (h : seqK k = true) (h1 : Holds G H a k vs) (h2 : atI vs i = some w) (hq : Q w H) : L2.rIx K (.ref a) (.int i) H Q := by
  rcases seqK_of h with e | e
  · subst e
    exact .inl ⟨a, vs, i, w, rfl, rfl, SqL.of h1, h2, hq⟩
  · subst e
    exact .inr (.inl ⟨a, vs, i, w, rfl, rfl, SqT.of h1, h2, hq⟩)
def isSeq (r : Rho) (i : Nat) : Bool := match r[i]? with
  | some (some (.node k _ _)) => seqK k
  | _ => false
theorem isSeq_at {i : Nat} (h : isSeq r i = true) : ∃ k o ds, r[i]? = some (some (.node k o ds)) ∧ seqK k = true := by
  unfold isSeq at h
  split at h
  · rename_i k o ds e; exact ⟨k, o, ds, e, h⟩
  · cases h
/-- where x[k] lies -/
def spot (r : Rho) (i : Nat) (y : R) : Option (Kd × Bool × List D × Nat × D) := match y, r[i]? with
  | .val (.int kk), some (some (.node k o ds)) => if seqK k = true then (match ixN ds.length kk with
    | some m => (match ds[m]? with
      | some d => some (k, o, ds, m, d)
      | none => none)
    | none => none) else none
  | _, _ => none
theorem spot_of {i : Nat} {y : R} {k : Kd} {o : Bool} {ds : List D} {m : Nat} {d : D} (h : spot r i y = some (k, o, ds, m, d)) : ∃ kk, y = .val (.int kk) ∧ r[i]? = some (some (.node k o ds)) ∧ seqK k = true ∧ ixN ds.length kk = some m ∧ ds[m]? = some d := by
  unfold spot at h
  split at h
  · rename_i kk k' o' ds' e
    split at h
    · rename_i hk
      split at h
      · rename_i m' em
        split at h
        · rename_i d' ed
          cases h
          exact ⟨kk, rfl, e, hk, em, ed⟩
        · cases h
      · cases h
    · cases h
  · cases h
def cAppP (i : Nat) (fk fa : Ev) : Ev := fun r => if isSeq r i = true then (fk r).bd (fun y r1 => match spot r1 i y with
  | some (k, o, ds, m, .node .lst true acc) => (match cSet fa (r1.set i (some .any)) with
    | .ok (.val d) r2 => if acc.length < 16777216 then .ok (.val .non) (r2.set i (some (.node k o (ds.set m (.node .lst true (acc ++ [d])))))) else .bad
    | .exc c r2 => .exc c (r2.set i (some .any))
    | _ => .bad)
  | _ => .bad) else .bad
/-- x[k] in hand, the rest lent away -/
theorem spot_go {i : Nat} {y : R} {u : V} {k : Kd} {o : Bool} {ds : List D} {m : Nat} {d : D} (P : Post G C r T s H y u) (h : spot r i y = some (k, o, ds, m, d)) : ∃ kk a vs w ow2, u = .int kk ∧ s[i]? = some (some (.ref a)) ∧ Holds G H a k vs ∧ atI vs kk = some w ∧ vs[m]? = some w ∧
    StW G C ow2 (r.set i (some (.node k o (ds.set m .any)))) (T ++ [(d, w)]) s H ∧ StW G (C.bod H ow2 i i (.ref a) (.ref a)) (VL.rel (lendF i) ow2) (r.set i (some .any)) (T ++ [(d, w)]) s H := by
  obtain ⟨kk, ey, q, hk, em, ed⟩ := spot_of h
  subst ey
  obtain ⟨⟨ow, S⟩, _⟩ := P
  have eu : u = .int kk := StW.last S
  obtain ⟨a, vs, w, w1, hA, oA, hl, hv, rx, S2⟩ := (StW.drop S).lift q ed
  have hat : atI vs kk = some w := by
    unfold atI
    rw [hl, em]
    exact hv
  have S3 := S2.lend w1 w1
  rw [List.set_set] at S3
  exact ⟨kk, a, vs, w, _, eu, w1, hA, hat, hv, S2, S3⟩
theorem ve_appP {i : Nat} {x : Str} {e ek : Expr} {p ps apos cpos : Pos} (hN : X.N[i]? = some x) (hv : Vis X.env.scope x) (hd : (x == ("__debug__" : Str)) = false) (hcd : (x == ("__classdict__" : Str)) = false) (hk : VE X G C W ek fk) (hs1 : PlainIx ek)
    (ha : ∀ C' : Fc, (∃ u v, C'.pin = (i, v) :: (i, u) :: C.pin) → VE X G C' W e fa)
    (hbase : attributeBase (.Subscript (.Name x p) ek ps) "append" X.env (eval (.Subscript (.Name x p) ek ps) X.env) = eval (.Subscript (.Name x p) ek ps) X.env := by rfl)
    (hfew : ((backTo cpos (starEach [e] X.env)).all (fun x => !x.1) && (backToKw cpos (keywordEach [] X.env)).all (fun x => x.1.isSome)
      && decide ([e].length + ([] : List Keyword).length + (if ([] : List Keyword).isEmpty then 0 else 1) < 30)) = true := by rfl)
    (hline : (apos.endLine == cpos.line) = true := by rfl) (hs : starEach [e] X.env = (false, eval e X.env) :: starEach [] X.env := by rfl) (hplain : (backTo cpos (starEach [] X.env)).any (·.1) = false := by rfl) :
    VE X G C W (.Call (.Attribute (.Subscript (.Name x p) ek ps) "append" apos) [e] [] cpos) (cAppP i fk fa) := by
  have he : PE X e (fun s H Q => ∃ C' : Fc, (∃ u v, C'.pin = (i, v) :: (i, u) :: C.pin) ∧ tV G C' W (cSet fa) s H Q) := ⟨fun pins s σ H Q I w => by
    obtain ⟨C', e', w⟩ := w
    exact (ve_set (ha C' e')).run pins s σ H Q I w⟩
  refine PE.imp (pe_bm PySem.F.plainAttrs_list PySem.F.slot_list_append PySem.F.type_list_append mt_append (pe_ix ix_seq (pe_var hN hv hd hcd) hk hs1) (pa_cons he pa_nil hs) hbase hfew hline hs hplain) fun s H Q h => ?_
  obtain ⟨r, T, S, g⟩ := h
  have g : Goes G C W T s Q (cAppP i fk fa r) := g
  unfold cAppP at g
  split at g
  · rename_i hi
    obtain ⟨k0, o0, ds0, hr, _⟩ := isSeq_at hi
    obtain ⟨ow, S0⟩ := S
    obtain ⟨v, v1, a0, vs0, ev, v2, v3, v4⟩ := S0.sl i _ hr
    subst ev
    refine ⟨_, v1, ?_⟩
    refine one (fa := fk) ⟨ow, S0⟩ g fun y u r1 H1 P g1 => ?_
    cases es : spot r1 i y with
    | none => simp only [es] at g1; exact g1.elim
    | some z =>
      obtain ⟨k, o, ds, m, d⟩ := z
      obtain ⟨kk, a, vs, w, ow2, eu, w1, hA, hat, hvm, S2, S3⟩ := spot_go P es
      obtain ⟨_, _, _, hk, _, hdm⟩ := spot_of es
      rw [v1] at w1
      cases w1
      subst eu
      refine seqK_ix hk hA hat ?_
      simp only [es] at g1
      split at g1
      · rename_i k' o' ds' m' acc ee
        cases ee
        obtain ⟨b, ws, eb, hB, oB, _⟩ := StW.last S2
        subst eb
        have hB : H1 b = some (.lst ws) := hB
        refine ⟨.inl ⟨rfl, ws, SqL.of hB⟩, ?_⟩
        refine ⟨_, ⟨_, _, rfl⟩, r1.set i (some .any), _, ⟨_, S3⟩, ?_⟩
        have hil : i < r1.length := by
          have := S2.len
          have h2 := (List.getElem?_eq_some_iff.mp v1).1
          simp at this; omega
        have q2 : (r1.set i (some (.node k o (ds.set m .any))))[i]? = some (some (.node k o (ds.set m .any))) := List.getElem?_set_self hil
        have hkr : k ≠ .rd := by rcases seqK_of hk with e | e <;> (rw [e]; exact fun z => nomatch z)
        cases e3 : cSet fa (r1.set i (some .any)) with
        | bad => simp only [e3] at g1; exact g1.elim
        | exc c r2 =>
          simp only [e3] at g1
          intro H4 S4
          obtain ⟨ow4, S4⟩ := S4
          exact g1 H4 (StOk.drop ⟨_, S2.unlendA S4⟩)
        | ok x r2 =>
          simp only [e3] at g1
          cases x with
          | loc l => exact g1.elim
          | val dv =>
            simp only at g1
            split at g1
            · rename_i hz
              intro v' H4 P4
              obtain ⟨⟨ow4, S4⟩, _⟩ := P4
              obtain ⟨S5, hA5, s5⟩ := S2.unlend0 q2 hkr v1 hA (fun us h => seqK_one hk h hA) S4
              have S5 : StW G C (unl0 ow2 ow4 i) (r2.set i (some (.node k o (ds.set m .any)))) (T ++ [(.node .lst true acc, .ref b), (dv, v')]) s H4 := by simpa [pushR] using S5
              obtain ⟨ws2, h1, h2, S6⟩ := StW.appT S5
              refine ⟨b, ws2, v', rfl, rfl, h1, by rw [h2, sizeLine_eq]; exact hz, ?_⟩
              have hil2 : i < r2.length := by
                have := S5.len
                have h2 := (List.getElem?_eq_some_iff.mp v1).1
                simp at this; omega
              have hne : a0 ≠ b := fun z => by
                subst z
                have o5 := S5.tm T.length (.node .lst true acc) (.ref a0) (by simp)
                obtain ⟨_, _, e5, _, o6, _⟩ := o5
                cases e5
                have o6 := o6.cases.resolve_left (fun z => nomatch z)
                obtain ⟨_, y1, a7, _, e7, _, o7, _⟩ := S5.sl i _ (List.getElem?_set_self hil2)
                rw [s5] at y1
                cases y1
                cases e7
                have o7 := o7.cases.resolve_left hkr
                rw [o6] at o7
                cases o <;> cases o7
              have hA6 : Holds G (upd H4 b (.lst (ws2 ++ [v']))) a0 k vs := hA5.keep fun o z => by rw [upd_ne hne]; exact z
              have S7 := S6.giveBack (List.getElem?_set_self hil2) s5 hkr hA6 hvm (fun us h => seqK_one hk h hA6)
              rw [List.set_set, List.set_set] at S7
              exact g1 _ _ ⟨StOk.pushN ⟨_, S7⟩, trivial⟩
            · exact g1.elim
      · exact g1.elim
  · exact g.elim
/-! ### f(x[k], ..) -/
def callKP (i n : Nat) (F : D → List D → MO) (fs : Av) (y : R) (r1 : Rho) : EO := match spot r1 i y with
  | some (k, o, ds, m, d0) => (match fs (r1.set i (some .any)) with
    | .ok xs r2 => if xs.length = n then (match valsR xs with
      | some as => (match F d0 (frzs as) with
        | .ok d d0' => .ok (.val d) (r2.set i (some (.node k o (ds.set m d0'))))
        | .bad => .bad)
      | none => .bad) else .bad
    | .exc c r2 => .exc c (r2.set i (some .any))
    | .bad => .bad)
  | none => .bad
def cCallP (i n : Nat) (F : D → List D → MO) (fk : Ev) (fs : Av) : Ev := fun r => if isSeq r i = true then (fk r).bd (callKP i n F fs) else .bad
theorem ve_callP {i n k : Nat} {F : D → List D → MO} {f : Addr} {fd : FuncData} {ps : List Str} {x y : Str} {p py psub pos : Pos} {ek : Expr} {es : List Expr} (tk : Takes X W) (Fk : FnOk X.prog X.w X.K X.mg X.base (L2.CX X.prog X.w) k f fd ps (spQ G 0 n F)) (hr : Room k X.A) (hg : Gl X x) (hm : X.mg x = some (.ref f))
    (hk : PySem.W.keepIn X.K (.ref f) = true) (hb : Binds X.K fd ps []) (hN : X.N[i]? = some y) (hv : Vis X.env.scope y) (hd : (y == ("__debug__" : Str)) = false) (hcd : (y == ("__classdict__" : Str)) = false) (hek : VE X G C W ek fk) (hs1 : PlainIx ek)
    (ha : ∀ C' : Fc, (∃ u v, C'.pin = (i, v) :: (i, u) :: C.pin) → VA X G C' W es fs) (hdb : (x == ("__debug__" : Str)) = false := by decide) (he : starEach (.Subscript (.Name y py) ek psub :: es) X.env = (false, eval (.Subscript (.Name y py) ek psub) X.env) :: starEach es X.env := by rfl) (hpl : (backTo pos (starEach es X.env)).any (·.1) = false := by rfl) :
    VE X G C W (.Call (.Name x p) (.Subscript (.Name y py) ek psub :: es) [] pos) (cCallP i n F fk fs) := by
  have hA : PA X es (fun s H Q => ∃ C' : Fc, (∃ u v, C'.pin = (i, v) :: (i, u) :: C.pin) ∧ tVA G C' W fs s H Q) := ⟨fun pos pins s σ H Q I w => by
    obtain ⟨C', e', w⟩ := w
    exact (ha C' e').run pos pins s σ H Q I w⟩
  refine PE.imp (pe_callS Fk hr hg hm hk hb (fun σ => passAt tk σ) (pa_cons (pe_ix ix_seq (pe_var hN hv hd hcd) hek hs1) hA he) hdb he hpl) fun s H Q h => ?_
  obtain ⟨r, T, S, g⟩ := h
  have g : Goes G C W T s Q (cCallP i n F fk fs r) := g
  unfold cCallP at g
  split at g
  · rename_i hi
    obtain ⟨k0, o0, ds0, hr, _⟩ := isSeq_at hi
    obtain ⟨ow, S0⟩ := S
    obtain ⟨v, v1, a0, vs0, ev, v2, v3, v4⟩ := S0.sl i _ hr
    subst ev
    refine ⟨_, v1, ?_⟩
    refine one (fa := fk) ⟨ow, S0⟩ g fun y u r1 H1 P g1 => ?_
    unfold callKP at g1
    cases es : spot r1 i y with
    | none => simp only [es] at g1; exact g1.elim
    | some z =>
      obtain ⟨k, o, ds, m, d0⟩ := z
      obtain ⟨kk, a, vs, w, ow2, eu, w1, hA, hat, hvm, S2, S3⟩ := spot_go P es
      obtain ⟨_, _, _, hk, _, hdm⟩ := spot_of es
      rw [v1] at w1
      cases w1
      subst eu
      refine seqK_ix hk hA hat ?_
      simp only [es] at g1
      have hil : i < r1.length := by
        have := S2.len
        have h2 := (List.getElem?_eq_some_iff.mp v1).1
        simp at this; omega
      have q2 : (r1.set i (some (.node k o (ds.set m .any))))[i]? = some (some (.node k o (ds.set m .any))) := List.getElem?_set_self hil
      have hkr : k ≠ .rd := by rcases seqK_of hk with e | e <;> (rw [e]; exact fun z => nomatch z)
      refine ⟨_, ⟨_, _, rfl⟩, r1.set i (some .any), _, ⟨_, S3⟩, ?_⟩
      cases e3 : fs (r1.set i (some .any)) with
      | bad => simp only [e3] at g1; exact g1.elim
      | exc c r2 =>
        simp only [e3] at g1
        intro H4 S4
        obtain ⟨ow4, S4⟩ := S4
        exact g1 H4 (StOk.drop ⟨_, S2.unlendA S4⟩)
      | ok xs r2 =>
        simp only [e3] at g1
        split at g1
        · rename_i hn
          cases ex : valsR xs with
          | none => simp only [ex] at g1; exact g1.elim
          | some as =>
            simp only [ex] at g1
            intro us H4 S4 l4
            obtain ⟨ow4, S4⟩ := S4
            obtain ⟨S5, hA5, s5⟩ := S2.unlend0 q2 hkr v1 hA (fun us h => seqK_one hk h hA) S4
            have hil2 : i < r2.length := by
              have := S5.len
              have h2 := (List.getElem?_eq_some_iff.mp v1).1
              simp at this; omega
            obtain ⟨g1', g2', g3'⟩ := valsR_frz (r := r2.set i (some (.node k o (ds.set m .any)))) ex
            obtain ⟨ow6, S6, r1', r2', r3'⟩ := StW.settles S5 l4 g1'
            rw [g2'] at S6
            refine tempQ (ds := frzs as) (us1 := []) S6 rfl (by rw [frzs_length, g3', hn]) (frzs_frzs _) (r1' ⟨.fo, []⟩ 0) ?_
            cases e4 : F d0 (frzs as) with
            | bad => simp only [e4] at g1; exact g1.elim
            | ok d d0' =>
              simp only [e4] at g1
              intro v' H5 S7 kept
              have S7 : StOk G C (r2.set i (some (.node k o (ds.set m .any)))) (T ++ ([(d0', w)] ++ [(d, v')])) s H5 := by simpa using S7
              obtain ⟨ow7, S7⟩ := S7.swap
              have S7 : StW G C ow7 (r2.set i (some (.node k o (ds.set m .any)))) ((T ++ [(d, v')]) ++ [(d0', w)]) s H5 := by simpa using S7
              have hA6 : Holds G H5 a0 k vs := by
                refine hA5.keep fun ob z => kept a0 ob z fun p z2 => ?_
                obtain ⟨_, y1, a7, _, e7, _, o7, _⟩ := S6.sl i _ (List.getElem?_set_self hil2)
                rw [s5] at y1
                cases y1
                cases e7
                have o7 := o7.cases.resolve_left hkr
                rw [z2] at o7
                cases o <;> cases o7
              have S8 := S7.giveBack (List.getElem?_set_self hil2) s5 hkr hA6 hvm (fun us h => seqK_one hk h hA6)
              rw [List.set_set, List.set_set] at S8
              exact g1 _ _ ⟨⟨_, S8⟩, trivial⟩
        · exact g1.elim
  · exact g.elim
end
/-! ### values -/
theorem appP_ok {fk fa : Ev} {i m : Nat} {kk : Int} {k : Kd} {o : Bool} {r r1 r2 : Rho} {ds acc : List D} {d : D} (h0 : isSeq r i = true) (hk : fk r = .ok (.val (.int kk)) r1) (h1 : r1[i]? = some (some (.node k o ds))) (hs : seqK k = true) (hm : ixN ds.length kk = some m) (hd : ds[m]? = some (.node .lst true acc))
    (ha : fa (r1.set i (some .any)) = .ok (.val d) r2) (hl : acc.length < 16777216) : cExpr (cAppP i fk fa) r = .nx (r2.set i (some (.node k o (ds.set m (.node .lst true (acc ++ [d])))))) := by
  have sp : spot r1 i (.val (.int kk)) = some (k, o, ds, m, .node .lst true acc) := by
    unfold spot
    simp only [h1, hs, hm, hd, if_true]
  have e : cSet fa (r1.set i (some .any)) = .ok (.val d) r2 := by rw [q_set, ha, bd_ok]
  rw [q_expr]
  show (if isSeq r i = true then (fk r).bd _ else EO.bad).st _ = _
  rw [if_pos h0, hk, bd_ok]
  simp only [sp, e, if_pos hl]
  rfl
theorem callP_ok {fk : Ev} {fs : Av} {F : D → List D → MO} {i m n : Nat} {kk : Int} {k : Kd} {o : Bool} {r r1 r2 : Rho} {ds as : List D} {xs : List R} {d d0 d0' : D} (h0 : isSeq r i = true) (hk : fk r = .ok (.val (.int kk)) r1) (h1 : r1[i]? = some (some (.node k o ds))) (hs : seqK k = true) (hm : ixN ds.length kk = some m) (hd : ds[m]? = some d0)
    (ha : fs (r1.set i (some .any)) = .ok xs r2) (hn : xs.length = n) (hx : valsR xs = some as) (hF : F d0 (frzs as) = .ok d d0') : cCallP i n F fk fs r = .ok (.val d) (r2.set i (some (.node k o (ds.set m d0')))) := by
  have sp : spot r1 i (.val (.int kk)) = some (k, o, ds, m, d0) := by
    unfold spot
    simp only [h1, hs, hm, hd, if_true]
  unfold cCallP
  rw [if_pos h0, hk, bd_ok]
  unfold callKP
  simp only [sp, ha, if_pos hn, hx, hF]
theorem callQ_loc {q n i : Nat} {F : D → List D → MO} {fs : Av} {r r1 : Rho} {xs rest : List R} {ds1 ds2 : List D} {d d0 d0' : D} (h : fs r = .ok xs r1) (hn : xs.length = n + 1) (hd : xs.drop q = .loc i :: rest) (h1 : valsR (xs.take q) = some ds1) (h2 : valsR rest = some ds2) (h3 : r1[i]? = some (some d0)) (hF : F d0 (frzs (ds1 ++ ds2)) = .ok d d0') : cCallQ q n F fs r = .ok (.val d) (r1.set i (some d0')) := by
  unfold cCallQ
  rw [h]
  show callKQ q n F xs r1 = _
  unfold callKQ
  simp only [if_pos hn, hd, h1, h2, h3, hF]
theorem callQ_val {q n : Nat} {F : D → List D → MO} {fs : Av} {r r1 : Rho} {xs rest : List R} {ds1 ds2 : List D} {d d0 d0' : D} (h : fs r = .ok xs r1) (hn : xs.length = n + 1) (hd : xs.drop q = .val d0 :: rest) (h1 : valsR (xs.take q) = some ds1) (h2 : valsR rest = some ds2) (hF : F d0 (frzs (ds1 ++ ds2)) = .ok d d0') : cCallQ q n F fs r = .ok (.val d) r1 := by
  unfold cCallQ
  rw [h]
  show callKQ q n F xs r1 = _
  unfold callKQ
  simp only [if_pos hn, hd, h1, h2, hF]
section
variable {P : Program} {w : World} {K : PySem.W.Frag} {mg : Str → Option Value} {base : Heap} {G : GX}
theorem fnQ2 {x qual : Str} {st : Stmt} {f : Addr} {fd : FuncData} {N ps : List Str} {k q n : Nat} {fb : Sv} (F : Fun K x qual st f fd) (S : FnScope N ps (defScope st)) (hps : ps.length = n + 1)
    (hbody : ∀ (cdv : Value) (A : Around) (outer : List Env) (s : Shared) (H : Hp) (E : XK) (C : Fc), Room k (A.deeper (envOfC qual (defScope st) s.heap.objs.size f cdv)) → (∀ p ∈ C.pin, p.1 = q) → VSs (cxOf (L2.CX P w) P w K mg base N qual (defScope st) f cdv A outer s H E) G C (fun cls d _ H => E cls d H) (defBody st) fb) :
    FnOk P w K mg base (L2.CX P w) (k + 1) f fd ps (spQ G q n (runQ q N.length fb)) := by
  refine F.okX S (fun vs H Q E h => (spQ_len h).trans hps.symm) (fun cdv A outer s H vs Q E hr h => ?_)
  obtain ⟨d0, ds, v0, us1, us2, ow0, ev, hq, h1, h2, h3, h4, h5, h6⟩ := h
  subst ev
  refine ⟨_, hbody cdv A outer s H E (fcQ H ow0 q v0) hr (fun p hp => by
    have e : p = (q, v0) := by simpa [fcQ] using hp
    rw [e]), ?_⟩
  refine ⟨startR N.length (putQ q d0 ds), [], ⟨_, startQ_ok (N := N) hq h5 h2 h3 h4⟩, ?_⟩
  have fin : ∀ {d d0' : D} {v : V} {r : Rho} {T : List (D × V)} {s' : L2.St} {H' : Hp} {ow : Ow} {b : Bs}, StW G (fcQ H ow0 q v0) ow r T s' H' → r[q]? = some (some d0') → b ≠ .fo → b ≠ .sl q → Rep G ow H' d ⟨b, []⟩ v →
      (∀ v H' (ow1 : Ow) (b : Bs), (∀ a o, (∀ p, ow0 a ≠ some ⟨.sl q, p⟩) → H a = some o → H' a = some o) → b ≠ .fo → b ≠ .sl q → Rep G ow1 H' d ⟨b, []⟩ v → Rep G ow1 H' d0' ⟨.sl q, []⟩ v0 →
      (∀ a l, ow1 a = some l → l.b ≠ .fo → H a = none ∨ ∃ p, ow0 a = some ⟨.sl q, p⟩) → (∀ a, ow0 a = some ⟨.fo, []⟩ → ow1 a = some ⟨.fo, []⟩) → (∀ a l, ow1 a = some l → OwnO (H' a)) → Q v H') → Q v H' :=
    fun {d d0' v r T s' H' ow b} S' h0 b1 b2 hr hq => by
      obtain ⟨v0', z1, z2⟩ := S'.sl q d0' h0
      have p0 := S'.pin (q, v0) (by simp [fcQ])
      have p0 : s'[q]? = some (some v0) := p0
      rw [p0] at z1
      cases z1
      exact hq v H' ow b (fun a o n y => S'.old a o (fun ⟨p, z⟩ => n p z) y) b1 b2 hr z2 (fun a l y n => (S'.own a l y).elim (fun z => absurd z n) id) (fun a y => S'.fo a y) S'.mu
  unfold runQ at h6
  cases e : fb (startR N.length (putQ q d0 ds)) with
  | nx r =>
    rw [e] at h6
    intro s' H' S'
    cases e2 : r[q]? with
    | none => simp only [e2] at h6
    | some o =>
      cases o with
      | none => simp only [e2] at h6
      | some d0' =>
        simp only [e2] at h6
        obtain ⟨ow, S'⟩ := S'
        exact fin (d := .non) (b := .tm 0) S' e2 (fun z => nomatch z) (fun z => nomatch z) rfl h6
  | rt x r =>
    rw [e] at h6
    intro s' v H' P'
    obtain ⟨⟨ow, S'⟩, l⟩ := P'
    cases x with
    | val d =>
      cases e2 : r[q]? with
      | none => simp only [e2] at h6
      | some o =>
        cases o with
        | none => simp only [e2] at h6
        | some d0' =>
          simp only [e2] at h6
          have z := opd_rep (x := .val d) (T := []) (T2 := []) (by simpa using S') l rfl
          exact fin (b := .tm 0) S' e2 (fun z => nomatch z) (fun z => nomatch z) z h6
    | loc i =>
      by_cases hi : i = q
      · simp only [hi, if_true] at h6
      · simp only [hi, if_false] at h6
        cases e3 : opd r (.loc i) with
        | none => simp only [e3] at h6
        | some d =>
          cases e2 : r[q]? with
          | none => simp only [e3, e2] at h6
          | some o =>
            cases o with
            | none => simp only [e3, e2] at h6
            | some d0' =>
              simp only [e3, e2] at h6
              have z := opd_rep (x := .loc i) (T := []) (T2 := []) (by simpa using S') l e3
              exact fin (b := .sl i) S' e2 (fun z => nomatch z) (fun z => hi (by injection z)) z h6
  | exc c r => rw [e] at h6; exact h6.elim
  | bk r => rw [e] at h6; exact h6.elim
  | ct r => rw [e] at h6; exact h6.elim
  | bad => rw [e] at h6; exact h6.elim
end
theorem pinQ {C : Fc} {q : Nat} (h : ∀ p ∈ C.pin, p.1 = q) (i : Nat) (hi : i ≠ q) : ∀ p ∈ C.pin, p.1 ≠ i := fun p hp z => hi ((h p hp).symm.trans z).symm
theorem pinQo {C : Fc} {q : Nat} (h : ∀ p ∈ C.pin, p.1 = q) (l : List Nat) (hl : q ∉ l) : ∀ p ∈ C.pin, p.1 ∉ l := fun p hp z => hl (by rw [h p hp] at z; exact z)
end VL

namespace VL
open PySem PySem.Spec PyProof.Rows L2
/-! ### an expression that only reads: what is owned stays so -/
def Fc.reads (C : Fc) (H : Hp) : Fc := ⟨H, fun _ => False, C.fo, C.pin⟩
theorem pinP {C C' : Fc} {i : Nat} (h : ∀ p ∈ C.pin, p.1 ≠ i) (e : C'.pin = C.pin) : ∀ p ∈ C'.pin, p.1 ≠ i := by rw [e]; exact h
theorem pinPo {C C' : Fc} {l : List Nat} (h : ∀ p ∈ C.pin, p.1 ∉ l) (e : C'.pin = C.pin) : ∀ p ∈ C'.pin, p.1 ∉ l := by rw [e]; exact h
def frzR (r : Rho) : Rho := r.map fun o => o.map frz
def frzT (T : List (D × V)) : List (D × V) := T.map fun p => (frz p.1, p.2)
def onlyFo (ow : Ow) : Ow := fun a => match ow a with
  | some l => if l.b = .fo then some l else none
  | none => none
section
variable {X : Cx} {G : GX} {C : Fc} {W : WX} {ow ow' : Ow} {r : Rho} {T T1 T2 : List (D × V)} {s : L2.St} {H H' : Hp} {fa fb fc : Ev} {fs : Av} {f g : Sv}
theorem onlyFo_none {a : Addr} (h : ow a = none) : onlyFo ow a = none := by unfold onlyFo; rw [h]
theorem onlyFo_not {a : Addr} {l : Loc} (h : ow a = some l) (n : l.b ≠ .fo) : onlyFo ow a = none := by unfold onlyFo; rw [h]; exact if_neg n
theorem onlyFo_fo {a : Addr} {l : Loc} (h : ow a = some l) (n : l.b = .fo) : onlyFo ow a = some l := by unfold onlyFo; rw [h]; exact if_pos n
theorem onlyFo_of {a : Addr} {l : Loc} (h : onlyFo ow a = some l) : ow a = some l ∧ l.b = .fo := by
  unfold onlyFo at h
  cases e : ow a with
  | none => rw [e] at h; cases h
  | some m =>
    rw [e] at h
    by_cases n : m.b = .fo
    · have h : (if m.b = .fo then some m else none) = some l := h
      rw [if_pos n] at h; cases h; exact ⟨rfl, n⟩
    · have h : (if m.b = .fo then some m else none) = some l := h
      rw [if_neg n] at h; cases h
theorem StW.reads (S : StW G C ow r T s H) : StW G (C.reads H) (onlyFo ow) (frzR r) (frzT T) s H where
  len := by simpa [frzR] using S.len
  sl := fun i d q => by
    unfold frzR at q
    rw [List.getElem?_map] at q
    cases e : r[i]? with
    | none => rw [e] at q; cases q
    | some o =>
      rw [e] at q
      cases o with
      | none => cases q
      | some d0 =>
        cases q
        obtain ⟨v, y1, y2⟩ := S.sl i d0 e
        refine ⟨v, y1, Rep.frz (l := ⟨.sl i, []⟩) d0 (fun a o z q => ⟨z, ?_⟩) (fun _ _ z _ => z) y2⟩
        rcases q with q | ⟨p, q⟩
        · exact onlyFo_none q
        · exact onlyFo_not q (fun z => nomatch z)
  tm := fun j d v q => by
    unfold frzT at q
    rw [List.getElem?_map] at q
    cases e : T[j]? with
    | none => rw [e] at q; cases q
    | some p =>
      rw [e] at q
      obtain ⟨d0, v0⟩ := p
      cases q
      refine Rep.frz (l := ⟨.tm j, []⟩) d0 (fun a o z q => ⟨z, ?_⟩) (fun _ _ z _ => z) (S.tm j d0 _ e)
      rcases q with q | ⟨p, q⟩
      · exact onlyFo_none q
      · exact onlyFo_not q (fun z => nomatch z)
  old := fun a o _ z => z
  own := fun a l q => .inl (onlyFo_of q).2
  fo := fun a q => onlyFo_fo (S.fo a q) rfl
  mu := fun a l q => S.mu a l (onlyFo_of q).1
  pin := S.pin
def cPure (fa : Ev) : Ev := fun r => match fa (frzR r) with
  | .ok (.val d) _ => if noL d = true then .ok (.val d) r else .bad
  | .exc c _ => .exc c r
  | _ => .bad
theorem pure_go {Q : VK} (h : tV G C W (cPure fa) s H Q) : ∃ C' : Fc, C'.pin = C.pin ∧ tV G C' W fa s H Q := by
  obtain ⟨r, T, ⟨ow, S⟩, g⟩ := h
  refine ⟨C.reads H, rfl, frzR r, frzT T, ⟨_, S.reads⟩, ?_⟩
  have g : Goes G C W T s Q (cPure fa r) := g
  unfold cPure at g
  cases e : fa (frzR r) with
  | bad => simp only [e] at g; exact g.elim
  | exc c r1 =>
    simp only [e] at g
    intro H1 S1
    obtain ⟨ow1, S1⟩ := S1
    have hx : Ext H H1 := fun a o z => S1.old a o (fun z => z) z
    exact g H1 ⟨ow, S.ext hx⟩
  | ok x r1 =>
    simp only [e] at g
    cases x with
    | loc i => exact g.elim
    | val d =>
      simp only at g
      split at g
      · rename_i hno
        intro v H1 P1
        obtain ⟨⟨ow1, S1⟩, _⟩ := P1
        have hx : Ext H H1 := fun a o z => S1.old a o (fun z => z) z
        have lt : (frzT T).length = T.length := by simp [frzT]
        have hd : Rep G ow1 H1 d ⟨.tm (frzT T).length, []⟩ v := S1.last
        rw [lt] at hd
        have hr : Rep G (VL.aft H ow ow1 T.length) H1 d ⟨.tm T.length, []⟩ v := Rep.aft (l := ⟨.tm T.length, []⟩) d (fun a k vs _ z y q nz => by
          rcases y with y | y
          · cases k with
            | tup =>
              cases y2 : ow a with
              | none => rfl
              | some m =>
                have mu := S.mu a m y2
                cases z2 : H a with
                | none => exact absurd z2 nz
                | some u =>
                  have z3 := hx a u z2
                  rw [show H1 a = some (.tup vs) from z] at z3
                  cases z3
                  rw [z2] at mu
                  exact mu.elim
            | _ => cases y
          · rw [hno] at y; cases y) (fun a m q n => by
            rcases S1.own a m q with z | z | z
            · exact absurd z n
            · exact z
            · exact z.elim) (fun z => nomatch z) rfl rfl hd
        exact g v H1 ⟨⟨_, S.aft hx S1.mu hr⟩, trivial⟩
      · exact g.elim
theorem ve_pure {e : Expr} (h : ∀ C' : Fc, C'.pin = C.pin → VE X G C' W e fa) : VE X G C W e (cPure fa) := ⟨fun pins s σ H Q I w => by
  obtain ⟨C', e', w⟩ := pure_go w
  exact (h C' e').run pins s σ H Q I w⟩
theorem pure_goT {Q : Bool → Hp → Prop} (h : tVT G C W (cPure fa) s H Q) : ∃ C' : Fc, C'.pin = C.pin ∧ tVT G C' W fa s H Q := by
  obtain ⟨r, T, ⟨ow, S⟩, g⟩ := h
  refine ⟨C.reads H, rfl, frzR r, frzT T, ⟨_, S.reads⟩, ?_⟩
  unfold cPure at g
  cases e : fa (frzR r) with
  | bad => simp only [e] at g
  | exc c r1 =>
    simp only [e] at g
    intro H1 S1
    obtain ⟨ow1, S1⟩ := S1
    exact g H1 ⟨ow, S.ext fun a o z => S1.old a o (fun z => z) z⟩
  | ok x r1 =>
    simp only [e] at g
    cases x with
    | loc i => exact g.elim
    | val d =>
      simp only at g
      by_cases hno : noL d = true
      · rw [if_pos hno] at g
        cases d with
        | bl b =>
          intro H1 S1
          obtain ⟨ow1, S1⟩ := S1
          exact g H1 ⟨ow, S.ext fun a o z => S1.old a o (fun z => z) z⟩
        | _ => exact g.elim
      · rw [if_neg hno] at g
        exact g.elim
theorem vt_pure {e : Expr} (h : ∀ C' : Fc, C'.pin = C.pin → VT X G C' W e fa) : VT X G C W e (cPure fa) := ⟨fun pins s σ H Q I w => by
  obtain ⟨C', e', w⟩ := pure_goT w
  exact (h C' e').run pins s σ H Q I w⟩
theorem ps_setLcR {i : Nat} {y : Str} {py : Pos} {elt tg iter : Expr} {ifs : List Expr} {scope : Scope} {own : List (Str × Nat)} {pos spos : Pos} {fi : Iv} {t : Tg} {ft : Option Ev} {fe : Ev} (hc : X.calm = true) (hN : X.N.Nodup) (hy : X.N[i]? = some y) (hyl : X.env.scope.names.lookup y = some .local)
    (hsw : swapsWith (.ListComp elt [⟨tg, iter, ifs, 0⟩] scope pos) (some (.Name y py)) spos.line X.env = pure true) (hi : VI X G C W tg iter fi) (ok : BlkOk X.N X.env.scope scope own)
    (hpin : ∀ p ∈ C.pin, p.1 ∉ own.map (·.2)) (hts : ∀ i ∈ t.slots, i ∈ own.map (·.2))
    (hg : ∀ (s : Shared) (H : Hp) (ca : Addr) (cl : List (Str × Addr)) (fp : List Addr), VG (X.blk s H scope (compEnvC scope cl ca X.env) fp) G C tg t) (ht : ∀ (s : Shared) (H : Hp) (ca : Addr) (cl : List (Str × Addr)) (fp : List Addr), VTs (X.blk s H scope (compEnvC scope cl ca X.env) fp) G C W0 ifs ft)
    (he : ∀ (s : Shared) (H : Hp) (ca : Addr) (cl : List (Str × Addr)) (fp : List Addr), VE (X.blk s H scope (compEnvC scope cl ca X.env) fp) G C W0 elt fe) (hs : ∀ x, foldedSetIterable iter X.env x = pure x := by intro _; rfl) :
    PS X (.Assign [.Name y py] (.ListComp elt [⟨tg, iter, ifs, 0⟩] scope pos) spos) (fun D s H => tV G C W (cLc (own.map (·.2)) t fi ft fe) s H fun x H1 => gName i x s H1 D.nx) :=
  PS.imp (ps_setLc hc hN hy hyl hsw hi ok hg ht (fun s H ca cl fp => ve_set (he s H ca cl fp)) hs) fun D s H h => lc_go hpin hts h
/-- a list of things read, put under a name -/
theorem vs_setLcP {i : Nat} {st : Stmt} (hp : ∀ p ∈ C.pin, p.1 ≠ i) (h : ∀ C' : Fc, C'.pin = C.pin → PS X st (fun D s H => tV G C' W fa s H fun x H1 => gName i x s H1 D.nx)) : VS X G C W st (cAsg (.nm i) (cPure fa)) := ⟨fun pins s σ H E I w => by
  obtain ⟨r, T, S, g⟩ := w
  have z : tV G C W (cPure fa) σ H fun x H1 => gName i x σ H1 E.nx := by
    refine ⟨r, T, S, ?_⟩
    have g : GoesS G C W T E (cAsg (.nm i) (cPure fa) r) := g
    unfold cAsg cSet at g
    cases e : cPure fa r with
    | bad => rw [e] at g; exact g.elim
    | exc c r1 => rw [e] at g; exact fun H1 S1 => g σ H1 S1
    | ok x r1 =>
      rw [e] at g
      cases x with
      | loc j =>
        unfold cPure at e
        split at e
        · split at e <;> cases e
        · cases e
        · cases e
      | val d => exact fun v H1 P => g _ _ (P.1.set hp)
  obtain ⟨C', e', z⟩ := pure_go z
  exact (h C' e').run pins s σ H E I z⟩
end
theorem pure_ok {fa : Ev} {r r1 : Rho} {d : D} (h : fa (frzR r) = .ok (.val d) r1) (hn : noL d = true) : cPure fa r = .ok (.val d) r := by
  unfold cPure
  rw [h]
  exact if_pos hn
/-! ### a name's thing handed on for good -/
def cTake (i : Nat) : Ev := fun r => match r[i]? with
  | some (some d) => .ok (.val d) (r.set i (some .any))
  | _ => .bad
section
variable {X : Cx} {G : GX} {C : Fc} {W : WX}
theorem ve_take {i : Nat} {x : Str} {pos : Pos} (hN : X.N[i]? = some x) (hv : Vis X.env.scope x) (hd : (x == ("__debug__" : Str)) = false := by decide) (hcd : (x == ("__classdict__" : Str)) = false := by decide) : VE X G C W (.Name x pos) (cTake i) := by
  refine PE.imp (pe_var hN hv hd hcd) fun s H Q h => ?_
  obtain ⟨r, T, ⟨ow, S⟩, g⟩ := h
  have g : Goes G C W T s Q (cTake i r) := g
  unfold cTake at g
  split at g
  · rename_i d e
    obtain ⟨v, z1, S2⟩ := S.pull e
    exact ⟨v, z1, g v H ⟨⟨_, S2⟩, trivial⟩⟩
  · exact g.elim
end
theorem take_at {r : Rho} {i : Nat} {d : D} (h : r[i]? = some (some d)) : cTake i r = .ok (.val d) (r.set i (some .any)) := by
  unfold cTake
  rw [h]
end VL

namespace VL
open PySem PySem.Spec PyProof.Rows L2
/-! ### xs.pop(k) of whole numbers -/
def popIK (i : Nat) (x : R) (r1 : Rho) : EO := match opd r1 x, r1[i]? with
  | some (.int k), some (some (.node .lst true ds)) => (match intsOf ds with
    | some ns => (match ixN ns.length k with
      | some j => (match ns[j]? with
        | some y => if -(2 ^ 63) ≤ k ∧ k < 2 ^ 63 then .ok (.val (.int y)) ((r1.set i (some (.node .lst true (frzs ds)))).set i (some (.node .lst true ((ns.eraseIdx j).map .int)))) else .bad
        | none => .bad)
      | none => .bad)
    | none => .bad)
  | _, _ => .bad
def cPopI (i : Nat) (fa : Ev) : Ev := fun r => if isLst r i = true then (fa r).bd (popIK i) else .bad
section
variable {X : Cx} {G : GX} {C : Fc} {W : WX} {fa : Ev}
theorem erase_map {α β : Type} (f : α → β) : ∀ (xs : List α) (j : Nat), (xs.map f).eraseIdx j = (xs.eraseIdx j).map f
  | [], _ => rfl
  | _ :: _, 0 => rfl
  | x :: xs, j + 1 => by
    show f x :: (xs.map f).eraseIdx j = f x :: (xs.eraseIdx j).map f
    rw [erase_map f xs j]
theorem ve_popI {i : Nat} {x : Str} {e : Expr} {p apos cpos : Pos} (hN : X.N[i]? = some x) (hv : Vis X.env.scope x) (hd : (x == ("__debug__" : Str)) = false) (hcd : (x == ("__classdict__" : Str)) = false) (ha : VE X G C W e fa)
    (hbase : attributeBase (.Name x p) "pop" X.env (eval (.Name x p) X.env) = eval (.Name x p) X.env := by rfl)
    (hfew : ((backTo cpos (starEach [e] X.env)).all (fun x => !x.1) && (backToKw cpos (keywordEach [] X.env)).all (fun x => x.1.isSome)
      && decide ([e].length + ([] : List Keyword).length + (if ([] : List Keyword).isEmpty then 0 else 1) < 30)) = true := by rfl)
    (hline : (apos.endLine == cpos.line) = true := by rfl) (hs : starEach [e] X.env = (false, eval e X.env) :: starEach [] X.env := by rfl) (hplain : (backTo cpos (starEach [] X.env)).any (·.1) = false := by rfl) :
    VE X G C W (.Call (.Attribute (.Name x p) "pop" apos) [e] [] cpos) (cPopI i fa) := by
  refine PE.imp (pe_bm PySem.F.plainAttrs_list PySem.F.slot_list_pop PySem.F.type_list_pop mt_popAt (pe_var hN hv hd hcd) (pa_cons ha pa_nil hs) hbase hfew hline hs hplain) fun s H Q h => ?_
  obtain ⟨r, T, S, g⟩ := h
  have g : Goes G C W T s Q (cPopI i fa r) := g
  unfold cPopI at g
  split at g
  · rename_i hi
    obtain ⟨o, ds, hr⟩ := isLst_at hi
    obtain ⟨ow, S0⟩ := S
    obtain ⟨v, v1, a, vs, ev, v2, v3, v4⟩ := S0.sl i _ hr
    subst ev
    refine ⟨_, v1, .inl ⟨rfl, vs, SqL.of v2⟩, ?_⟩
    refine one (fa := fa) ⟨ow, S0⟩ g fun x v' r1 H1 P g1 => ?_
    unfold popIK at g1
    split at g1
    · rename_i k ds2 e1 q
      split at g1
      · rename_i ns e2
        split at g1
        · rename_i j hj
          split at g1
          · rename_i y hy
            split at g1
            · rename_i hk
              obtain ⟨ow1, S1⟩ := P.1
              have ek := rep_int (opd_rep (T2 := []) (by simpa using S1) P.2 e1)
              obtain ⟨ow3, a', vs', z1, hA, S3, q3, rx, hn3, oa⟩ := S1.drop.mine q
              rw [v1] at z1
              cases z1
              have ev := ints_rep (by rw [frzs_ints_of e2]; exact e2) (rx ⟨.fo, []⟩)
              obtain ⟨s1, s2, s3, s4⟩ := ixN_seq hj
              have S4 := S3.relist (o' := true) (ds' := (ns.eraseIdx j).map .int) (vs' := (ns.eraseIdx j).map V.int) (l := ⟨.fo, []⟩) (n := 0) q3 v1 (frzs_ints _) (reps_ints _ _ _)
              refine ⟨a, vs', k, j, V.int y, rfl, by rw [ek], hA, hk.1, hk.2, ?_, ?_, ?_⟩
              · rw [ev, List.length_map]; exact s1
              · rw [ev, List.getElem?_map, hy]; rfl
              · rw [ev, erase_map]
                exact g1 _ _ ⟨⟨_, StW.push S4 rfl⟩, trivial⟩
            · exact g1.elim
          · exact g1.elim
        · exact g1.elim
      · exact g1.elim
    · exact g1.elim
  · exact g.elim
end
/-! ### x[k] taken out of its list, for good -/
def cMoveIx (i : Nat) (fk : Ev) : Ev := fun r => if isSeq r i = true then (fk r).bd (fun y r1 => match spot r1 i y with
  | some (k, o, ds, m, d) => .ok (.val d) (r1.set i (some (.node k o (ds.set m .any))))
  | none => .bad) else .bad
section
variable {X : Cx} {G : GX} {C : Fc} {W : WX} {fk : Ev}
theorem ve_moveIx {i : Nat} {x : Str} {ek : Expr} {p ps : Pos} (hN : X.N[i]? = some x) (hv : Vis X.env.scope x) (hd : (x == ("__debug__" : Str)) = false) (hcd : (x == ("__classdict__" : Str)) = false) (hk : VE X G C W ek fk) (hs1 : PlainIx ek) :
    VE X G C W (.Subscript (.Name x p) ek ps) (cMoveIx i fk) := by
  refine PE.imp (pe_ix ix_seq (pe_var hN hv hd hcd) hk hs1) fun s H Q h => ?_
  obtain ⟨r, T, S, g⟩ := h
  have g : Goes G C W T s Q (cMoveIx i fk r) := g
  unfold cMoveIx at g
  split at g
  · rename_i hi
    obtain ⟨k0, o0, ds0, hr, _⟩ := isSeq_at hi
    obtain ⟨ow, S0⟩ := S
    obtain ⟨v, v1, a0, vs0, ev, v2, v3, v4⟩ := S0.sl i _ hr
    subst ev
    refine ⟨_, v1, ?_⟩
    refine one (fa := fk) ⟨ow, S0⟩ g fun y u r1 H1 P g1 => ?_
    cases es : spot r1 i y with
    | none => simp only [es] at g1; exact g1.elim
    | some z =>
      obtain ⟨k, o, ds, m, d⟩ := z
      obtain ⟨kk, a, vs, w, ow2, eu, w1, hA, hat, hvm, S2, S3⟩ := spot_go P es
      obtain ⟨_, _, _, hk, _, hdm⟩ := spot_of es
      rw [v1] at w1
      cases w1
      subst eu
      refine seqK_ix hk hA hat ?_
      simp only [es] at g1
      exact g1 _ _ ⟨⟨_, S2⟩, trivial⟩
  · exact g.elim
end
theorem moveIx_ok {fk : Ev} {i m : Nat} {kk : Int} {k : Kd} {o : Bool} {r r1 : Rho} {ds : List D} {d : D} (h0 : isSeq r i = true) (hk : fk r = .ok (.val (.int kk)) r1) (h1 : r1[i]? = some (some (.node k o ds))) (hs : seqK k = true) (hm : ixN ds.length kk = some m) (hd : ds[m]? = some d) : cMoveIx i fk r = .ok (.val d) (r1.set i (some (.node k o (ds.set m .any)))) := by
  have sp : spot r1 i (.val (.int kk)) = some (k, o, ds, m, d) := by
    unfold spot
    simp only [h1, hs, hm, hd, if_true]
  show (if isSeq r i = true then (fk r).bd _ else EO.bad) = _
  rw [if_pos h0, hk, bd_ok]
  simp only [sp]
theorem ixN_at {n j : Nat} (h : j < n) : ixN n (j : Int) = some j := by
  unfold ixN
  rw [if_pos (by omega), if_pos (by omega), Int.toNat_natCast]
theorem popI_ok {r r1 : Rho} {i v : Nat} {fa : Ev} {xs : List Int} {y : Int} (h0 : isLst r i = true) (h : fa r = .ok (.val (.int (v : Nat))) r1) (h1 : r1[i]? = some (some (.node .lst true (xs.map .int)))) (hv : xs[v]? = some y) (hs : v < 2 ^ 62) : cPopI i fa r = .ok (.val (.int y)) (r1.set i (some (.node .lst true ((xs.eraseIdx v).map .int)))) := by
  have hl : v < xs.length := (List.getElem?_eq_some_iff.mp hv).1
  unfold cPopI
  rw [if_pos h0, h, bd_ok]
  unfold popIK
  have e1 : opd r1 (.val (.int (v : Nat))) = some (.int (v : Nat)) := rfl
  simp only [e1, h1, intsOf_map, ixN_at hl, hv, frzs_ints]
  rw [if_pos ⟨by omega, by omega⟩, List.set_set]
/-! ### a comprehension with a test, over encoded things -/
theorem lcL_fl {α : Type} {enc g : α → D} {p : α → Bool} {t : Tg} {fc : Option Ev} {fe : Ev} {vs : List Nat} {r0 : Rho} : ∀ (xs : List α) (acc : List D), acc.length + xs.length < 16777216 →
    (∀ a ∈ xs, ∃ r1, tgt t (enc a) r0 = some r1 ∧ ∃ r2, tstR fc r1 = .ok (.val (.bl (p a))) r2 ∧ wipeR r2 vs = r0 ∧ (p a = true → ∃ r3, cSet fe r2 = .ok (.val (g a)) r3 ∧ wipeR r3 vs = r0)) → lcL t fc fe vs (xs.map enc) acc r0 = .ok (acc ++ (xs.filter p).map g) r0
  | [], acc, _, _ => by simp [lcL]
  | d :: ds, acc, hl, hs => by
    simp only [List.length_cons] at hl
    obtain ⟨r1, e1, r2, e2, e3, e4⟩ := hs d List.mem_cons_self
    rw [List.map_cons]
    unfold lcL
    rw [e1]
    show (match tstR fc r1 with | .ok (.val (.bl true)) r2 => (match cSet fe r2 with | .ok (.val e) r3 => if acc.length < 16777216 then lcL t fc fe vs (ds.map enc) (acc ++ [e]) (wipeR r3 vs) else .bad | _ => .bad) | .ok (.val (.bl false)) r2 => lcL t fc fe vs (ds.map enc) acc (wipeR r2 vs) | _ => LO.bad) = _
    rw [e2]
    cases hp : p d with
    | true =>
      obtain ⟨r3, e5, e6⟩ := e4 hp
      show (match cSet fe r2 with | .ok (.val e) r3 => if acc.length < 16777216 then lcL t fc fe vs (ds.map enc) (acc ++ [e]) (wipeR r3 vs) else .bad | _ => LO.bad) = _
      rw [e5]
      show (if acc.length < 16777216 then lcL t fc fe vs (ds.map enc) (acc ++ [g d]) (wipeR r3 vs) else LO.bad) = _
      rw [if_pos (by omega), e6, lcL_fl ds (acc ++ [g d]) (by rw [List.length_append, List.length_singleton]; omega) (fun x hx => hs x (List.mem_cons_of_mem _ hx)), List.filter_cons_of_pos (by rw [hp]), List.map_cons, List.append_assoc]
      rfl
    | false =>
      show lcL t fc fe vs (ds.map enc) acc (wipeR r2 vs) = _
      rw [e3, lcL_fl ds acc (by omega) (fun x hx => hs x (List.mem_cons_of_mem _ hx)), List.filter_cons_of_neg (by rw [hp]; decide)]
theorem lc_fl {α : Type} {enc g : α → D} {p : α → Bool} {fi : Iv} {t : Tg} {fc : Option Ev} {fe : Ev} {vs : List Nat} {r r1 r0 : Rho} (xs : List α) (hi : fi r = .ok (xs.map enc) r1) (h0 : wipeR r1 vs = r0) (hl : xs.length < 16777216)
    (hs : ∀ a ∈ xs, ∃ r1, tgt t (enc a) r0 = some r1 ∧ ∃ r2, tstR fc r1 = .ok (.val (.bl (p a))) r2 ∧ wipeR r2 vs = r0 ∧ (p a = true → ∃ r3, cSet fe r2 = .ok (.val (g a)) r3 ∧ wipeR r3 vs = r0)) : cLc vs t fi fc fe r = .ok (.val (.node .lst true ((xs.filter p).map g))) (backR r1 r0 vs) := by
  rw [q_lc, hi]
  show (match lcL t fc fe vs (xs.map enc) [] (wipeR r1 vs) with | .ok acc r2 => EO.ok (.val (.node .lst true acc)) (backR r1 r2 vs) | .bad => .bad) = _
  rw [h0, lcL_fl xs [] (by simpa using hl) hs]
  rfl
end VL

namespace K79
open PySem PySem.Spec PyProof.Rows L2 VL
def tab : Tab := []
/-- slots: pool many found step mark -/
noncomputable def f__law_take : Sv := (cSeq (cIfS (cBin gEq (cBin gIx (cVar 0) (cC (.int 1))) (cC (.int 1))) (cSeq (cAsg (.nm 2) (cBin gMod (cBin gIx (cVar 0) (cC (.int 0))) (cVar 1)))
  (cSeq (cSetIx 0 (cC (.int 0)) (cBin gDiv (cBin gIx (cVar 0) (cC (.int 0))) (cVar 1)))
  (cRet (cVar 2)))) cSkip)
  (cSeq (cSetIx 0 (cC (.int 2)) (cBin gAdd (cBin gIx (cVar 0) (cC (.int 2))) (cC (.int 1))))
  (cSeq (cAsg (.nm 3) (cBin gIx (cVar 0) (cC (.int 2))))
  (cSeq (cAsg (.nm 4) (cBin gMul (cBin gAdd (cBin gMod (cBin gIx (cVar 0) (cC (.int 0))) (cC (.int 9999999833))) (cC (.int 401))) (cBin gAdd (cBin gMul (cC (.int 7)) (cVar 3)) (cC (.int 19)))))
  (cSeq (cAsg (.nm 4) (cBin gAdd (cVar 4) (cBin gMul (cBin gMul (cC (.int 3001)) (cVar 3)) (cVar 3))))
  (cSeq (cAsg (.nm 4) (cBin gMod (cBin gMul (cVar 4) (cVar 4)) (cC (.int 99999999829))))
  (cRet (cBin gMod (cBin gDiv (cBin gMod (cBin gMul (cVar 4) (cBin gAdd (cVar 4) (cC (.int 11)))) (cC (.int 99999999821))) (cC (.int 53))) (cVar 1)))))))))
noncomputable def F__law_take : D → List D → MO := runQ 0 5 f__law_take
/-- slots: pool some r -/
noncomputable def f__law_sizes : Sv := (cSeq (cAsg (.nm 1) (cLst (cCons (cSet (cCallQ 0 1 F__law_take (cCons (cVar 0) (cCons (cSet (cC (.int 4))) cNil)))) (cCons (cSet (cCallQ 0 1 F__law_take (cCons (cVar 0) (cCons (cSet (cC (.int 9))) cNil)))) (cCons (cSet (cCallQ 0 1 F__law_take (cCons (cVar 0) (cCons (cSet (cC (.int 64))) cNil)))) cNil)))))
  (cSeq (cAsg (.nm 2) (cBin gIx (cLst (cCons (cSet (cCallQ 0 1 F__law_take (cCons (cVar 0) (cCons (cSet (cC (.int 4))) cNil)))) (cCons (cSet (cCallQ 0 1 F__law_take (cCons (cVar 0) (cCons (cSet (cC (.int 17))) cNil)))) cNil))) (cCallQ 0 1 F__law_take (cCons (cVar 0) (cCons (cSet (cC (.int 2))) cNil)))))
  (cRet (cTup (cCons (cSet (cBin gAdd (cC (.int 1)) (cBin gIx (cVar 1) (cBin gIx (cLst (cCons (cSet (cC (.int 0))) (cCons (cSet (cC (.int 0))) (cCons (cSet (cC (.int 0))) (cCons (cSet (cC (.int 1))) (cCons (cSet (cC (.int 1))) (cCons (cSet (cC (.int 1))) (cCons (cSet (cC (.int 1))) (cCons (cSet (cC (.int 2))) cNil))))))))) (cCallQ 0 1 F__law_take (cCons (cVar 0) (cCons (cSet (cC (.int 8))) cNil))))))) (cCons (cSet (cVar 2)) cNil))))))
noncomputable def F__law_sizes : D → List D → MO := runQ 0 3 f__law_sizes
/-- slots: script k cell -/
noncomputable def f__law_pool : Sv := (cSeq (cAsg (.nm 2) (cC (.int 0)))
  (cSeq (cIfS (cBin gLt (cVar 1) (cB (b1 lenD) (cCons (cVar 0) cNil))) (cAsg (.nm 2) (cBin gIx (cVar 0) (cVar 1))) cSkip)
  (cRet (cLst (cCons (cSet (cBin gDiv (cVar 2) (cC (.int 2)))) (cCons (cSet (cBin gMod (cVar 2) (cC (.int 2)))) (cCons (cSet (cBin gMul (cC (.int 7)) (cVar 1))) cNil)))))))
noncomputable def F__law_pool : List D → FO := runF 3 f__law_pool
/-- slots: script k rows column pool row x -/
noncomputable def f__law_slab : Sv := (cSeq (cAsg (.nm 2) (cLc [6] (.nm 6) (iRng rngI1 (cCons (cVar 1) cNil)) none (cLst cNil)))
  (cSeq (cFor (.nm 3) (iRng rngI1 (cCons (cCallQ 0 1 F__law_take (cCons (cCall 2 F__law_pool (cCons (cVar 0) (cCons (cC (.int 1)) cNil))) (cCons (cSet (cC (.int 7))) cNil))) cNil)) (cSeq (cAsg (.nm 4) (cCall 2 F__law_pool (cCons (cVar 0) (cCons (cBin gAdd (cC (.int 2)) (cVar 3)) cNil))))
  (cForM 2 5 (cExpr (cApp 5 (cCallQ 0 1 F__law_take (cCons (cVar 4) (cCons (cSet (cC (.int 257))) cNil))))))))
  (cRet (cVar 2))))
noncomputable def F__law_slab : List D → FO := runF 7 f__law_slab
/-- slots: number power one -/
noncomputable def f_turned_over : Sv := (cSeq (cAsg (.nm 1) (cC (.int 1)))
  (cSeq (cFor (.nm 2) (iRng rngI1 (cCons (cC (.int 8)) cNil)) (cAsg (.nm 1) (cBin gMod (cBin gMul (cBin gMul (cVar 1) (cVar 1)) (cVar 0)) (cC (.int 257)))))
  (cRet (cVar 1))))
noncomputable def F_turned_over : List D → FO := runF 3 f_turned_over
/-- slots: places x found place above below other -/
noncomputable def f_shares_at : Sv := (cSeq (cAsg (.nm 2) (cLst cNil))
  (cSeq (cFor (.nm 3) (iLst (cVar 0)) (cSeq (cAsg (.nm 4) (cC (.int 1)))
  (cSeq (cAsg (.nm 5) (cC (.int 1)))
  (cSeq (cFor (.nm 6) (iLst (cVar 0)) (cIfS (cBin gNe (cVar 6) (cVar 3)) (cSeq (cAsg (.nm 4) (cBin gMod (cBin gMul (cVar 4) (cBin gSub (cVar 1) (cVar 6))) (cC (.int 257))))
  (cAsg (.nm 5) (cBin gMod (cBin gMul (cVar 5) (cBin gSub (cVar 3) (cVar 6))) (cC (.int 257))))) cSkip))
  (cExpr (cApp 2 (cBin gMod (cBin gMul (cVar 4) (cCall 1 F_turned_over (cCons (cVar 5) cNil))) (cC (.int 257)))))))))
  (cRet (cVar 2))))
noncomputable def F_shares_at : List D → FO := runF 7 f_shares_at
/-- slots: rows places x shares found column share place -/
noncomputable def f_row_at : Sv := (cSeq (cAsg (.nm 3) (cCall 2 F_shares_at (cCons (cVar 1) (cCons (cVar 2) cNil))))
  (cSeq (cAsg (.nm 4) (cLst cNil))
  (cSeq (cFor (.nm 5) (iRng rngI1 (cCons (cB (b1 lenD) (cCons (cBin gIx (cVar 0) (cBin gIx (cVar 1) (cC (.int 0)))) cNil)) cNil)) (cExpr (cApp 4 (cBin gMod (cB (b1 sumD) (cCons (cLc [6, 7] (.tp [6, 7]) (iRng gZip (cCons (cSet (cVar 3)) (cCons (cSet (cVar 1)) cNil))) none (cBin gMul (cVar 6) (cBin gIx (cBin gIx (cVar 0) (cVar 7)) (cVar 5)))) cNil)) (cC (.int 257))))))
  (cRet (cVar 4)))))
noncomputable def F_row_at : List D → FO := runF 8 f_row_at
/-- slots: slab r places one -/
noncomputable def f_spares_of : Sv := (cSeq (cAsg (.nm 2) (cListRg1 (cB (b1 lenD) (cCons (cVar 0) cNil))))
  (cRet (cLc [3] (.nm 3) (iRng rngI1 (cCons (cVar 1) cNil)) none (cCall 3 F_row_at (cCons (cVar 0) (cCons (cVar 2) (cCons (cBin gAdd (cB (b1 lenD) (cCons (cVar 0) cNil)) (cVar 3)) cNil)))))))
noncomputable def F_spares_of : List D → FO := runF 4 f_spares_of
/-- slots: rows k there row number -/
noncomputable def f_need_rows : Sv := (cSeq (cAsg (.nm 2) (cLc [3] (.nm 3) (iLst (cVar 0)) (some (cBin gIsNot (cVar 3) (cC .non))) (cVar 3)))
  (cSeq (cIfS (cOr (cNot (cChain (fun i j => decide (i ≤ j)) (fun i j => decide (i ≤ j)) (cC (.int 1)) (cVar 1) (cC (.int 64)))) (cNot (cChain (fun i j => decide (i ≤ j)) (fun i j => decide (i ≤ j)) (cVar 1) (cB (b1 lenD) (cCons (cVar 0) cNil)) (cBin gAdd (cVar 1) (cC (.int 16)))))) (cRaise 1) cSkip)
  (cFor (.nm 3) (iLst (cVar 2)) (cSeq (cIfS (cBin gNe (cB (b1 lenD) (cCons (cVar 3) cNil)) (cB (b1 lenD) (cCons (cBin gIx (cVar 2) (cC (.int 0))) cNil))) (cRaise 1) cSkip)
  (cFor (.nm 4) (iLst (cVar 3)) (cIfS (cOr (cBin gLt (cVar 4) (cC (.int 0))) (cBin gGe (cVar 4) (cC (.int 257)))) (cRaise 1) cSkip))))))
noncomputable def F_need_rows : List D → FO := runF 5 f_need_rows
/-- slots: rows places found x -/
noncomputable def f_all_by : Sv := (cSeq (cAsg (.nm 2) (cLst cNil))
  (cSeq (cFor (.nm 3) (iRng rngI1 (cCons (cB (b1 lenD) (cCons (cVar 0) cNil)) cNil)) (cIfS (cBin gIn (cVar 3) (cVar 1)) (cExpr (cApp 2 (cB (gListOf) (cCons (cBin gIx (cVar 0) (cVar 3)) cNil)))) (cExpr (cApp 2 (cCall 3 F_row_at (cCons (cVar 0) (cCons (cVar 1) (cCons (cVar 3) cNil))))))))
  (cRet (cVar 2))))
noncomputable def F_all_by : List D → FO := runF 4 f_all_by
/-- slots: rows k places found x -/
noncomputable def f_mend_rows : Sv := (cSeq (cExpr (cCall 2 F_need_rows (cCons (cVar 0) (cCons (cVar 1) cNil))))
  (cSeq (cAsg (.nm 2) (cLc [4] (.nm 4) (iRng rngI1 (cCons (cB (b1 lenD) (cCons (cVar 0) cNil)) cNil)) (some (cBin gIsNot (cBin gIx (cVar 0) (cVar 4)) (cC .non))) (cVar 4)))
  (cSeq (cIfS (cBin gLt (cB (b1 lenD) (cCons (cVar 2) cNil)) (cVar 1)) (cRaise 1) cSkip)
  (cSeq (cAsg (.nm 3) (cCall 2 F_all_by (cCons (cVar 0) (cCons (cSl (cVar 2) none (some (cVar 1))) cNil))))
  (cSeq (cFor (.nm 4) (iLst (cSl (cVar 2) (some (cVar 1)) none)) (cIfS (cPure (cBin gNe (cBin gIx (cVar 3) (cVar 4)) (cB (gListOf) (cCons (cBin gIx (cVar 0) (cVar 4)) cNil)))) (cRaise 1) cSkip))
  (cRet (cVar 3)))))))
noncomputable def F_mend_rows : List D → FO := runF 5 f_mend_rows
/-- slots: rows k pool there found turn row -/
noncomputable def f__law_kept : Sv := (cSeq (cAsg (.nm 3) (cListRg1 (cB (b1 lenD) (cCons (cVar 0) cNil))))
  (cSeq (cAsg (.nm 4) (cLc [6] (.nm 6) (iLst (cVar 0)) none (cB (gListOf) (cCons (cVar 6) cNil))))
  (cSeq (cFor (.nm 5) (iRng rngI1 (cCons (cBin gSub (cB (b1 lenD) (cCons (cVar 0) cNil)) (cVar 1)) cNil)) (cSetIx 4 (cPopI 3 (cCallQ 0 1 F__law_take (cCons (cVar 2) (cCons (cSet (cB (b1 lenD) (cCons (cVar 3) cNil))) cNil)))) (cC .non)))
  (cRet (cVar 4)))))
noncomputable def F__law_kept : D → List D → MO := runQ 2 7 f__law_kept
/-- slots: many k lists one some -/
noncomputable def f_chosen : Sv := (cSeq (cAsg (.nm 2) (cLst (cCons (cSet (cLst cNil)) cNil)))
  (cSeq (cFor (.nm 3) (iRng rngI1 (cCons (cVar 0) cNil)) (cAsg (.nm 2) (cBin gAdd (cVar 2) (cLc [4] (.nm 4) (iLst (cVar 2)) (some (cBin gLt (cB (b1 lenD) (cCons (cVar 4) cNil)) (cVar 1))) (cBin gAdd (cVar 4) (cLst (cCons (cSet (cVar 3)) cNil)))))))
  (cRet (cLc [4] (.nm 4) (iLst (cVar 2)) (some (cBin gEq (cB (b1 lenD) (cCons (cVar 4) cNil)) (cVar 1))) (cVar 4)))))
noncomputable def F_chosen : List D → FO := runF 5 f_chosen
/-- slots: rows k places found wrong x -/
noncomputable def f_put_right : Sv := (cSeq (cExpr (cCall 2 F_need_rows (cCons (cVar 0) (cCons (cVar 1) cNil))))
  (cSeq (cIfS (cBin gIn (cC .non) (cVar 0)) (cRaise 1) cSkip)
  (cSeq (cFor (.nm 2) (iLst (cCall 2 F_chosen (cCons (cB (b1 lenD) (cCons (cVar 0) cNil)) (cCons (cVar 1) cNil)))) (cSeq (cAsg (.nm 3) (cCall 2 F_all_by (cCons (cVar 0) (cCons (cVar 2) cNil))))
  (cSeq (cAsg (.nm 4) (cPure (cLc [5] (.nm 5) (iRng rngI1 (cCons (cB (b1 lenD) (cCons (cVar 0) cNil)) cNil)) (some (cBin gNe (cBin gIx (cVar 3) (cVar 5)) (cB (gListOf) (cCons (cBin gIx (cVar 0) (cVar 5)) cNil)))) (cVar 5))))
  (cIfS (cBin gLe (cB (b1 lenD) (cCons (cVar 4) cNil)) (cBin gDiv (cBin gSub (cB (b1 lenD) (cCons (cVar 0) cNil)) (cVar 1)) (cC (.int 2)))) (cRet (cVar 3)) cSkip))))
  (cRaise 1))))
noncomputable def F_put_right : List D → FO := runF 6 f_put_right
/-- slots: rows k pool found there turn at row number -/
noncomputable def f__law_right : Sv := (cSeq (cAsg (.nm 3) (cLc [7] (.nm 7) (iLst (cVar 0)) none (cB (gListOf) (cCons (cVar 7) cNil))))
  (cSeq (cAsg (.nm 4) (cListRg1 (cB (b1 lenD) (cCons (cVar 0) cNil))))
  (cSeq (cFor (.nm 5) (iRng rngI1 (cCons (cBin gDiv (cBin gSub (cB (b1 lenD) (cCons (cVar 0) cNil)) (cVar 1)) (cC (.int 2))) cNil)) (cSeq (cAsg (.nm 6) (cPopI 4 (cCallQ 0 1 F__law_take (cCons (cVar 2) (cCons (cSet (cB (b1 lenD) (cCons (cVar 4) cNil))) cNil)))))
  (cSetIx 3 (cVar 6) (cLc [8] (.nm 8) (iLst (cMoveIx 3 (cVar 6))) none (cBin gMod (cBin gAdd (cBin gAdd (cVar 8) (cC (.int 1))) (cCallQ 0 1 F__law_take (cCons (cVar 2) (cCons (cSet (cC (.int 256))) cNil)))) (cC (.int 257)))))))
  (cRet (cBin gEq (cCall 2 F_put_right (cCons (cVar 3) (cCons (cVar 1) cNil))) (cVar 0))))))
noncomputable def F__law_right : D → List D → MO := runQ 2 9 f__law_right
/-- slots: script k r slab rows many at pool told -/
noncomputable def f_law : Sv := (cSeq (cAsg (.tp [1, 2]) (cCallQ 0 0 F__law_sizes (cCons (cCall 2 F__law_pool (cCons (cVar 0) (cCons (cC (.int 0)) cNil))) cNil)))
  (cSeq (cAsg (.nm 3) (cCall 2 F__law_slab (cCons (cVar 0) (cCons (cVar 1) cNil))))
  (cSeq (cAsg (.nm 4) (cBin gAdd (cVar 3) (cCall 2 F_spares_of (cCons (cVar 3) (cCons (cVar 2) cNil)))))
  (cSeq (cAsg (.nm 5) (cB (gMax2) (cCons (cC (.int 11)) (cCons (cB (gMin2) (cCons (cC (.int 19)) (cCons (cB (b1 lenD) (cCons (cVar 0) cNil)) cNil))) cNil))))
  (cSeq (cIfS (cBin gGt (cVar 1) (cC (.int 9))) (cAsg (.nm 5) (cC (.int 11))) cSkip)
  (cSeq (cFor (.nm 6) (iRng rngI2 (cCons (cC (.int 9)) (cCons (cVar 5) cNil))) (cSeq (cAsg (.nm 7) (cCall 2 F__law_pool (cCons (cVar 0) (cCons (cVar 6) cNil))))
  (cSeq (cAsg (.nm 8) (cCall 2 F_mend_rows (cCons (cCallQ 2 2 F__law_kept (cCons (cSet (cVar 4)) (cCons (cSet (cVar 1)) (cCons (cVar 7) cNil)))) (cCons (cVar 1) cNil))))
  (cSeq (cIfS (cOr (cBin gNe (cVar 8) (cVar 4)) (cBin gNe (cCall 2 F_spares_of (cCons (cSl (cVar 8) none (some (cVar 1))) (cCons (cVar 2) cNil))) (cSl (cVar 8) (some (cVar 1)) none))) (cRet (cC (.bl false))) cSkip)
  (cIfS (cAnd (cBin gLt (cB (b1 lenD) (cCons (cVar 4) cNil)) (cC (.int 9))) (cNot (cCallQ 2 2 F__law_right (cCons (cSet (cVar 4)) (cCons (cSet (cVar 1)) (cCons (cVar 7) cNil)))))) (cRet (cC (.bl false))) cSkip)))))
  (cRet (cC (.bl true)))))))))
noncomputable def F_law : List D → FO := runF 9 f_law
end K79

namespace K79
open PySem PySem.Spec PyProof.Rows L2 VL
abbrev I (o : Bool) (xs : List Int) : D := .node .lst o (xs.map .int)
theorem cc (n : Int) (r : Rho) : cC (.int n) r = .ok (.val (.int n)) r := rfl
theorem set_val {fa : Ev} {r r1 : Rho} {d : D} (h : fa r = .ok (.val d) r1) : cSet fa r = .ok (.val d) r1 := by
  rw [q_set, h, bd_ok]
theorem set_loc {r : Rho} {i : Nat} {o : Bool} {ds : List D} (h : r[i]? = some (some (.node .lst o ds))) (f : frzs ds = ds) : cSet (cVar i) r = .ok (.val (.node .lst false ds)) (r.set i (some (.node .lst false ds))) := by
  have e : frz (.node .lst o ds) = .node .lst false ds := frz_lst f
  rw [q_set, cvar_loc h rfl, bd_ok]
  show (match opd r (.loc i) with | some d => EO.ok (.val (frz d)) (settle r (.loc i)) | none => .bad) = _
  rw [opd_loc' h, q_settle2, h]
  show EO.ok (R.val (frz (.node .lst o ds))) (r.set i (some (frz (.node .lst o ds)))) = _
  rw [e]
theorem appI {fa : Ev} {r r1 : Rho} {i : Nat} {n : Int} {xs : List Int} (hi : isLst r i = true) (h : fa r = .ok (.val (.int n)) r1) (h2 : r1[i]? = some (some (I true xs))) (hl : xs.length < 16777216) : cExpr (cApp i fa) r = .nx (r1.set i (some (I true (xs ++ [n])))) := by
  rw [app_ok hi h h2 (by rw [List.length_map]; exact hl), I, List.map_append]
  rfl
theorem len_at {r : Rho} {i : Nat} {k : Kd} {o : Bool} {xs : List D} (h : r[i]? = some (some (.node k o xs))) (hk : k = .lst ∨ k = .rd ∨ k = .tup) : cB (b1 lenD) (cCons (cVar i) cNil) r = .ok (.val (.int xs.length)) r :=
  b1_ok (cvar_loc h rfl) (opd_loc' h) (by rcases hk with h | h | h <;> subst h <;> rfl) rfl
theorem len_I {r : Rho} {i : Nat} {o : Bool} {xs : List Int} (h : r[i]? = some (some (I o xs))) : cB (b1 lenD) (cCons (cVar i) cNil) r = .ok (.val (.int xs.length)) r := by
  have e := len_at h (.inl rfl)
  rw [List.length_map] at e
  exact e
theorem cons_ok {fa : Ev} {fs : Av} {r r1 r2 : Rho} {x : R} {xs : List R} (h : fa r = .ok x r1) (h2 : fs r1 = .ok xs r2) : cCons fa fs r = .ok (x :: xs) r2 := by
  rw [q_cons, h]
  show (match fs r1 with | .ok xs r2 => AO.ok (x :: xs) r2 | .exc c r2 => .exc c r2 | .bad => .bad) = _
  rw [h2]
theorem nil_ok (r : Rho) : cNil r = .ok [] r := rfl
theorem lst_ok {fs : Av} {r r1 : Rho} {xs : List R} {ds : List D} (h : fs r = .ok xs r1) (h2 : valsR xs = some ds) (hl : ds.length ≤ 16777216) : cLst fs r = .ok (.val (.node .lst true ds)) r1 := by
  rw [q_lst, h]
  show (match valsR xs with | some ds => if ds.length ≤ 16777216 then EO.ok (.val (.node .lst true ds)) r1 else .bad | none => .bad) = _
  rw [h2]
  show (if ds.length ≤ 16777216 then EO.ok (.val (.node .lst true ds)) r1 else .bad) = _
  rw [if_pos hl]
theorem tup_ok {fs : Av} {r r1 : Rho} {xs : List R} {ds : List D} (h : fs r = .ok xs r1) (h2 : valsR xs = some ds) (hl : ds.length ≤ 16777216) : cTup fs r = .ok (.val (.node .tup false ds)) r1 := by
  rw [q_tup, h]
  show (match valsR xs with | some ds => if ds.length ≤ 16777216 then EO.ok (.val (.node .tup false ds)) r1 else .bad | none => .bad) = _
  rw [h2]
  show (if ds.length ≤ 16777216 then EO.ok (.val (.node .tup false ds)) r1 else .bad) = _
  rw [if_pos hl]
/-- a call whose arguments are values -/
theorem call_vals {n : Nat} {F : List D → FO} {fs : Av} {r r1 : Rho} {xs : List R} {ds : List D} {d : D} (h : fs r = .ok xs r1) (h2 : opds r1 xs = some ds) (hn : xs.length = n) (hs : settles r1 xs = r1) (hF : F (frzs ds) = .ok d) : cCall n F fs r = .ok (.val d) r1 := by
  rw [q_call, h]
  show (if xs.length = n then callK F xs r1 else .bad) = _
  rw [if_pos hn, q_callK, h2]
  show (match F (frzs ds) with | .ok d => if noL d = true then EO.ok (.val d) r1 else .ok (.val d) (settles r1 xs) | .exc c => .exc c r1 | .bad => .bad) = _
  rw [hF]
  show (if noL d = true then EO.ok (.val d) r1 else .ok (.val d) (settles r1 xs)) = _
  rw [hs]
  split <;> rfl
/-- a call whose answer holds no shared list -/
theorem call_noL {n : Nat} {F : List D → FO} {fs : Av} {r r1 : Rho} {xs : List R} {ds : List D} {d : D} (h : fs r = .ok xs r1) (h2 : opds r1 xs = some ds) (hn : xs.length = n) (nl : noL d = true) (hF : F (frzs ds) = .ok d) : cCall n F fs r = .ok (.val d) r1 := by
  rw [q_call, h]
  show (if xs.length = n then callK F xs r1 else .bad) = _
  rw [if_pos hn, q_callK, h2]
  show (match F (frzs ds) with | .ok d => if noL d = true then EO.ok (.val d) r1 else .ok (.val d) (settles r1 xs) | .exc c => .exc c r1 | .bad => .bad) = _
  rw [hF]
  show (if noL d = true then EO.ok (.val d) r1 else .ok (.val d) (settles r1 xs)) = _
  rw [if_pos nl]
theorem frz_I (o : Bool) (xs : List Int) : frz (I o xs) = I false xs := frz_ints xs o
/-! ### lists of places -/
abbrev nt (k : Nat) : D := .int (k : Nat)
abbrev L (o : Bool) (ks : List Nat) : D := .node .lst o (ks.map nt)
theorem frzs_nt (ks : List Nat) : frzs (ks.map nt) = ks.map nt := by
  rw [frzs_map, List.map_map]
  exact List.map_congr_left fun _ _ => rfl
theorem fp_nts (ks : List Nat) : ∀ x ∈ ks.map nt, FP 0 x := fun x hx => by
  obtain ⟨p, _, rfl⟩ := List.mem_map.mp hx
  exact fp_int _ 0
theorem rng_nt (n : Nat) : rngD 0 1 n = (List.range n).map nt := by
  unfold rngD
  refine List.map_congr_left fun i _ => ?_
  show D.int ((0 : Int) + (i : Nat) * 1) = D.int (i : Nat)
  congr 1; omega
theorem it_rng {fa : Ev} {r r1 : Rho} {n : Nat} (h : fa r = .ok (.val (nt n)) r1) (hn : n ≤ 1000000) : iRng rngI1 (cCons fa cNil) r = .ok ((List.range n).map nt) r1 := by
  rw [q_iRng, q_cons, h]
  show rngI1 r1 [.val (.int (n : Nat))] = _
  rw [q_rng1, if_pos (within_le (by omega) (by omega)), Int.toNat_natCast, rng_nt]
theorem lc_filt {fi : Iv} {v : Nat} {fc : Ev} {r r1 r0 : Rho} (ks : List Nat) (p : Nat → Bool) (hi : fi r = .ok (ks.map nt) r1) (h0 : r1.set v none = r0) (hv : r0[v]? = some none) (hl : ks.length < 16777216)
    (hs : ∀ k ∈ ks, fc (r0.set v (some (nt k))) = .ok (.val (.bl (p k))) (r0.set v (some (nt k)))) : cLc [v] (.nm v) fi (some fc) (cVar v) r = .ok (.val (L true (ks.filter p))) (backR r1 r0 [v]) := by
  have hv2 : v < r0.length := (List.getElem?_eq_some_iff.mp hv).1
  have hw : ∀ d : D, (r0.set v (some d)).set v none = r0 := fun d => by
    rw [List.set_set]
    refine List.ext_getElem? fun j => ?_
    by_cases hj : v = j
    · subst hj
      rw [List.getElem?_set_self hv2, hv]
    · rw [List.getElem?_set_ne hj]
  have e := lc_map (t := .nm v) (fc := some fc) (fe := cVar v) (vs := [v]) (ds := ks.map nt) (p := fun d => match d with | .int n => p n.toNat | _ => false) (q := id) hi h0 (by rw [List.length_map]; exact hl) fun d hd => by
    obtain ⟨k, hk, rfl⟩ := List.mem_map.mp hd
    refine ⟨r0.set v (some (nt k)), rfl, r0.set v (some (nt k)), ?_, hw _, fun _ => ⟨r0.set v (some (nt k)), ?_, hw _⟩⟩
    · exact hs k hk
    · exact set_val (cvar_at (List.getElem?_set_self hv2) rfl)
  rw [e, List.map_id, List.filter_map]
  rfl
theorem ix_get {r : Rho} {i : Nat} {fa : Ev} {o : Bool} {xs : List Int} {n : Nat} (h : r[i]? = some (some (I o xs))) (h2 : fa r = .ok (.val (nt n)) r) (hn : n < xs.length) : cBin gIx (cVar i) fa r = .ok (.val (.int (xs.getD n 0))) r := by
  refine bin_ok (cvar_loc h rfl) h2 ?_
  rw [List.getD_eq_getElem?_getD, List.getElem?_eq_getElem hn]
  exact ix_fz h (frzs_ints _) (at_map hn) rfl
theorem add_nt {fa fb : Ev} {r r1 r2 : Rho} {i j : Nat} (h1 : fa r = .ok (.val (nt i)) r1) (h2 : fb r1 = .ok (.val (nt j)) r2) : cBin gAdd fa fb r = .ok (.val (nt (i + j))) r2 := by
  have e := add_ok h1 h2
  exact e
theorem lt_nt {fa fb : Ev} {r r1 r2 : Rho} {i j : Nat} (h1 : fa r = .ok (.val (nt i)) r1) (h2 : fb r1 = .ok (.val (nt j)) r2) : cBin gLt fa fb r = .ok (.val (.bl (decide (i < j)))) r2 := by
  rw [lt_ok h1 h2, decide_eq_decide.mpr (show (i : Int) < j ↔ i < j by omega)]
theorem wh_go {ft : Ev} {f : Sv} {n : Nat} {r r1 : Rho} (h : ft r = .ok (.val (.bl true)) r1) {r2 : Rho} (h2 : f r1 = .nx r2) : whileL ft f (n + 1) r = whileL ft f n r2 := by
  conv => lhs; unfold whileL
  rw [h]
  show (match f r1 with | .nx r2 => whileL ft f n r2 | .ct r2 => whileL ft f n r2 | .bk r2 => .nx r2 | o => o) = _
  rw [h2]
theorem wh_bk {ft : Ev} {f : Sv} {n : Nat} {r r1 : Rho} (h : ft r = .ok (.val (.bl true)) r1) {r2 : Rho} (h2 : f r1 = .bk r2) : whileL ft f (n + 1) r = .nx r2 := by
  unfold whileL
  rw [h]
  show (match f r1 with | .nx r2 => whileL ft f n r2 | .ct r2 => whileL ft f n r2 | .bk r2 => .nx r2 | o => o) = _
  rw [h2]
theorem wh_no {ft : Ev} {f : Sv} {n : Nat} {r r1 : Rho} (h : ft r = .ok (.val (.bl false)) r1) : whileL ft f (n + 1) r = .nx r1 := by
  unfold whileL
  rw [h]
  rfl
theorem aug_nt {r r1 : Rho} {i a b : Nat} {fa : Ev} (h : r[i]? = some (some (nt a))) (h2 : fa r = .ok (.val (nt b)) r1) : cAug i (g2 iAdd) fa r = .nx (r1.set i (some (nt (a + b)))) := by
  rw [q_aug, h]
  show (if true = true then (fa r).st fun y r1 => (g2 iAdd (.val (nt a)) y r1).st fun z r2 => match z with
    | .val d' => SO.nx (r2.set i (some d'))
    | .loc _ => .bad else .bad) = _
  rw [h2]
  rfl
theorem and_no {fa fb : Ev} {r : Rho} (h : fa r = .ok (.val (.bl false)) r) : cAnd fa fb r = .ok (.val (.bl false)) r := by
  rw [q_and, h, bd_ok]
theorem emp_false {α : Type} {l : List α} (h : l ≠ []) : l.isEmpty = false := by
  cases l with
  | nil => exact absurd rfl h
  | cons _ _ => rfl
/-! ### plain pieces of the layer -/
theorem fp_str (x : Str) (k : Nat) (h : PyData.canLay0 (.str x) = true) : FP k (.str x) := ⟨h, Nat.zero_le _⟩
theorem so : PyData.canLay0 (.str "sign") = true ∧ PyData.canLay0 (.str "copy") = true := by decide +kernel
theorem eq_str {fa fb : Ev} {r r1 r2 : Rho} {x y : Str} (sx : PyData.canLay0 (.str x) = true) (sy : PyData.canLay0 (.str y) = true) (h1 : fa r = .ok (.val (.str x)) r1) (h2 : fb r1 = .ok (.val (.str y)) r2) : cBin gEq fa fb r = .ok (.val (.bl (x == y))) r2 := by
  refine bin_ok h1 h2 (g2_ok rfl rfl (?_ : eqD (.str x) (.str y) = some (.bl (x == y))) rfl)
  unfold eqD
  rw [eqOk_fp (fp_str x 0 sx) (by decide), eqOk_fp (fp_str y 0 sy) (by decide)]
  rfl
theorem ix_tup {r : Rho} {i : Nat} {k : Int} {o : Bool} {xs : List D} {d : D} (h : r[i]? = some (some (.node .tup o xs))) (f : frzs xs = xs) (hd : atI xs k = some d) (fd : frz d = d) : gIx (.loc i) (.val (.int k)) r = .ok (.val d) r := by
  have a : opd r (.loc i) = some (.node .tup o xs) := opd_loc' h
  simp only [q_ix, a, q_opd1, hd, q_pick, fd, touch_fz h f]
  split <;> rfl
theorem ss : (("sign" : Str) == "sign") = true := by decide +kernel
theorem cs : (("copy" : Str) == "sign") = false := by decide +kernel
theorem cp : (("copy" : Str) == "copy") = true := by decide +kernel
theorem ne_nils {fa fb : Ev} {r r1 r2 : Rho} (h1 : fa r = .ok (.val (.node .lst true [])) r1) (h2 : fb r1 = .ok (.val (.node .lst true [])) r2) : cBin gNe fa fb r = .ok (.val (.bl false)) r2 :=
  bin_ok h1 h2 (g2_ok rfl rfl (ne_nil (k := 0) (fun x hx => by cases hx) (by decide)) rfl)
theorem part_ok {f : Ev} {r r1 : Rho} {i : Int} {k : Option Int → Rho → EO} (h : f r = .ok (.val (.int i)) r1) : VL.part (some f) r k = k (some i) r1 := by
  show (f r).bd _ = _
  rw [h]
  rfl
theorem frz_script (ns : List Int) : frz (script ns) = script ns := by
  show D.node .rd false (frzs (ns.map D.int)) = _
  rw [frzs_ints]; rfl
theorem rd_at {ns : List Int} {r : Rho} {i k : Nat} {fa : Ev} (h : r[i]? = some (some (script ns))) (h2 : fa r = .ok (.val (nt k)) r) (hk : k < ns.length) : cBin gIx (cVar i) fa r = .ok (.val (.int ns[k])) r := by
  refine bin_ok (cvar_loc h rfl) h2 ?_
  rw [q_ix, opd_loc' h]
  show (match atI (ns.map D.int) (k : Int) with | some d => pick r (.loc i) d | none => EO.bad) = _
  rw [at_map hk]
  rfl
theorem all_bl (bs : List Bool) {fa : Ev} {r r1 : Rho} {o : Bool} (h : fa r = .ok (.val (.node .lst o (bs.map D.bl))) r1) : cTru (cB (b1 allD) (cCons fa cNil)) r = .ok (.val (.bl (bs.all id))) r1 := by
  have e : allD (.node .lst o (bs.map D.bl)) = some (.bl (bs.all id)) := by
    show (blsOf (bs.map D.bl)).map _ = _
    rw [blsOf_map]; rfl
  have b := b1_ok h rfl e rfl
  unfold cTru
  rw [b]
  rfl
theorem sc : (("sign" : Str) == "copy") = false := by decide +kernel
theorem at_ngv {α : Type} {xs : List α} {b : Nat} (h1 : 1 ≤ b) (h2 : b ≤ xs.length) : atI xs (-(b : Int)) = xs[xs.length - b]? := by
  unfold atI ixN
  rw [if_neg (by omega), if_pos (by omega)]
  show xs[(-(b : Int) + (xs.length : Int)).toNat]? = _
  rw [show (-(b : Int) + (xs.length : Int)).toNat = xs.length - b by omega]
theorem neg_ok {fa : Ev} {r r1 : Rho} {n : Int} (h : fa r = .ok (.val (.int n)) r1) : cNeg fa r = .ok (.val (.int (-n))) r1 := by
  unfold cNeg
  rw [h]
  rfl
theorem gt_no {fa fb : Ev} {r r1 r2 : Rho} {i j : Nat} (h1 : fa r = .ok (.val (nt i)) r1) (h2 : fb r1 = .ok (.val (nt j)) r2) (h : i ≤ j) : cBin gGt fa fb r = .ok (.val (.bl false)) r2 := by
  have e := gt_ok h1 h2
  rw [decide_eq_false (by omega)] at e
  exact e
theorem lcL_all {α : Type} {enc g : α → D} {t : Tg} {fe : Ev} {vs : List Nat} {r0 : Rho} : ∀ (xs : List α) (acc : List D), acc.length + xs.length < 16777216 →
    (∀ a ∈ xs, ∃ r2, tgt t (enc a) r0 = some r2 ∧ ∃ r3, cSet fe r2 = .ok (.val (g a)) r3 ∧ wipeR r3 vs = r0) → lcL t none fe vs (xs.map enc) acc r0 = .ok (acc ++ xs.map g) r0
  | [], acc, _, _ => by simp [lcL]
  | a :: xs, acc, hl, hs => by
    simp only [List.length_cons] at hl
    obtain ⟨r2, e1, r3, e2, e3⟩ := hs a List.mem_cons_self
    rw [List.map_cons]
    unfold lcL
    rw [e1]
    show (match cSet fe r2 with | .ok (.val e) r3 => if acc.length < 16777216 then lcL t none fe vs (xs.map enc) (acc ++ [e]) (wipeR r3 vs) else .bad | _ => LO.bad) = _
    rw [e2]
    show (if acc.length < 16777216 then lcL t none fe vs (xs.map enc) (acc ++ [g a]) (wipeR r3 vs) else LO.bad) = _
    rw [if_pos (by omega), e3, lcL_all xs (acc ++ [g a]) (by rw [List.length_append, List.length_singleton]; omega) (fun x hx => hs x (List.mem_cons_of_mem _ hx)), List.append_assoc]
    rfl
theorem lc_all {α : Type} {enc g : α → D} {fi : Iv} {t : Tg} {fe : Ev} {vs : List Nat} {r r1 r0 : Rho} (xs : List α) (hi : fi r = .ok (xs.map enc) r1) (h0 : wipeR r1 vs = r0) (hl : xs.length < 16777216)
    (hs : ∀ a ∈ xs, ∃ r2, tgt t (enc a) r0 = some r2 ∧ ∃ r3, cSet fe r2 = .ok (.val (g a)) r3 ∧ wipeR r3 vs = r0) : cLc vs t fi none fe r = .ok (.val (.node .lst true (xs.map g))) (backR r1 r0 vs) := by
  rw [q_lc, hi]
  show (match lcL t none fe vs (xs.map enc) [] (wipeR r1 vs) with | .ok acc r2 => EO.ok (.val (.node .lst true acc)) (backR r1 r2 vs) | .bad => .bad) = _
  rw [h0, lcL_all xs [] (by simpa using hl) hs]
  rfl
theorem min_nt {fa fb : Ev} {r : Rho} {i j : Nat} (h1 : fa r = .ok (.val (nt i)) r) (h2 : fb r = .ok (.val (nt j)) r) : cB gMin2 (cCons fa (cCons fb cNil)) r = .ok (.val (nt (min i j))) r := by
  rw [q_B, cons_ok h1 (cons_ok h2 (nil_ok r))]
  show gMin2 [.val (nt i), .val (nt j)] r = _
  rw [q_min2]
  congr 3
  by_cases hn : (j : Int) < i
  · rw [if_pos hn]; omega
  · rw [if_neg hn]; omega
theorem max_nt {fa fb : Ev} {r : Rho} {i j : Nat} (h1 : fa r = .ok (.val (nt i)) r) (h2 : fb r = .ok (.val (nt j)) r) : cB gMax2 (cCons fa (cCons fb cNil)) r = .ok (.val (nt (max i j))) r := by
  rw [q_B, cons_ok h1 (cons_ok h2 (nil_ok r))]
  show gMax2 [.val (nt i), .val (nt j)] r = _
  rw [q_max2]
  congr 3
  by_cases hn : (j : Int) > i
  · rw [if_pos hn]; omega
  · rw [if_neg hn]; omega
theorem sub_nt {fa fb : Ev} {r r1 r2 : Rho} {i j : Nat} (h1 : fa r = .ok (.val (nt i)) r1) (h2 : fb r1 = .ok (.val (nt j)) r2) (h : j ≤ i) : cBin VL.gSub fa fb r = .ok (.val (nt (i - j))) r2 := by
  have e := sub_ok h1 h2
  rw [show (i : Int) - (j : Int) = ((i - j : Nat) : Int) by omega] at e
  exact e
/-! ### pools and what is taken out of them -/
theorem emod_nt (z : Int) (m : Nat) (hm : 1 ≤ m) : ∃ q : Nat, z % (m : Int) = (q : Int) ∧ q < m := by
  have h1 := Int.emod_nonneg z (show (m : Int) ≠ 0 by omega)
  have h2 := Int.emod_lt_of_pos z (show (0 : Int) < (m : Int) by omega)
  exact ⟨(z % (m : Int)).toNat, by omega, by omega⟩
abbrev pl (a b c : Int) : D := .node .lst true [.int a, .int b, .int c]
/-- a pool that was asked at most n times -/
def Pool (d : D) (n : Nat) : Prop := ∃ a b c, d = pl a b c ∧ 0 ≤ c ∧ c ≤ n
theorem Pool.mono {d : D} {n m : Nat} (h : Pool d n) (hn : n ≤ m) : Pool d m := by
  obtain ⟨a, b, c, e, h1, h2⟩ := h
  exact ⟨a, b, c, e, h1, by omega⟩
theorem take_ok {d : D} {n : Nat} (h : Pool d n) (hn : n < 999999) (m : Nat) (hm : 0 < m) (hm2 : m < 1000000) : ∃ (v : Nat) (d' : D), F__law_take d [nt m] = .ok (nt v) d' ∧ v < m ∧ Pool d' (n + 1) := by
  obtain ⟨a, b, c, e, h1, h2⟩ := h
  subst e
  by_cases hb : b = 1
  · subst hb
    obtain ⟨q, eq, hq⟩ := emod_nt a m hm
    refine ⟨q, pl (a / m) 1 c, ?_, hq, a / m, 1, c, rfl, h1, by omega⟩
    have i1 : cBin gEq (cBin gIx (cVar 0) (cC (.int 1))) (cC (.int 1)) [some (pl a 1 c), some (nt m), none, none, none] = .ok (.val (.bl true)) [some (pl a 1 c), some (nt m), none, none, none] := rfl
    have v0 : cBin gIx (cVar 0) (cC (.int 0)) [some (pl a 1 c), some (nt m), none, none, none] = .ok (.val (.int a)) [some (pl a 1 c), some (nt m), none, none, none] := rfl
    have m0 := mod_ok v0 (cvar_at (i := 1) (d := nt m) rfl rfl) (by omega)
    rw [eq] at m0
    have s1 : cAsg (.nm 2) (cBin gMod (cBin gIx (cVar 0) (cC (.int 0))) (cVar 1)) [some (pl a 1 c), some (nt m), none, none, none] = .nx [some (pl a 1 c), some (nt m), some (nt q), none, none] := asg_ok (i := 2) m0
    have w0 : cBin gIx (cVar 0) (cC (.int 0)) [some (pl a 1 c), some (nt m), some (nt q), none, none] = .ok (.val (.int a)) [some (pl a 1 c), some (nt m), some (nt q), none, none] := rfl
    have d0 := div_ok w0 (cvar_at (i := 1) (d := nt m) rfl rfl) (by omega) (by omega)
    have s2 : cSetIx 0 (cC (.int 0)) (cBin gDiv (cBin gIx (cVar 0) (cC (.int 0))) (cVar 1)) [some (pl a 1 c), some (nt m), some (nt q), none, none] = .nx [some (pl (a / m) 1 c), some (nt m), some (nt q), none, none] := by
      rw [q_setIx, set_val d0]
      rfl
    have s3 : cRet (cVar 2) [some (pl (a / m) 1 c), some (nt m), some (nt q), none, none] = .rt (.val (nt q)) [some (pl (a / m) 1 c), some (nt m), some (nt q), none, none] := rfl
    have fin : f__law_take [some (pl a 1 c), some (nt m), none, none, none] = .rt (.val (nt q)) [some (pl (a / m) 1 c), some (nt m), some (nt q), none, none] := seq_rt (ifs_yes i1 ((seq_nx s1).trans ((seq_nx s2).trans s3)))
    show (match f__law_take [some (pl a 1 c), some (nt m), none, none, none] with | .rt (.val d) r => (match r[0]? with | some (some d0') => MO.ok d d0' | _ => .bad) | .rt (.loc i) r => _ | .nx r => _ | _ => _) = _
    rw [fin]
    rfl
  · have i1 : cBin gEq (cBin gIx (cVar 0) (cC (.int 1))) (cC (.int 1)) [some (pl a b c), some (nt m), none, none, none] = .ok (.val (.bl (decide (b = 1)))) [some (pl a b c), some (nt m), none, none, none] := rfl
    rw [decide_eq_false hb] at i1
    have i2 : cBin gIx (cVar 0) (cC (.int 2)) [some (pl a b c), some (nt m), none, none, none] = .ok (.val (.int c)) [some (pl a b c), some (nt m), none, none, none] := rfl
    have s1 : cSetIx 0 (cC (.int 2)) (cBin gAdd (cBin gIx (cVar 0) (cC (.int 2))) (cC (.int 1))) [some (pl a b c), some (nt m), none, none, none] = .nx [some (pl a b (c + 1)), some (nt m), none, none, none] := by
      rw [q_setIx, set_val (add_ok i2 (cc 1 _))]
      rfl
    obtain ⟨t, ht⟩ : ∃ t : Int, c + 1 = t := ⟨c + 1, rfl⟩
    rw [ht] at s1
    have s2 : cAsg (.nm 3) (cBin gIx (cVar 0) (cC (.int 2))) [some (pl a b t), some (nt m), none, none, none] = .nx [some (pl a b t), some (nt m), none, some (.int t), none] := rfl
    have a0 : cBin gIx (cVar 0) (cC (.int 0)) [some (pl a b t), some (nt m), none, some (.int t), none] = .ok (.val (.int a)) [some (pl a b t), some (nt m), none, some (.int t), none] := rfl
    have e3 : cVar 3 [some (pl a b t), some (nt m), none, some (.int t), none] = .ok (.val (.int t)) [some (pl a b t), some (nt m), none, some (.int t), none] := rfl
    have hz0 := Int.emod_nonneg a (show (9999999833 : Int) ≠ 0 by decide)
    have hz1 := Int.emod_lt_of_pos a (show (0 : Int) < 9999999833 by decide)
    have v3 := mul_ok (add_ok (mod_ok a0 (cc 9999999833 _) (by decide)) (cc 401 _)) (add_ok (mul_ok (cc 7 _) e3 (mulOk_l (by decide))) (cc 19 _)) (mulOk_l (by omega))
    have b1 : 0 ≤ (a % 9999999833 + 401) * (7 * t + 19) := Int.mul_nonneg (by omega) (by omega)
    have b2 : (a % 9999999833 + 401) * (7 * t + 19) ≤ 10000000234 * 7000026 := Int.mul_le_mul (by omega) (by omega) (by omega) (by omega)
    generalize (a % 9999999833 + 401) * (7 * t + 19) = k1 at v3 b1 b2
    have s3 : cAsg (.nm 4) (cBin gMul (cBin gAdd (cBin gMod (cBin gIx (cVar 0) (cC (.int 0))) (cC (.int 9999999833))) (cC (.int 401))) (cBin gAdd (cBin gMul (cC (.int 7)) (cVar 3)) (cC (.int 19)))) [some (pl a b t), some (nt m), none, some (.int t), none] = .nx [some (pl a b t), some (nt m), none, some (.int t), some (.int k1)] := asg_ok (i := 4) v3
    have f3 : ∀ k, cVar 3 [some (pl a b t), some (nt m), none, some (.int t), some (.int k)] = .ok (.val (.int t)) [some (pl a b t), some (nt m), none, some (.int t), some (.int k)] := fun _ => rfl
    have f4 : ∀ k, cVar 4 [some (pl a b t), some (nt m), none, some (.int t), some (.int k)] = .ok (.val (.int k)) [some (pl a b t), some (nt m), none, some (.int t), some (.int k)] := fun _ => rfl
    have v4 := add_ok (f4 k1) (mul_ok (mul_ok (cc 3001 _) (f3 k1) (mulOk_l (by decide))) (f3 k1) (mulOk_r (by omega)))
    have b3 : 0 ≤ 3001 * t * t := Int.mul_nonneg (by omega) (by omega)
    have b4 : 3001 * t * t ≤ 3001000000 * 1000000 := Int.mul_le_mul (by omega) (by omega) (by omega) (by omega)
    generalize 3001 * t * t = k2 at v4 b3 b4
    have s4 : cAsg (.nm 4) (cBin gAdd (cVar 4) (cBin gMul (cBin gMul (cC (.int 3001)) (cVar 3)) (cVar 3))) [some (pl a b t), some (nt m), none, some (.int t), some (.int k1)] = .nx [some (pl a b t), some (nt m), none, some (.int t), some (.int (k1 + k2))] := asg_ok (i := 4) v4
    have v5 := mod_ok (mul_ok (f4 (k1 + k2)) (f4 (k1 + k2)) (mulOk_l (by omega))) (cc 99999999829 _) (by decide)
    generalize (k1 + k2) * (k1 + k2) = k3 at v5
    have b5 := Int.emod_nonneg k3 (show (99999999829 : Int) ≠ 0 by decide)
    have b6 := Int.emod_lt_of_pos k3 (show (0 : Int) < 99999999829 by decide)
    generalize k3 % 99999999829 = k4 at v5 b5 b6
    have s5 : cAsg (.nm 4) (cBin gMod (cBin gMul (cVar 4) (cVar 4)) (cC (.int 99999999829))) [some (pl a b t), some (nt m), none, some (.int t), some (.int (k1 + k2))] = .nx [some (pl a b t), some (nt m), none, some (.int t), some (.int k4)] := asg_ok (i := 4) v5
    have v6 := mod_ok (div_ok (mod_ok (mul_ok (f4 k4) (add_ok (f4 k4) (cc 11 _)) (mulOk_l (by omega))) (cc 99999999821 _) (by decide)) (cc 53 _) (by decide) (by decide)) (cvar_at (i := 1) (d := nt m) rfl rfl) (by omega)
    obtain ⟨q, eq, hq⟩ := emod_nt (k4 * (k4 + 11) % 99999999821 / 53) m hm
    rw [eq] at v6
    refine ⟨q, pl a b t, ?_, hq, a, b, t, rfl, by omega, by omega⟩
    have fin : f__law_take [some (pl a b c), some (nt m), none, none, none] = .rt (.val (nt q)) [some (pl a b t), some (nt m), none, some (.int t), some (.int k4)] := (seq_nx (ifs_not i1 rfl)).trans ((seq_nx s1).trans ((seq_nx s2).trans ((seq_nx s3).trans ((seq_nx s4).trans ((seq_nx s5).trans (ret_ok v6))))))
    show (match f__law_take [some (pl a b c), some (nt m), none, none, none] with | .rt (.val d) r => (match r[0]? with | some (some d0') => MO.ok d d0' | _ => .bad) | .rt (.loc i) r => _ | .nx r => _ | _ => _) = _
    rw [fin]
    rfl
theorem takeQ {r r1 : Rho} {i : Nat} {d : D} {n m : Nat} {fa : Ev} (h : r1[i]? = some (some d)) (hp : Pool d n) (hn : n < 999999) (ha : fa r = .ok (.val (nt m)) r1) (hx : cVar i r = .ok (.loc i) r) (hm : 0 < m) (hm2 : m < 1000000) : ∃ (v : Nat) (d' : D), cCallQ 0 1 F__law_take (cCons (cVar i) (cCons (cSet fa) cNil)) r = .ok (.val (nt v)) (r1.set i (some d')) ∧ v < m ∧ Pool d' (n + 1) := by
  obtain ⟨v, d', e, h1, h2⟩ := take_ok hp hn m hm hm2
  exact ⟨v, d', callQ_loc (xs := [.loc i, .val (nt m)]) (rest := [.val (nt m)]) (ds1 := []) (ds2 := [nt m]) (cons_ok hx (cons_ok (set_val ha) (nil_ok _))) rfl rfl rfl rfl h e, h1, h2⟩
theorem Pool.var {r : Rho} {i : Nat} {d : D} {n : Nat} (hp : Pool d n) (h : r[i]? = some (some d)) : cVar i r = .ok (.loc i) r := by
  obtain ⟨a, b, c, e, _, _⟩ := hp
  subst e
  exact cvar_loc h rfl
theorem pool_ok (ns : List Int) (k : Nat) : ∃ d, F__law_pool [script ns, nt k] = .ok d ∧ Pool d (7 * k) ∧ noL d = true := by
  have s1 : cAsg (.nm 2) (cC (.int 0)) (startR 3 [script ns, nt k]) = .nx [some (script ns), some (nt k), some (.int 0)] := rfl
  have le := len_at (r := [some (script ns), some (nt k), some (.int 0)]) (i := 0) (k := .rd) (o := false) (xs := ns.map .int) rfl (.inr (.inl rfl))
  rw [List.length_map] at le
  have c := lt_nt (cvar_at (r := [some (script ns), some (nt k), some (.int 0)]) (i := 1) (d := nt k) rfl rfl) le
  obtain ⟨v, s2⟩ : ∃ v, cIfS (cBin gLt (cVar 1) (cB (b1 lenD) (cCons (cVar 0) cNil))) (cAsg (.nm 2) (cBin gIx (cVar 0) (cVar 1))) cSkip [some (script ns), some (nt k), some (.int 0)] = .nx [some (script ns), some (nt k), some (.int v)] := by
    by_cases h : k < ns.length
    · rw [decide_eq_true h] at c
      exact ⟨_, ifs_yes c (asg_ok (i := 2) (rd_at rfl (cvar_at rfl rfl) h))⟩
    · rw [decide_eq_false h] at c
      exact ⟨_, ifs_not c rfl⟩
  have ev : cVar 2 [some (script ns), some (nt k), some (.int v)] = .ok (.val (.int v)) [some (script ns), some (nt k), some (.int v)] := rfl
  have ek : cVar 1 [some (script ns), some (nt k), some (.int v)] = .ok (.val (.int (k : Int))) [some (script ns), some (nt k), some (.int v)] := rfl
  have l := lst_ok (ds := [.int (v / 2), .int (v % 2), .int (7 * (k : Int))]) (cons_ok (set_val (div_ok ev (cc 2 _) (by decide) (by decide))) (cons_ok (set_val (mod_ok ev (cc 2 _) (by decide))) (cons_ok (set_val (mul_ok (cc 7 _) ek (mulOk_l (by decide)))) (nil_ok _)))) rfl (by simp)
  exact ⟨_, runF_ok ((seq_nx s1).trans ((seq_nx s2).trans (ret_ok l))) rfl, ⟨_, _, _, rfl, by omega, by omega⟩, rfl⟩
theorem runQ_ok {q n : Nat} {f : Sv} {d0 d d0' : D} {ds : List D} {r : Rho} (h : f (startR n (putQ q d0 ds)) = .rt (.val d) r) (h2 : r[q]? = some (some d0')) : runQ q n f d0 ds = .ok d d0' := by
  unfold runQ
  rw [h]
  show (match r[q]? with | some (some d0') => MO.ok d d0' | _ => .bad) = _
  rw [h2]
theorem runQ_loc {q n i : Nat} {f : Sv} {d0 d d0' : D} {ds : List D} {r : Rho} (h : f (startR n (putQ q d0 ds)) = .rt (.loc i) r) (hi : i ≠ q) (h1 : r[i]? = some (some d)) (h2 : r[q]? = some (some d0')) : runQ q n f d0 ds = .ok d d0' := by
  unfold runQ
  rw [h]
  show (if i = q then MO.bad else (match opd r (.loc i), r[q]? with | some d, some (some d0') => MO.ok d d0' | _, _ => .bad)) = _
  rw [if_neg hi, opd_loc' h1, h2]
theorem runQ_nx {q n : Nat} {f : Sv} {d0 d0' : D} {ds : List D} {r : Rho} (h : f (startR n (putQ q d0 ds)) = .nx r) (h2 : r[q]? = some (some d0')) : runQ q n f d0 ds = .ok .non d0' := by
  unfold runQ
  rw [h]
  show (match r[q]? with | some (some d0') => MO.ok .non d0' | _ => .bad) = _
  rw [h2]
theorem mul_nt {fa fb : Ev} {r r1 r2 : Rho} {i j : Nat} (h1 : fa r = .ok (.val (nt i)) r1) (h2 : fb r1 = .ok (.val (nt j)) r2) (hi : i < 1000000) : cBin gMul fa fb r = .ok (.val (nt (i * j))) r2 := by
  have e := mul_ok h1 h2 (mulOk_l (by omega))
  rw [← Int.natCast_mul] at e
  exact e
/-- one of some numbers, by their place -/
theorem pickn {fa fk : Ev} {r r1 : Rho} {xs : List Nat} {k : Nat} (h : fa r = .ok (.val (L true xs)) r) (hk : fk r = .ok (.val (nt k)) r1) (hl : k < xs.length) : cBin gIx fa fk r = .ok (.val (nt xs[k])) r1 := by
  have h' : fa r = .ok (.val (.node .lst true ((xs.map fun x => ((x : Nat) : Int)).map .int))) r := by
    rw [h, L, List.map_map]; rfl
  have e := ixd_ok (n := k) h' hk (by simpa using hl)
  rw [e]
  simp
theorem sl_to {r : Rho} {i : Nat} {o : Bool} {xs : List Int} {m : Nat} {fh : Ev} (h : r[i]? = some (some (I o xs))) (hh : fh r = .ok (.val (nt m)) r) : cSl (cVar i) none (some fh) r = .ok (.val (I true (xs.take m))) r := by
  have e := sl_ok (fa := cVar i) (r := r) (lo := none) (hi := some fh) (l := none) (h := some ((m : Nat) : Int)) (k := .lst) (o := o) (xs := xs.map .int) (.inl rfl) (cvar_loc h rfl) (opd_loc' h) (frzs_ints _) (touch_fz h (frzs_ints _)) rfl (fun {k} => by rw [part_ok hh])
  rw [cutD_to, ← List.map_take] at e
  exact e
theorem sl_of {r : Rho} {i : Nat} {o : Bool} {xs : List Int} {m : Nat} {fl : Ev} (h : r[i]? = some (some (I o xs))) (hh : fl r = .ok (.val (nt m)) r) : cSl (cVar i) (some fl) none r = .ok (.val (I true (xs.drop m))) r := by
  have e := sl_ok (fa := cVar i) (r := r) (lo := some fl) (hi := none) (l := some ((m : Nat) : Int)) (h := none) (k := .lst) (o := o) (xs := xs.map .int) (.inl rfl) (cvar_loc h rfl) (opd_loc' h) (frzs_ints _) (touch_fz h (frzs_ints _)) (fun {k} => by rw [part_ok hh]) rfl
  rw [cutD_of, ← List.map_drop] at e
  exact e
theorem sl_in {r : Rho} {i : Nat} {o : Bool} {xs : List Int} {m n : Nat} {fl fh : Ev} (h : r[i]? = some (some (I o xs))) (h1 : fl r = .ok (.val (nt m)) r) (h2 : fh r = .ok (.val (nt n)) r) : cSl (cVar i) (some fl) (some fh) r = .ok (.val (I true ((xs.drop m).take (n - m)))) r := by
  have e := sl_ok (fa := cVar i) (r := r) (lo := some fl) (hi := some fh) (l := some ((m : Nat) : Int)) (h := some ((n : Nat) : Int)) (k := .lst) (o := o) (xs := xs.map .int) (.inl rfl) (cvar_loc h rfl) (opd_loc' h) (frzs_ints _) (touch_fz h (frzs_ints _)) (fun {k} => by rw [part_ok h1]) (fun {k} => by rw [part_ok h2])
  rw [cutD_some, ← List.map_drop, ← List.map_take] at e
  exact e
theorem slv_to {r r1 : Rho} {fa : Ev} {o : Bool} {xs : List Int} {m : Nat} {fh : Ev} (h : fa r = .ok (.val (I o xs)) r1) (hh : fh r1 = .ok (.val (nt m)) r1) : cSl fa none (some fh) r = .ok (.val (I true (xs.take m))) r1 := by
  have e := sl_ok (fa := fa) (r := r) (lo := none) (hi := some fh) (l := none) (h := some ((m : Nat) : Int)) (k := .lst) (o := o) (xs := xs.map .int) (.inl rfl) h rfl (frzs_ints _) rfl rfl (fun {k} => by rw [part_ok hh])
  rw [cutD_to, ← List.map_take] at e
  exact e
/-- the greatest of some numbers -/
def mx : List Nat → Nat
  | [] => 0
  | k :: ks => ks.foldl max k
theorem mx_foldl : ∀ (ks : List Nat) (k : Nat), (ks.map fun x => ((x : Nat) : Int)).foldl max (k : Int) = ((ks.foldl max k : Nat) : Int)
  | [], _ => rfl
  | x :: ks, k => by
    show (ks.map fun x => ((x : Nat) : Int)).foldl max (max (k : Int) (x : Int)) = _
    rw [show max (k : Int) (x : Int) = ((max k x : Nat) : Int) by omega, mx_foldl ks (max k x)]
    rfl
theorem mx_ge : ∀ (ks : List Nat) (k : Nat), k ≤ ks.foldl max k ∧ ∀ x ∈ ks, x ≤ ks.foldl max k
  | [], k => ⟨Nat.le_refl k, fun x hx => by cases hx⟩
  | y :: ks, k => by
    obtain ⟨h1, h2⟩ := mx_ge ks (max k y)
    refine ⟨Nat.le_trans (Nat.le_max_left k y) h1, fun x hx => ?_⟩
    rcases List.mem_cons.mp hx with e | hx
    · rw [e]; exact Nat.le_trans (Nat.le_max_right k y) h1
    · exact h2 x hx
theorem le_mx {ks : List Nat} {x : Nat} (h : x ∈ ks) : x ≤ mx ks := by
  cases ks with
  | nil => cases h
  | cons k ks =>
    rcases List.mem_cons.mp h with e | h
    · rw [e]; exact (mx_ge ks k).1
    · exact (mx_ge ks k).2 x h
theorem mx_le : ∀ {ks : List Nat} {b : Nat}, (∀ x ∈ ks, x ≤ b) → mx ks ≤ b
  | [], _, _ => Nat.zero_le _
  | k :: ks, b, h => by
    have go : ∀ (ks : List Nat) (k : Nat), k ≤ b → (∀ x ∈ ks, x ≤ b) → ks.foldl max k ≤ b := by
      intro ks
      induction ks with
      | nil => exact fun k h _ => h
      | cons y ks ih => exact fun k h1 h2 => ih (max k y) (Nat.max_le.mpr ⟨h1, h2 y List.mem_cons_self⟩) (fun x hx => h2 x (List.mem_cons_of_mem _ hx))
    exact go ks k (h k List.mem_cons_self) (fun x hx => h x (List.mem_cons_of_mem _ hx))
theorem max_ok {fa : Ev} {r r1 : Rho} {ks : List Nat} (h : fa r = .ok (.val (L true ks)) r1) (hk : ks ≠ []) : cB (b1 maxD) (cCons fa cNil) r = .ok (.val (nt (mx ks))) r1 := by
  refine b1_ok h rfl ?_ rfl
  show ((intsOf (ks.map nt)).bind fun ns => (maxL ns).map D.int) = _
  have e : ks.map nt = (ks.map fun x => ((x : Nat) : Int)).map D.int := by rw [List.map_map]; rfl
  rw [e, intsOf_map]
  cases ks with
  | nil => exact absurd rfl hk
  | cons k ks =>
    show some (D.int ((ks.map fun x => ((x : Nat) : Int)).foldl max (k : Int))) = _
    rw [mx_foldl]
    rfl
theorem it_rng3 {fa fb : Ev} {r : Rho} {n c : Nat} (ha : fa r = .ok (.val (.int 0)) r) (hb : fb r = .ok (.val (nt n)) r) (hn : n ≤ 1000000) (hc : 1 ≤ c) (hc2 : c ≤ 1000) : iRng rngI3 (cCons fa (cCons fb (cCons (cC (nt c)) cNil))) r = .ok ((List.range ((n + c - 1) / c)).map fun k => nt (c * k)) r := by
  rw [q_iRng, cons_ok ha (cons_ok hb (cons_ok (show cC (nt c) r = .ok (.val (nt c)) r from rfl) (nil_ok _)))]
  show (if (decide ((c : Int) ≠ 0) && decide ((c : Int).natAbs < 1073741824) && Builtin.Range.small 0 n c) = true then IO.ok (rngD 0 c (turns 0 n c)) r else .bad) = _
  have hs : Builtin.Range.rangeSize 0 n c = (((n + c - 1) / c : Nat) : Int) := by
    unfold Builtin.Range.rangeSize
    rw [if_pos (by omega)]
    by_cases h : n = 0
    · subst h
      rw [if_neg (by decide), show (0 + c - 1) / c = 0 from Nat.div_eq_of_lt (by omega)]
      rfl
    · rw [if_pos (by omega)]
      have e : (n + c - 1) / c = (n - 1) / c + 1 := by rw [show n + c - 1 = n - 1 + c by omega, Nat.add_div_right _ (by omega)]
      rw [e, show ((n : Int) - 0 - 1) = ((n - 1 : Nat) : Int) by omega]
      rfl
  have hle : (n + c - 1) / c ≤ n := by
    rw [Nat.div_le_iff_le_mul_add_pred (by omega)]
    have : n ≤ c * n := Nat.le_mul_of_pos_left n (by omega)
    omega
  have hsm : Builtin.Range.small 0 n c = true := by
    unfold Builtin.Range.small
    rw [hs]
    have f : ∀ z : Int, 0 ≤ z → z < 2000000 → Builtin.Range.rangeFitsLong z = true := fun z h1 h2 => by
      unfold Builtin.Range.rangeFitsLong
      simp
      omega
    rw [f 0 (by decide) (by decide), f n (by omega) (by omega), f c (by omega) (by omega), f _ (Int.natCast_nonneg _) (by omega), if_pos (show (c : Int) > 0 by omega), f ((n : Int) + ((c : Int) - 1)) (by omega) (by omega)]
    simp
  have ht : turns 0 n c = (n + c - 1) / c := by unfold turns; rw [hs, Int.toNat_natCast]
  have hr : rngD 0 c ((n + c - 1) / c) = (List.range ((n + c - 1) / c)).map fun k => nt (c * k) := by
    unfold rngD
    refine List.map_congr_left fun k _ => ?_
    show D.int (0 + (k : Int) * (c : Int)) = D.int ((c * k : Nat) : Int)
    rw [Int.zero_add, Int.natCast_mul, Int.mul_comm]
  have hg : (decide ((c : Int) ≠ 0) && decide ((c : Int).natAbs < 1073741824) && Builtin.Range.small 0 n c) = true := by
    rw [hsm, Bool.and_true, Bool.and_eq_true, decide_eq_true_eq, decide_eq_true_eq]
    omega
  rw [if_pos hg, ht, hr]
theorem it_fz {r : Rho} {i : Nat} {o : Bool} {ds : List D} (h : r[i]? = some (some (.node .lst o ds))) : iLst (cVar i) r = .ok (frzs ds) (r.set i (some (.node .lst false (frzs ds)))) := by
  have e : cSet (cVar i) r = .ok (.val (.node .lst false (frzs ds))) (r.set i (some (.node .lst false (frzs ds)))) := by
    rw [q_set, cvar_loc h rfl, bd_ok]
    show (match opd r (.loc i) with | some d => EO.ok (.val (frz d)) (settle r (.loc i)) | none => .bad) = _
    rw [opd_loc' h, q_settle2, h]
    rfl
  show (match cSet (cVar i) r with | .ok (.val (.node .lst _ ds)) r1 => IO.ok ds r1 | .ok (.val (.node .rd _ ds)) r1 => .ok ds r1 | .exc c r1 => .exc c r1 | _ => .bad) = _
  rw [e]
theorem set_set1 {r : Rho} {v : Nat} {x y : Option D} : (r.set v x).set v y = r.set v y := List.set_set ..
theorem forL_look {v : Nat} {f : Sv} {r0 : Rho} : ∀ (ds : List D), (∀ d ∈ ds, f (r0.set v (some d)) = .nx (r0.set v (some d))) → ∀ x : Option D, ∃ y, forL (.nm v) f ds (r0.set v x) = .nx (r0.set v y)
  | [], _, x => ⟨x, rfl⟩
  | d :: ds, h, x => by
    obtain ⟨y, e⟩ := forL_look ds (fun e he => h e (List.mem_cons_of_mem _ he)) (some d)
    refine ⟨y, (forL_cons (r1 := r0.set v (some d)) ?_ (h d List.mem_cons_self)).trans e⟩
    show some ((r0.set v x).set v (some d)) = _
    rw [List.set_set]
theorem runF_nx {n : Nat} {f : Sv} {ds : List D} {r : Rho} (h : f (startR n ds) = .nx r) : runF n f ds = .ok .non := by
  unfold runF
  rw [h]
end K79

namespace K79
/-! ### numbers by the prime 257, with no program in sight -/
def E (a b : Int) : Prop := a % 257 = b % 257
theorem E.refl (a : Int) : E a a := rfl
theorem E.symm {a b : Int} (h : E a b) : E b a := Eq.symm h
theorem E.trans {a b c : Int} (h : E a b) (h2 : E b c) : E a c := Eq.trans h h2
theorem E.md (a : Int) : E (a % 257) a := Int.emod_emod_of_dvd a (Int.dvd_refl 257)
theorem E.add {a b c d : Int} (h : E a b) (h2 : E c d) : E (a + c) (b + d) := by
  unfold E at *
  rw [Int.add_emod, h, h2, ← Int.add_emod]
theorem E.mul {a b c d : Int} (h : E a b) (h2 : E c d) : E (a * c) (b * d) := by
  unfold E at *
  rw [Int.mul_emod, h, h2, ← Int.mul_emod]
theorem E.sub {a b c d : Int} (h : E a b) (h2 : E c d) : E (a - c) (b - d) := by
  unfold E at *
  rw [Int.sub_emod, h, h2, ← Int.sub_emod]
theorem E.eq {a b : Int} (h : E a b) (h1 : 0 ≤ a) (h2 : a < 257) (h3 : 0 ≤ b) (h4 : b < 257) : a = b := by
  unfold E at h
  omega
/-- what turned_over reckons -/
def inv (n : Int) : Int := (List.range 8).foldl (fun p _ => p * p * n % 257) 1
theorem inv_res : ∀ n : Fin 257, n.val ≠ 0 → ((n.val : Int) * inv (n.val : Int)) % 257 = 1 := by decide +kernel
theorem inv_ok {n : Int} (h1 : 0 < n) (h2 : n < 257) : E (n * inv n) 1 := by
  have := inv_res ⟨n.toNat, by omega⟩ (by show n.toNat ≠ 0; omega)
  have e : ((n.toNat : Nat) : Int) = n := by omega
  show (n * inv n) % 257 = 1 % 257
  rw [show (((⟨n.toNat, by omega⟩ : Fin 257).val : Nat) : Int) = n from e] at this
  rw [this]; rfl
theorem cancel {u v : Int} (hu : ¬ E u 0) (h : E (u * v) 0) : E v 0 := by
  have h0 : u % 257 ≠ 0 := fun z => hu (by unfold E; rw [z]; rfl)
  have hi := inv_ok (n := u % 257) (by omega) (by omega)
  have a : E (u * inv (u % 257)) 1 := ((E.md u).symm.mul (E.refl _)).trans hi
  have b : E (u * inv (u % 257) * v) (1 * v) := a.mul (E.refl v)
  have c : E (u * v * inv (u % 257)) (0 * inv (u % 257)) := h.mul (E.refl _)
  have d : u * inv (u % 257) * v = u * v * inv (u % 257) := by rw [Int.mul_assoc, Int.mul_comm (inv (u % 257)) v, ← Int.mul_assoc]
  rw [Int.one_mul] at b
  rw [Int.zero_mul] at c
  rw [d] at b
  exact b.symm.trans c
/-- polynomials by their coefficients -/
def ev : List Int → Int → Int
  | [], _ => 0
  | c :: cs, x => c + x * ev cs x
def Poly (k : Nat) (g : Int → Int) : Prop := ∃ c : List Int, c.length ≤ k ∧ ∀ x, E (g x) (ev c x)
theorem ev_add : ∀ (c d : List Int), ∃ e : List Int, e.length ≤ max c.length d.length ∧ ∀ x, ev e x = ev c x + ev d x
  | [], d => ⟨d, by simp, fun x => by show ev d x = 0 + ev d x; omega⟩
  | c, [] => ⟨c, by simp, fun x => by show ev c x = ev c x + 0; omega⟩
  | a :: c, b :: d => by
    obtain ⟨e, h1, h2⟩ := ev_add c d
    refine ⟨(a + b) :: e, by simp only [List.length_cons]; omega, fun x => ?_⟩
    show a + b + x * ev e x = a + x * ev c x + (b + x * ev d x)
    rw [h2, Int.mul_add]; omega
theorem ev_smul (a : Int) : ∀ c : List Int, ev (c.map (a * ·)) = fun x => a * ev c x
  | [] => by funext x; show (0 : Int) = a * 0; omega
  | c :: cs => by
    funext x
    show a * c + x * ev (cs.map (a * ·)) x = a * (c + x * ev cs x)
    rw [ev_smul a cs, Int.mul_add, ← Int.mul_assoc, ← Int.mul_assoc, Int.mul_comm x a]
theorem Poly.zero (k : Nat) : Poly k (fun _ => 0) := ⟨[], Nat.zero_le _, fun _ => rfl⟩
theorem Poly.const {k : Nat} (h : 1 ≤ k) (a : Int) : Poly k (fun _ => a) := ⟨[a], h, fun x => by show E a (a + x * 0); rw [Int.mul_zero, Int.add_zero]; rfl⟩
theorem Poly.mono {k m : Nat} {g : Int → Int} (h : Poly k g) (hk : k ≤ m) : Poly m g := by
  obtain ⟨c, h1, h2⟩ := h
  exact ⟨c, by omega, h2⟩
theorem Poly.congr {k : Nat} {g h : Int → Int} (hg : Poly k g) (e : ∀ x, E (h x) (g x)) : Poly k h := by
  obtain ⟨c, h1, h2⟩ := hg
  exact ⟨c, h1, fun x => (e x).trans (h2 x)⟩
theorem Poly.add {k : Nat} {g h : Int → Int} (hg : Poly k g) (hh : Poly k h) : Poly k (fun x => g x + h x) := by
  obtain ⟨c, h1, h2⟩ := hg
  obtain ⟨d, h3, h4⟩ := hh
  obtain ⟨e, h5, h6⟩ := ev_add c d
  exact ⟨e, by omega, fun x => by rw [h6]; exact (h2 x).add (h4 x)⟩
theorem Poly.smul {k : Nat} {g : Int → Int} (hg : Poly k g) (a : Int) : Poly k (fun x => a * g x) := by
  obtain ⟨c, h1, h2⟩ := hg
  exact ⟨c.map (a * ·), by rw [List.length_map]; exact h1, fun x => by rw [ev_smul]; exact (E.refl a).mul (h2 x)⟩
theorem Poly.sub {k : Nat} {g h : Int → Int} (hg : Poly k g) (hh : Poly k h) : Poly k (fun x => g x - h x) :=
  (hg.add (hh.smul (-1))).congr fun x => by
    show E (g x - h x) (g x + -1 * h x)
    rw [show g x - h x = g x + -1 * h x by omega]; rfl
theorem Poly.xmul {k : Nat} {g : Int → Int} (hg : Poly k g) : Poly (k + 1) (fun x => x * g x) := by
  obtain ⟨c, h1, h2⟩ := hg
  exact ⟨0 :: c, by rw [List.length_cons]; omega, fun x => by
    show E (x * g x) (0 + x * ev c x)
    rw [Int.zero_add]
    exact (E.refl x).mul (h2 x)⟩
theorem Poly.lin {k : Nat} {g : Int → Int} (hg : Poly k g) (a : Int) : Poly (k + 1) (fun x => g x * (x - a)) :=
  (hg.xmul.sub ((hg.smul a).mono (Nat.le_succ k))).congr fun x => by
    show E (g x * (x - a)) (x * g x - a * g x)
    rw [Int.mul_sub, Int.mul_comm (g x) x, Int.mul_comm (g x) a]; rfl
/-- divided by x - a -/
theorem ev_div (a : Int) : ∀ c : List Int, ∃ d : List Int, d.length ≤ c.length - 1 ∧ ∀ x, ev c x = (x - a) * ev d x + ev c a
  | [] => ⟨[], Nat.le_refl _, fun x => by show (0 : Int) = (x - a) * 0 + 0; omega⟩
  | c0 :: cs => by
    obtain ⟨d, h1, h2⟩ := ev_div a cs
    by_cases hc : cs = []
    · subst hc
      exact ⟨[], Nat.zero_le _, fun x => by show c0 + x * 0 = (x - a) * 0 + (c0 + a * 0); omega⟩
    · have hp : 0 < cs.length := List.length_pos_iff.mpr hc
      refine ⟨ev cs a :: d, by simp only [List.length_cons]; omega, fun x => ?_⟩
      show c0 + x * ev cs x = (x - a) * (ev cs a + x * ev d x) + (c0 + a * ev cs a)
      rw [h2 x, Int.mul_add, Int.mul_add, Int.sub_mul x a (ev cs a), ← Int.mul_assoc x (x - a), ← Int.mul_assoc (x - a) x, Int.mul_comm x (x - a)]
      omega
theorem Poly.root {k : Nat} {g : Int → Int} (hg : Poly (k + 1) g) (a : Int) (h : E (g a) 0) : ∃ q, Poly k q ∧ ∀ x, E (g x) ((x - a) * q x) := by
  obtain ⟨c, h1, h2⟩ := hg
  obtain ⟨d, h3, h4⟩ := ev_div a c
  refine ⟨ev d, ⟨d, by omega, fun _ => rfl⟩, fun x => (h2 x).trans ?_⟩
  rw [h4 x]
  have : E (ev c a) 0 := (h2 a).symm.trans h
  have z := (E.refl ((x - a) * ev d x)).add this
  rw [Int.add_zero] at z
  exact z
/-- so many roots: nothing at all -/
theorem Poly.none : ∀ (as : List Int) (g : Int → Int), Poly as.length g → as.Pairwise (fun a b => ¬ E a b) → (∀ a ∈ as, E (g a) 0) → ∀ x, E (g x) 0
  | [], g, ⟨c, h1, h2⟩, _, _, x => by
    have : c = [] := List.length_eq_zero_iff.mp (Nat.le_zero.mp h1)
    subst this
    exact h2 x
  | a :: as, g, hg, hp, hr, x => by
    obtain ⟨q, hq, e⟩ := hg.root a (hr a List.mem_cons_self)
    have hp2 := List.pairwise_cons.mp hp
    have z := Poly.none as q hq hp2.2 (fun b hb => by
      have h0 := (e b).symm.trans (hr b (List.mem_cons_of_mem _ hb))
      refine cancel (fun z => hp2.1 b hb ?_) h0
      have := z.add (E.refl a)
      rw [Int.zero_add, Int.sub_add_cancel] at this
      exact this.symm) x
    have y := (E.refl (x - a)).mul z
    rw [Int.mul_zero] at y
    exact (e x).trans y
/-- the step from one to the next -/
theorem Poly.diff : ∀ (k : Nat) (c : List Int), c.length ≤ k + 1 → Poly k (fun x => ev c (x + 1) - ev c x)
  | k, [], _ => (Poly.zero k).congr fun x => by show E (0 - 0) 0; rfl
  | 0, c0 :: cs, h => by
    have : cs = [] := List.length_eq_zero_iff.mp (by rw [List.length_cons] at h; omega)
    subst this
    refine (Poly.zero 0).congr fun x => ?_
    show E (c0 + (x + 1) * 0 - (c0 + x * 0)) 0
    rw [Int.mul_zero, Int.mul_zero, Int.sub_self]; rfl
  | k + 1, c0 :: cs, h => by
    rw [List.length_cons] at h
    have d := Poly.diff k cs (by omega)
    have e : Poly (k + 1) (ev cs) := ⟨cs, by omega, fun _ => rfl⟩
    refine ((d.xmul.add (d.mono (Nat.le_succ k))).add e).congr fun x => ?_
    show E (c0 + (x + 1) * ev cs (x + 1) - (c0 + x * ev cs x)) (x * (ev cs (x + 1) - ev cs x) + (ev cs (x + 1) - ev cs x) + ev cs x)
    rw [Int.mul_sub, Int.add_mul, Int.one_mul, show c0 + (x * ev cs (x + 1) + ev cs (x + 1)) - (c0 + x * ev cs x) = x * ev cs (x + 1) - x * ev cs x + (ev cs (x + 1) - ev cs x) + ev cs x by omega]
    rfl
theorem Poly.step {k : Nat} {g : Int → Int} (hg : Poly (k + 1) g) : Poly k (fun x => g (x + 1) - g x) := by
  obtain ⟨c, h1, h2⟩ := hg
  exact (Poly.diff k c h1).congr fun x => (h2 (x + 1)).sub (h2 x)
/-! ### shares -/
/-- the product of the differences to all places but one -/
def prodO (p : Int) (ps : List Int) (x : Int) : Int := ps.foldl (fun a o => if o ≠ p then a * (x - o) % 257 else a) 1
theorem prodO_from (p x : Int) : ∀ (ps : List Int) (a : Int), E (ps.foldl (fun a o => if o ≠ p then a * (x - o) % 257 else a) a) (a * prodO p ps x)
  | [], a => by show E a (a * 1); rw [Int.mul_one]; rfl
  | o :: ps, a => by
    have z := prodO_from p x ps (if o ≠ p then a * (x - o) % 257 else a)
    have y := prodO_from p x ps (if o ≠ p then 1 * (x - o) % 257 else 1)
    refine E.trans z ?_
    show E ((if o ≠ p then a * (x - o) % 257 else a) * prodO p ps x) (a * prodO p (o :: ps) x)
    have y : E (prodO p (o :: ps) x) ((if o ≠ p then 1 * (x - o) % 257 else 1) * prodO p ps x) := y
    refine E.trans ?_ ((E.refl a).mul y.symm)
    by_cases h : o ≠ p
    · rw [if_pos h, if_pos h, Int.one_mul]
      refine ((E.md _).mul (E.refl _)).trans ?_
      rw [Int.mul_assoc]
      exact (E.refl a).mul ((E.md _).symm.mul (E.refl _))
    · rw [if_neg h, if_neg h, Int.one_mul]; rfl
theorem prodO_cons (p x o : Int) (ps : List Int) : E (prodO p (o :: ps) x) ((if o ≠ p then x - o else 1) * prodO p ps x) := by
  have y : E (prodO p (o :: ps) x) ((if o ≠ p then 1 * (x - o) % 257 else 1) * prodO p ps x) := prodO_from p x ps _
  refine y.trans (E.mul ?_ (E.refl _))
  by_cases h : o ≠ p
  · rw [if_pos h, if_pos h, Int.one_mul]; exact E.md _
  · rw [if_neg h, if_neg h]; rfl
theorem prodO_lo (p x : Int) (ps : List Int) : 0 ≤ prodO p ps x ∧ prodO p ps x < 257 := by
  have go : ∀ (ps : List Int) (a : Int), 0 ≤ a ∧ a < 257 → 0 ≤ ps.foldl (fun a o => if o ≠ p then a * (x - o) % 257 else a) a ∧ ps.foldl (fun a o => if o ≠ p then a * (x - o) % 257 else a) a < 257 := by
    intro ps
    induction ps with
    | nil => exact fun a h => h
    | cons o ps ih =>
      intro a h
      refine ih _ ?_
      show 0 ≤ (if o ≠ p then a * (x - o) % 257 else a) ∧ (if o ≠ p then a * (x - o) % 257 else a) < 257
      by_cases ho : o ≠ p
      · rw [if_pos ho]; omega
      · rw [if_neg ho]; exact h
  exact go ps 1 (by decide)
theorem prodO_none {p x : Int} : ∀ {ps : List Int}, (∀ o ∈ ps, o ≠ p → ¬ E x o) → ¬ E (prodO p ps x) 0
  | [], _, h => by
    have h : (1 : Int) % 257 = 0 % 257 := h
    exact absurd h (by decide)
  | o :: ps, ho, h => by
    have z := (prodO_cons p x o ps).symm.trans h
    have ih := prodO_none (p := p) (x := x) (ps := ps) fun q hq => ho q (List.mem_cons_of_mem _ hq)
    by_cases hp : o ≠ p
    · rw [if_pos hp] at z
      refine ih (cancel (fun y => ho o List.mem_cons_self hp ?_) z)
      have := y.add (E.refl o)
      rw [Int.zero_add, Int.sub_add_cancel] at this
      exact this
    · rw [if_neg hp, Int.one_mul] at z
      exact ih z
theorem prodO_zero {p x : Int} : ∀ {ps : List Int}, (∃ o ∈ ps, o ≠ p ∧ E x o) → E (prodO p ps x) 0
  | [], h => by obtain ⟨o, ho, _⟩ := h; cases ho
  | o :: ps, h => by
    obtain ⟨q, hq, h1, h2⟩ := h
    refine (prodO_cons p x o ps).trans ?_
    rcases List.mem_cons.mp hq with e | hq
    · subst e
      rw [if_pos h1]
      have z : E (x - q) 0 := by
        have := h2.sub (E.refl q)
        rw [Int.sub_self] at this
        exact this
      have y := z.mul (E.refl (prodO p ps x))
      rw [Int.zero_mul] at y
      exact y
    · have z := prodO_zero (p := p) (x := x) ⟨q, hq, h1, h2⟩
      have y := (E.refl (if o ≠ p then x - o else 1)).mul z
      rw [Int.mul_zero] at y
      exact y
theorem prodO_poly (p : Int) : ∀ (ps : List Int), Poly ((ps.filter (· ≠ p)).length + 1) (fun x => prodO p ps x)
  | [] => Poly.const (by simp) 1
  | o :: ps => by
    have ih := prodO_poly p ps
    by_cases h : o ≠ p
    · rw [List.filter_cons_of_pos (by simpa using h), List.length_cons]
      refine (ih.lin o).congr fun x => ?_
      have z := prodO_cons p x o ps
      rw [if_pos h, Int.mul_comm] at z
      exact z
    · rw [List.filter_cons_of_neg (by simpa using h)]
      refine ih.congr fun x => ?_
      have z := prodO_cons p x o ps
      rw [if_neg h, Int.one_mul] at z
      exact z
def share (ps : List Int) (x p : Int) : Int := prodO p ps x * inv (prodO p ps p) % 257
def lagS (ps all : List Int) (y : Int → Int) (x : Int) : Int := (ps.map fun p => share all x p * y p).sum
theorem lagS_cons (p : Int) (ps all : List Int) (y : Int → Int) (x : Int) : lagS (p :: ps) all y x = share all x p * y p + lagS ps all y x := by
  unfold lagS; rw [List.map_cons, List.sum_cons]
/-- as polynomials -/
theorem lag_poly (all : List Int) (k : Nat) (y : Int → Int) : ∀ (ps : List Int), (∀ p ∈ ps, (all.filter (· ≠ p)).length + 1 ≤ k) → Poly k (lagS ps all y)
  | [], _ => (Poly.zero k).congr fun x => rfl
  | p :: ps, h => by
    have h1 := (prodO_poly p all).mono (h p List.mem_cons_self)
    refine ((h1.smul (inv (prodO p all p) * y p)).add (lag_poly all k y ps fun q hq => h q (List.mem_cons_of_mem _ hq))).congr fun x => ?_
    show E (lagS (p :: ps) all y x) (inv (prodO p all p) * y p * prodO p all x + lagS ps all y x)
    rw [lagS_cons]
    refine E.add ?_ (E.refl _)
    refine ((E.md _).mul (E.refl _)).trans ?_
    rw [Int.mul_assoc, Int.mul_comm (prodO p all x)]
    rfl
theorem filter_ne {p : Int} : ∀ {ps : List Int}, ps.Pairwise (fun a b => ¬ E a b) → p ∈ ps → (ps.filter (· ≠ p)).length + 1 ≤ ps.length
  | [], _, h => by cases h
  | o :: ps, hp, h => by
    have hp2 := List.pairwise_cons.mp hp
    rcases List.mem_cons.mp h with e | h
    · subst e
      rw [List.filter_cons_of_neg (by simp), List.length_cons]
      have := List.length_filter_le (fun x => decide (x ≠ p)) ps
      omega
    · have ho : o ≠ p := fun z => hp2.1 p h (by rw [z]; rfl)
      rw [List.filter_cons_of_pos (by simpa using ho), List.length_cons, List.length_cons]
      have := filter_ne hp2.2 h
      omega
/-- at the places themselves -/
theorem lag_node {all : List Int} (hp : all.Pairwise (fun a b => ¬ E a b)) (y : Int → Int) {q : Int} (hq : q ∈ all) : ∀ (ps : List Int), (∀ p ∈ ps, p ∈ all) → ps.Pairwise (fun a b => ¬ E a b) → E (lagS ps all y q) (if q ∈ ps then y q else 0)
  | [], _, _ => by show E 0 (if q ∈ [] then y q else 0); rw [if_neg (fun z => by cases z)]; rfl
  | p :: ps, hs, hpp => by
    have hp2 := List.pairwise_cons.mp hpp
    have ih := lag_node hp y hq ps (fun r hr => hs r (List.mem_cons_of_mem _ hr)) hp2.2
    have inj : ∀ a ∈ all, ∀ b ∈ all, a ≠ b → ¬ E a b := fun a ha b hb n z => by
      have : ∀ (l : List Int), l.Pairwise (fun a b => ¬ E a b) → a ∈ l → b ∈ l → False := by
        intro l
        induction l with
        | nil => exact fun _ h => by cases h
        | cons c l ihl =>
          intro hpl h1 h2
          have h3 := List.pairwise_cons.mp hpl
          rcases List.mem_cons.mp h1 with e1 | h1
          · rcases List.mem_cons.mp h2 with e2 | h2
            · exact n (e1.trans e2.symm)
            · exact h3.1 b h2 (e1 ▸ z)
          · rcases List.mem_cons.mp h2 with e2 | h2
            · exact h3.1 a h1 (e2 ▸ z.symm)
            · exact ihl h3.2 h1 h2
      exact this all hp ha hb
    rw [lagS_cons]
    by_cases e : q = p
    · subst e
      rw [if_pos List.mem_cons_self]
      have nq : q ∉ ps := fun h => hp2.1 q h rfl
      rw [if_neg nq] at ih
      have h0 : ¬ E (prodO q all q) 0 := prodO_none fun o ho n => inj q hq o ho (Ne.symm n)
      have lo := prodO_lo q q all
      have h1 : prodO q all q ≠ 0 := fun z => h0 (by rw [z]; rfl)
      have h2 := inv_ok (n := prodO q all q) (by omega) (by omega)
      have z := ((E.md (prodO q all q * inv (prodO q all q))).trans h2).mul (E.refl (y q))
      have y2 := z.add ih
      rw [Int.one_mul, Int.add_zero] at y2
      exact y2
    · have h0 : E (prodO p all q) 0 := prodO_zero ⟨q, hq, e, rfl⟩
      have h1 : E (share all q p) 0 := by
        have := h0.mul (E.refl (inv (prodO p all p)))
        rw [Int.zero_mul] at this
        exact (E.md _).trans this
      have z := (h1.mul (E.refl (y p))).add ih
      rw [Int.zero_mul, Int.zero_add] at z
      have hi : (if q ∈ p :: ps then y q else 0) = (if q ∈ ps then y q else 0) := by
        by_cases h : q ∈ ps
        · rw [if_pos h, if_pos (List.mem_cons_of_mem _ h)]
        · rw [if_neg h, if_neg (fun w => by rcases List.mem_cons.mp w with w | w; exact e w; exact h w)]
      rw [hi]
      exact z
/-- a polynomial is told by its worths at so many places -/
theorem lag_is {all : List Int} (hp : all.Pairwise (fun a b => ¬ E a b)) {f : Int → Int} (hf : Poly all.length f) (x : Int) : E (lagS all all f x) (f x) := by
  have h1 := (lag_poly all all.length f all fun p h => filter_ne hp h).sub hf
  have z := Poly.none all _ h1 hp (fun a ha => by
    have n := lag_node hp f ha all (fun _ h => h) hp
    rw [if_pos ha] at n
    have := n.sub (E.refl (f a))
    rw [Int.sub_self] at this
    exact this) x
  have y := z.add (E.refl (f x))
  rw [Int.zero_add] at y
  have e : lagS all all f x - f x + f x = lagS all all f x := by omega
  have y : E (lagS all all f x - f x + f x) (f x) := y
  rw [e] at y
  exact y
end K79

namespace K79
open PySem PySem.Spec PyProof.Rows L2 VL
/-! ### turned_over, shares_at, row_at -/
noncomputable abbrev bodyTO : Sv := (cAsg (.nm 1) (cBin gMod (cBin gMul (cBin gMul (cVar 1) (cVar 1)) (cVar 0)) (cC (.int 257))))
theorem to_loop (n : Int) (h0 : 0 ≤ n) (h1 : n < 257) : ∀ (ks : List Nat) (p : Int) (u : Option D), 0 ≤ p → p < 257 → ∃ u', forL (.nm 2) bodyTO (ks.map nt) [some (.int n), some (.int p), u] = .nx [some (.int n), some (.int (ks.foldl (fun p _ => p * p * n % 257) p)), u']
  | [], p, u, _, _ => ⟨u, rfl⟩
  | k :: ks, p, u, hp, hp2 => by
    obtain ⟨u', e⟩ := to_loop n h0 h1 ks (p * p * n % 257) (some (nt k)) (by omega) (by omega)
    have v1 := cvar_at (r := [some (.int n), some (.int p), some (nt k)]) (i := 1) (d := .int p) rfl rfl
    have st := asg_ok (i := 1) (mod_ok (mul_ok (mul_ok v1 v1 (mulOk_l (by omega))) (cvar_at (i := 0) (d := .int n) rfl rfl) (mulOk_r (by omega))) (cc 257 _) (by decide))
    exact ⟨u', (forL_cons (r1 := [some (.int n), some (.int p), some (nt k)]) rfl st).trans e⟩
theorem turned_ok (n : Int) (h0 : 0 ≤ n) (h1 : n < 257) : F_turned_over [.int n] = .ok (.int (inv n)) := by
  have s1 : cAsg (.nm 1) (cC (.int 1)) (startR 3 [.int n]) = .nx [some (.int n), some (.int 1), none] := rfl
  obtain ⟨u', e⟩ := to_loop n h0 h1 (List.range 8) 1 none (by decide) (by decide)
  have it := it_rng (fa := cC (.int 8)) (r := [some (.int n), some (.int 1), none]) (n := 8) rfl (by decide)
  exact runF_ok ((seq_nx s1).trans ((seq_nx (for_ok it e)).trans (ret_ok (cvar_at (i := 1) (d := .int (inv n)) rfl rfl)))) rfl
noncomputable abbrev bodyO : Sv := (cIfS (cBin gNe (cVar 6) (cVar 3)) (cSeq (cAsg (.nm 4) (cBin gMod (cBin gMul (cVar 4) (cBin VL.gSub (cVar 1) (cVar 6))) (cC (.int 257))))
  (cAsg (.nm 5) (cBin gMod (cBin gMul (cVar 5) (cBin VL.gSub (cVar 3) (cVar 6))) (cC (.int 257))))) cSkip)
noncomputable abbrev Ws (ps : List Int) (x : Int) (fo : List Int) (p a b : Int) (u : Option D) : Rho := [some (I false ps), some (.int x), some (I true fo), some (.int p), some (.int a), some (.int b), u]
def stepO (p x : Int) : Int → Int → Int := fun a o => if o ≠ p then a * (x - o) % 257 else a
theorem o_loop (ps : List Int) (x : Int) (fo : List Int) (p : Int) : ∀ (os : List Int) (a b : Int) (u : Option D), 0 ≤ a → a < 257 → 0 ≤ b → b < 257 → ∃ u', forL (.nm 6) bodyO (os.map .int) (Ws ps x fo p a b u) = .nx (Ws ps x fo p (os.foldl (stepO p x) a) (os.foldl (stepO p p) b) u')
  | [], a, b, u, _, _, _, _ => ⟨u, rfl⟩
  | o :: os, a, b, u, h1, h2, h3, h4 => by
    have b1 : 0 ≤ stepO p x a o ∧ stepO p x a o < 257 := by
      unfold stepO
      by_cases h : o ≠ p
      · rw [if_pos h]; omega
      · rw [if_neg h]; omega
    have b2 : 0 ≤ stepO p p b o ∧ stepO p p b o < 257 := by
      unfold stepO
      by_cases h : o ≠ p
      · rw [if_pos h]; omega
      · rw [if_neg h]; omega
    obtain ⟨u', e⟩ := o_loop ps x fo p os (stepO p x a o) (stepO p p b o) (some (.int o)) b1.1 b1.2 b2.1 b2.2
    have g := ne_ok (cvar_at (r := Ws ps x fo p a b (some (.int o))) (i := 6) (d := .int o) rfl rfl) (cvar_at (i := 3) (d := .int p) rfl rfl)
    have st : bodyO (Ws ps x fo p a b (some (.int o))) = .nx (Ws ps x fo p (stepO p x a o) (stepO p p b o) (some (.int o))) := by
      by_cases h : o = p
      · rw [decide_eq_true h] at g
        have e1 : stepO p x a o = a := if_neg (by simpa using h)
        have e2 : stepO p p b o = b := if_neg (by simpa using h)
        rw [e1, e2]
        exact ifs_not g rfl
      · rw [decide_eq_false h] at g
        have e1 : stepO p x a o = a * (x - o) % 257 := if_pos h
        have e2 : stepO p p b o = b * (p - o) % 257 := if_pos h
        rw [e1, e2]
        have t1 : cAsg (.nm 4) (cBin gMod (cBin gMul (cVar 4) (cBin VL.gSub (cVar 1) (cVar 6))) (cC (.int 257))) (Ws ps x fo p a b (some (.int o))) = .nx (Ws ps x fo p (a * (x - o) % 257) b (some (.int o))) := asg_ok (i := 4) (mod_ok (mul_ok (cvar_at (i := 4) (d := .int a) rfl rfl) (sub_ok (cvar_at (i := 1) (d := .int x) rfl rfl) (cvar_at (i := 6) (d := .int o) rfl rfl)) (mulOk_l (by omega))) (cc 257 _) (by decide))
        have t2 : cAsg (.nm 5) (cBin gMod (cBin gMul (cVar 5) (cBin VL.gSub (cVar 3) (cVar 6))) (cC (.int 257))) (Ws ps x fo p (a * (x - o) % 257) b (some (.int o))) = .nx (Ws ps x fo p (a * (x - o) % 257) (b * (p - o) % 257) (some (.int o))) := asg_ok (i := 5) (mod_ok (mul_ok (cvar_at (i := 5) (d := .int b) rfl rfl) (sub_ok (cvar_at (i := 3) (d := .int p) rfl rfl) (cvar_at (i := 6) (d := .int o) rfl rfl)) (mulOk_l (by omega))) (cc 257 _) (by decide))
        exact ifs_yes g ((seq_nx t1).trans t2)
    exact ⟨u', (forL_cons (r1 := Ws ps x fo p a b (some (.int o))) rfl st).trans e⟩
noncomputable abbrev bodySh : Sv := (cSeq (cAsg (.nm 4) (cC (.int 1)))
  (cSeq (cAsg (.nm 5) (cC (.int 1)))
  (cSeq (cFor (.nm 6) (iLst (cVar 0)) bodyO)
  (cExpr (cApp 2 (cBin gMod (cBin gMul (cVar 4) (cCall 1 F_turned_over (cCons (cVar 5) cNil))) (cC (.int 257))))))))
theorem sh_loop (ps : List Int) (x : Int) : ∀ (qs : List Int) (fo : List Int) (p a b u : Option D), fo.length + qs.length < 100000 → ∃ p' a' b' u', forL (.nm 3) bodySh (qs.map .int) [some (I false ps), some (.int x), some (I true fo), p, a, b, u] = .nx [some (I false ps), some (.int x), some (I true (fo ++ qs.map (share ps x))), p', a', b', u']
  | [], fo, p, a, b, u, _ => ⟨p, a, b, u, by rw [List.map_nil, List.map_nil, List.append_nil]; rfl⟩
  | q :: qs, fo, p, a, b, u, hl => by
    simp only [List.length_cons] at hl
    have s1 : cAsg (.nm 4) (cC (.int 1)) [some (I false ps), some (.int x), some (I true fo), some (.int q), a, b, u] = .nx [some (I false ps), some (.int x), some (I true fo), some (.int q), some (.int 1), b, u] := rfl
    have s2 : cAsg (.nm 5) (cC (.int 1)) [some (I false ps), some (.int x), some (I true fo), some (.int q), some (.int 1), b, u] = .nx (Ws ps x fo q 1 1 u) := rfl
    obtain ⟨u1, e3⟩ := o_loop ps x fo q ps 1 1 u (by decide) (by decide) (by decide) (by decide)
    have it := it_lst (r := Ws ps x fo q 1 1 u) (i := 0) (o := false) rfl (frzs_ints ps)
    have l1 := prodO_lo q x ps
    have l2 := prodO_lo q q ps
    have e3 : forL (.nm 6) bodyO (ps.map .int) (Ws ps x fo q 1 1 u) = .nx (Ws ps x fo q (prodO q ps x) (prodO q ps q) u1) := e3
    have tc := call1 (F := F_turned_over) (cvar_at (r := Ws ps x fo q (prodO q ps x) (prodO q ps q) u1) (i := 5) (d := .int (prodO q ps q)) rfl rfl) rfl (turned_ok _ l2.1 l2.2) rfl
    have s4 : cExpr (cApp 2 (cBin gMod (cBin gMul (cVar 4) (cCall 1 F_turned_over (cCons (cVar 5) cNil))) (cC (.int 257)))) (Ws ps x fo q (prodO q ps x) (prodO q ps q) u1) = .nx (Ws ps x (fo ++ [share ps x q]) q (prodO q ps x) (prodO q ps q) u1) := appI rfl (mod_ok (mul_ok (cvar_at (i := 4) (d := .int (prodO q ps x)) rfl rfl) tc (mulOk_l (by omega))) (cc 257 _) (by decide)) rfl (by omega)
    obtain ⟨p', a', b', u', e5⟩ := sh_loop ps x qs (fo ++ [share ps x q]) (some (.int q)) (some (.int (prodO q ps x))) (some (.int (prodO q ps q))) u1 (by rw [List.length_append, List.length_singleton]; omega)
    refine ⟨p', a', b', u', ?_⟩
    refine (forL_cons (r1 := [some (I false ps), some (.int x), some (I true fo), some (.int q), a, b, u]) rfl ((seq_nx s1).trans ((seq_nx s2).trans ((seq_nx (for_ok it e3)).trans s4)))).trans ?_
    rw [List.map_cons (f := share ps x), show fo ++ (share ps x q :: qs.map (share ps x)) = fo ++ [share ps x q] ++ qs.map (share ps x) by rw [List.append_assoc]; rfl]
    exact e5
theorem shares_ok (ps : List Int) (x : Int) (hl : ps.length < 100000) : F_shares_at [I false ps, .int x] = .ok (I true (ps.map (share ps x))) := by
  have s1 : cAsg (.nm 2) (cLst cNil) (startR 7 [I false ps, .int x]) = .nx [some (I false ps), some (.int x), some (I true []), none, none, none, none] := rfl
  obtain ⟨p', a', b', u', e⟩ := sh_loop ps x ps [] none none none none (by simpa using hl)
  rw [List.nil_append] at e
  have it := it_lst (r := [some (I false ps), some (.int x), some (I true []), none, none, none, none]) (i := 0) (o := false) rfl (frzs_ints ps)
  exact runF_ok ((seq_nx s1).trans ((seq_nx (for_ok it e)).trans (ret_ok (cvar_loc (i := 2) (d := I true (ps.map (share ps x))) rfl rfl)))) rfl
/-- rows at some places: the parts that are there -/
structure At (rd : List D) (js : List Nat) (Y : Nat → List Int) (w : Nat) : Prop where
  row : ∀ j ∈ js, rd[j]? = some (I false (Y j))
  wide : ∀ j ∈ js, (Y j).length = w
def zz (js : List Nat) : List Int := js.map fun j => ((j : Nat) : Int)
def lag (js : List Nat) (Y : Nat → List Int) (x : Int) (c : Nat) : Int := lagS (zz js) (zz js) (fun p => (Y p.toNat).getD c 0) x % 257
theorem sum_v {fa : Ev} {r r1 : Rho} {o : Bool} {xs : List Int} (h : fa r = .ok (.val (I o xs)) r1) : cB (b1 sumD) (cCons fa cNil) r = .ok (.val (.int xs.sum)) r1 := by
  refine b1_ok h rfl ?_ rfl
  show (intsOf (xs.map D.int)).map _ = _
  rw [intsOf_map]; rfl
noncomputable abbrev bodyRA : Sv := (cExpr (cApp 4 (cBin gMod (cB (b1 sumD) (cCons (cLc [6, 7] (.tp [6, 7]) (iRng gZip (cCons (cSet (cVar 3)) (cCons (cSet (cVar 1)) cNil))) none (cBin gMul (cVar 6) (cBin gIx (cBin gIx (cVar 0) (cVar 7)) (cVar 5)))) cNil)) (cC (.int 257)))))
theorem share_lo (ps : List Int) (x p : Int) : 0 ≤ share ps x p ∧ share ps x p < 257 := by unfold share; omega
theorem ra_step (rd : List D) (hf : frzs rd = rd) (js : List Nat) (Y : Nat → List Int) (w : Nat) (hA : At rd js Y w) (hl : js.length < 10000) (x : D) (xi : Int) (o : Bool) (fo : List Int) (hfo : fo.length < 10000) (c : Nat) (hc : c < w) : bodyRA [some (.node .lst false rd), some (I false (zz js)), some x, some (I o ((zz js).map (share (zz js) xi))), some (I true fo), some (nt c), none, none] = .nx [some (.node .lst false rd), some (I false (zz js)), some x, some (I false ((zz js).map (share (zz js) xi))), some (I true (fo ++ [lag js Y xi c])), some (nt c), none, none] := by
  have z := it_zip (fa := cVar 3) (fb := cVar 1) (r := [some (.node .lst false rd), some (I false (zz js)), some x, some (I o ((zz js).map (share (zz js) xi))), some (I true fo), some (nt c), none, none]) (set_loc (i := 3) (o := o) rfl (frzs_ints _)) (set_loc (i := 1) (o := false) rfl (frzs_ints _)) (frzs_ints _) (frzs_ints _)
  have ez : zipD (((zz js).map (share (zz js) xi)).map D.int) ((zz js).map D.int) = js.map fun (j : Nat) => D.node .tup false [.int (share (zz js) xi (j : Int)), nt j] := by
    unfold zipD
    have go : ∀ l : List Nat, List.zipWith (fun d e => D.node .tup false [d, e]) (((zz l).map (share (zz js) xi)).map D.int) ((zz l).map D.int) = l.map fun (j : Nat) => D.node .tup false [.int (share (zz js) xi (j : Int)), nt j] := by
      intro l
      induction l with
      | nil => rfl
      | cons j l ih =>
        show D.node .tup false [.int (share (zz js) xi (j : Int)), nt j] :: List.zipWith (fun d e => D.node .tup false [d, e]) (((zz l).map (share (zz js) xi)).map D.int) ((zz l).map D.int) = _
        rw [ih]; rfl
    exact go js
  rw [ez] at z
  obtain ⟨R0, hR⟩ : ∃ R0 : Rho, [some (.node .lst false rd), some (I false (zz js)), some x, some (I false ((zz js).map (share (zz js) xi))), some (I true fo), some (nt c), none, none] = R0 := ⟨_, rfl⟩
  have lc := lc_all (α := Nat) (enc := fun (j : Nat) => D.node .tup false [.int (share (zz js) xi (j : Int)), nt j]) (g := fun (j : Nat) => D.int (share (zz js) xi (j : Int) * (Y j).getD c 0)) (fe := cBin gMul (cVar 6) (cBin gIx (cBin gIx (cVar 0) (cVar 7)) (cVar 5))) (t := .tp [6, 7]) (vs := [6, 7]) (r0 := [some (.node .lst false rd), some (I false (zz js)), some x, some (I false ((zz js).map (share (zz js) xi))), some (I true fo), some (nt c), none, none]) js z rfl (by omega) (fun j hj => by
    refine ⟨[some (.node .lst false rd), some (I false (zz js)), some x, some (I false ((zz js).map (share (zz js) xi))), some (I true fo), some (nt c), some (.int (share (zz js) xi (j : Int))), some (nt j)], rfl, [some (.node .lst false rd), some (I false (zz js)), some x, some (I false ((zz js).map (share (zz js) xi))), some (I true fo), some (nt c), some (.int (share (zz js) xi (j : Int))), some (nt j)], ?_, rfl⟩
    have i0 := bin_ok (cvar_loc (r := [some (.node .lst false rd), some (I false (zz js)), some x, some (I false ((zz js).map (share (zz js) xi))), some (I true fo), some (nt c), some (.int (share (zz js) xi (j : Int))), some (nt j)]) (i := 0) rfl rfl) (cvar_at (i := 7) (d := nt j) rfl rfl) (ix_fz (i := 0) (o := false) rfl hf (by rw [VL.atI_nat]; exact hA.row j hj) (frz_I false (Y j)))
    have i1 := ixd_ok (o := false) (xs := Y j) (n := c) i0 (cvar_at (i := 5) (d := nt c) rfl rfl) (by rw [hA.wide j hj]; exact hc)
    have eg : (Y j)[c]'(by rw [hA.wide j hj]; exact hc) = (Y j).getD c 0 := by rw [List.getD_eq_getElem?_getD, List.getElem?_eq_getElem (by rw [hA.wide j hj]; exact hc)]; rfl
    rw [eg] at i1
    have lo := share_lo (zz js) xi (j : Int)
    exact set_val (mul_ok (cvar_at (i := 6) (d := .int (share (zz js) xi (j : Int))) rfl rfl) i1 (mulOk_l (by omega))))
  have em : js.map (fun (j : Nat) => D.int (share (zz js) xi (j : Int) * (Y j).getD c 0)) = (js.map fun (j : Nat) => share (zz js) xi (j : Int) * (Y j).getD c 0).map D.int := by rw [List.map_map]; rfl
  rw [em] at lc
  have sm := mod_ok (sum_v lc) (cc 257 _) (by decide)
  have es : (js.map fun (j : Nat) => share (zz js) xi (j : Int) * (Y j).getD c 0).sum % 257 = lag js Y xi c := by
    unfold lag lagS zz
    rw [List.map_map]
    rfl
  rw [es] at sm
  exact appI rfl sm rfl (by omega)
theorem ra_loop (rd : List D) (hf : frzs rd = rd) (js : List Nat) (Y : Nat → List Int) (w : Nat) (hA : At rd js Y w) (hl : js.length < 10000) (x : D) (xi : Int) : ∀ (cs : List Nat) (o : Bool) (fo : List Int) (u : Option D), fo.length + cs.length < 10000 → (∀ c ∈ cs, c < w) → ∃ o' u', forL (.nm 5) bodyRA (cs.map nt) [some (.node .lst false rd), some (I false (zz js)), some x, some (I o ((zz js).map (share (zz js) xi))), some (I true fo), u, none, none] = .nx [some (.node .lst false rd), some (I false (zz js)), some x, some (I o' ((zz js).map (share (zz js) xi))), some (I true (fo ++ cs.map (lag js Y xi))), u', none, none]
  | [], o, fo, u, _, _ => ⟨o, u, by rw [List.map_nil, List.map_nil, List.append_nil]; rfl⟩
  | c :: cs, o, fo, u, hfo, hc => by
    simp only [List.length_cons] at hfo
    obtain ⟨o', u', e⟩ := ra_loop rd hf js Y w hA hl x xi cs false (fo ++ [lag js Y xi c]) (some (nt c)) (by rw [List.length_append, List.length_singleton]; omega) (fun k hk => hc k (List.mem_cons_of_mem _ hk))
    refine ⟨o', u', ?_⟩
    refine (forL_cons (r1 := [some (.node .lst false rd), some (I false (zz js)), some x, some (I o ((zz js).map (share (zz js) xi))), some (I true fo), some (nt c), none, none]) rfl (ra_step rd hf js Y w hA hl x xi o fo (by omega) c (hc c List.mem_cons_self))).trans ?_
    rw [List.map_cons (f := lag js Y xi), show fo ++ (lag js Y xi c :: cs.map (lag js Y xi)) = fo ++ [lag js Y xi c] ++ cs.map (lag js Y xi) by rw [List.append_assoc]; rfl]
    exact e
theorem row_at_ok (rd : List D) (hf : frzs rd = rd) (js : List Nat) (hj : js ≠ []) (Y : Nat → List Int) (w : Nat) (hw : w < 5000) (hA : At rd js Y w) (hl : js.length < 10000) (xi : Int) : F_row_at [.node .lst false rd, I false (zz js), .int xi] = .ok (I true ((List.range w).map (lag js Y xi))) := by
  have zl : (zz js).length = js.length := by unfold zz; rw [List.length_map]
  have sh := shares_ok (zz js) xi (by omega)
  have c1 := call2 (F := F_shares_at) (cvar_loc (r := startR 8 [.node .lst false rd, I false (zz js), .int xi]) (i := 1) (d := I false (zz js)) rfl rfl) (cvar_at (i := 2) (d := .int xi) rfl rfl) rfl rfl (by rw [frz_I]; exact sh) (noL_lints _)
  have s1 : cAsg (.nm 3) (cCall 2 F_shares_at (cCons (cVar 1) (cCons (cVar 2) cNil))) (startR 8 [.node .lst false rd, I false (zz js), .int xi]) = .nx [some (.node .lst false rd), some (I false (zz js)), some (.int xi), some (I true ((zz js).map (share (zz js) xi))), none, none, none, none] := asg_ok (i := 3) c1
  have s2 : cAsg (.nm 4) (cLst cNil) [some (.node .lst false rd), some (I false (zz js)), some (.int xi), some (I true ((zz js).map (share (zz js) xi))), none, none, none, none] = .nx [some (.node .lst false rd), some (I false (zz js)), some (.int xi), some (I true ((zz js).map (share (zz js) xi))), some (I true []), none, none, none] := rfl
  obtain ⟨j0, js', ej⟩ := List.exists_cons_of_ne_nil hj
  have m0 : j0 ∈ js := by rw [ej]; exact List.mem_cons_self
  have i0 := ix_get (r := [some (.node .lst false rd), some (I false (zz js)), some (.int xi), some (I true ((zz js).map (share (zz js) xi))), some (I true []), none, none, none]) (i := 1) (fa := cC (.int 0)) (o := false) (xs := zz js) (n := 0) rfl rfl (by rw [zl, ej]; simp)
  have e0 : (zz js).getD 0 0 = (j0 : Int) := by rw [ej]; rfl
  rw [e0] at i0
  have i1 := bin_ok (cvar_loc (r := [some (.node .lst false rd), some (I false (zz js)), some (.int xi), some (I true ((zz js).map (share (zz js) xi))), some (I true []), none, none, none]) (i := 0) rfl rfl) i0 (ix_fz (i := 0) (o := false) rfl hf (by rw [VL.atI_nat]; exact hA.row j0 m0) (frz_I false (Y j0)))
  have ln : cB (b1 lenD) (cCons (cBin gIx (cVar 0) (cBin gIx (cVar 1) (cC (.int 0)))) cNil) [some (.node .lst false rd), some (I false (zz js)), some (.int xi), some (I true ((zz js).map (share (zz js) xi))), some (I true []), none, none, none] = .ok (.val (nt w)) [some (.node .lst false rd), some (I false (zz js)), some (.int xi), some (I true ((zz js).map (share (zz js) xi))), some (I true []), none, none, none] := by
    refine b1_ok i1 rfl ?_ rfl
    show some (D.int (((Y j0).map D.int).length : Nat)) = _
    rw [List.length_map, hA.wide j0 m0]
  have it := it_rng ln (by omega)
  obtain ⟨o', u', e⟩ := ra_loop rd hf js Y w hA hl (.int xi) xi (List.range w) true [] none (by simp; omega) (fun c hc => List.mem_range.mp hc)
  rw [List.nil_append] at e
  exact runF_ok ((seq_nx s1).trans ((seq_nx s2).trans ((seq_nx (for_ok it e)).trans (ret_ok (cvar_loc (i := 4) (d := I true ((List.range w).map (lag js Y xi))) rfl rfl))))) rfl
/-! ### _law_sizes -/
theorem sizes_ok {d : D} {n : Nat} (hp : Pool d n) (hn : n ≤ 900000) : ∃ (k r : Nat) (d' : D), F__law_sizes d [] = .ok (.node .tup false [nt k, nt r]) d' ∧ 1 ≤ k ∧ k ≤ 64 ∧ r ≤ 16 ∧ Pool d' (n + 7) := by
  obtain ⟨v1, d1, t1, h1, p1⟩ := takeQ (r := [some d, none, none]) (i := 0) (fa := cC (.int 4)) (m := 4) rfl hp (by omega) rfl (hp.var rfl) (by decide) (by decide)
  obtain ⟨v2, d2, t2, h2, p2⟩ := takeQ (r := [some d1, none, none]) (i := 0) (fa := cC (.int 9)) (m := 9) rfl p1 (by omega) rfl (p1.var rfl) (by decide) (by decide)
  obtain ⟨v3, d3, t3, h3, p3⟩ := takeQ (r := [some d2, none, none]) (i := 0) (fa := cC (.int 64)) (m := 64) rfl p2 (by omega) rfl (p2.var rfl) (by decide) (by decide)
  have l1 := lst_ok (ds := [nt v1, nt v2, nt v3]) (cons_ok (set_val t1) (cons_ok (set_val t2) (cons_ok (set_val t3) (nil_ok _)))) rfl (by simp)
  have s1 : cAsg (.nm 1) (cLst (cCons (cSet (cCallQ 0 1 F__law_take (cCons (cVar 0) (cCons (cSet (cC (.int 4))) cNil)))) (cCons (cSet (cCallQ 0 1 F__law_take (cCons (cVar 0) (cCons (cSet (cC (.int 9))) cNil)))) (cCons (cSet (cCallQ 0 1 F__law_take (cCons (cVar 0) (cCons (cSet (cC (.int 64))) cNil)))) cNil)))) [some d, none, none] = .nx [some d3, some (L true [v1, v2, v3]), none] := asg_ok (i := 1) l1
  obtain ⟨v4, d4, t4, h4, p4⟩ := takeQ (r := [some d3, some (L true [v1, v2, v3]), none]) (i := 0) (fa := cC (.int 4)) (m := 4) rfl p3 (by omega) rfl (p3.var rfl) (by decide) (by decide)
  obtain ⟨v5, d5, t5, h5, p5⟩ := takeQ (r := [some d4, some (L true [v1, v2, v3]), none]) (i := 0) (fa := cC (.int 17)) (m := 17) rfl p4 (by omega) rfl (p4.var rfl) (by decide) (by decide)
  have l2 := lst_ok (ds := [nt v4, nt v5]) (cons_ok (set_val t4) (cons_ok (set_val t5) (nil_ok _))) rfl (by simp)
  obtain ⟨v6, d6, t6, h6, p6⟩ := takeQ (r := [some d5, some (L true [v1, v2, v3]), none]) (i := 0) (fa := cC (.int 2)) (m := 2) rfl p5 (by omega) rfl (p5.var rfl) (by decide) (by decide)
  obtain ⟨r, hr, s2⟩ : ∃ r : Nat, r ≤ 16 ∧ cAsg (.nm 2) (cBin gIx (cLst (cCons (cSet (cCallQ 0 1 F__law_take (cCons (cVar 0) (cCons (cSet (cC (.int 4))) cNil)))) (cCons (cSet (cCallQ 0 1 F__law_take (cCons (cVar 0) (cCons (cSet (cC (.int 17))) cNil)))) cNil))) (cCallQ 0 1 F__law_take (cCons (cVar 0) (cCons (cSet (cC (.int 2))) cNil)))) [some d3, some (L true [v1, v2, v3]), none] = .nx [some d6, some (L true [v1, v2, v3]), some (nt r)] := by
    have st : ∀ w : Nat, gIx (.val (.node .lst true [nt v4, nt v5])) (.val (nt v6)) [some d6, some (L true [v1, v2, v3]), none] = .ok (.val (nt w)) [some d6, some (L true [v1, v2, v3]), none] → cAsg (.nm 2) (cBin gIx (cLst (cCons (cSet (cCallQ 0 1 F__law_take (cCons (cVar 0) (cCons (cSet (cC (.int 4))) cNil)))) (cCons (cSet (cCallQ 0 1 F__law_take (cCons (cVar 0) (cCons (cSet (cC (.int 17))) cNil)))) cNil))) (cCallQ 0 1 F__law_take (cCons (cVar 0) (cCons (cSet (cC (.int 2))) cNil)))) [some d3, some (L true [v1, v2, v3]), none] = .nx [some d6, some (L true [v1, v2, v3]), some (nt w)] := fun w h => by
      have e := bin_ok l2 t6 h
      exact asg_ok (i := 2) e
    match v6, h6 with
    | 0, _ => exact ⟨v4, by omega, st v4 rfl⟩
    | 1, _ => exact ⟨v5, by omega, st v5 rfl⟩
  obtain ⟨v7, d7, t7, h7, p7⟩ := takeQ (r := [some d6, some (L true [v1, v2, v3]), some (nt r)]) (i := 0) (fa := cC (.int 8)) (m := 8) rfl p6 (by omega) rfl (p6.var rfl) (by decide) (by decide)
  have q7 := pickn (fa := cLst (cCons (cSet (cC (.int 0))) (cCons (cSet (cC (.int 0))) (cCons (cSet (cC (.int 0))) (cCons (cSet (cC (.int 1))) (cCons (cSet (cC (.int 1))) (cCons (cSet (cC (.int 1))) (cCons (cSet (cC (.int 1))) (cCons (cSet (cC (.int 2))) cNil))))))))) (xs := [0, 0, 0, 1, 1, 1, 1, 2]) rfl t7 (by simpa using h7)
  have b7 : ∀ j (hj : j < [0, 0, 0, 1, 1, 1, 1, 2].length), [0, 0, 0, 1, 1, 1, 1, 2][j] < 3 := by decide
  have b7 := b7 v7 (by simpa using h7)
  generalize [0, 0, 0, 1, 1, 1, 1, 2][v7]'(by simpa using h7) = j at q7 b7
  obtain ⟨k, hk, q8⟩ : ∃ k, k < 64 ∧ cBin gIx (cVar 1) (cBin gIx (cLst (cCons (cSet (cC (.int 0))) (cCons (cSet (cC (.int 0))) (cCons (cSet (cC (.int 0))) (cCons (cSet (cC (.int 1))) (cCons (cSet (cC (.int 1))) (cCons (cSet (cC (.int 1))) (cCons (cSet (cC (.int 1))) (cCons (cSet (cC (.int 2))) cNil))))))))) (cCallQ 0 1 F__law_take (cCons (cVar 0) (cCons (cSet (cC (.int 8))) cNil)))) [some d6, some (L true [v1, v2, v3]), some (nt r)] = .ok (.val (nt k)) [some d7, some (L true [v1, v2, v3]), some (nt r)] := by
    have cv : cVar 1 [some d6, some (L true [v1, v2, v3]), some (nt r)] = .ok (.loc 1) [some d6, some (L true [v1, v2, v3]), some (nt r)] := cvar_loc rfl rfl
    match j, b7 with
    | 0, _ => exact ⟨v1, by omega, bin_ok cv q7 rfl⟩
    | 1, _ => exact ⟨v2, by omega, bin_ok cv q7 rfl⟩
    | 2, _ => exact ⟨v3, by omega, bin_ok cv q7 rfl⟩
  have tp := tup_ok (ds := [nt (1 + k), nt r]) (cons_ok (set_val (add_nt (cc 1 _) q8 (i := 1))) (cons_ok (set_val (cvar_at (r := [some d7, some (L true [v1, v2, v3]), some (nt r)]) (i := 2) (d := nt r) rfl rfl)) (nil_ok _))) rfl (by simp)
  exact ⟨1 + k, r, d7, runQ_ok ((seq_nx s1).trans ((seq_nx s2).trans (ret_ok tp))) rfl, by omega, by omega, hr, p7⟩
/-- a walk with each part in hand, the parts' new forms not told ahead -/
theorem forM_ex {i j : Nat} {f : Sv} {ds : List D} {r : Rho} (P P' : D → Prop) (Inv : Nat → Rho → Prop) (hij : i ≠ j) (hP : ∀ d ∈ ds, P d) (h : r[i]? = some (some (.node .lst true ds))) (hj : j < r.length) (h0 : Inv 0 r)
    (hs : ∀ (k : Nat) (r' : Rho) (d : D) (es : List D), k < ds.length → Inv k r' → P d → r'[i]? = some (some (.node .lst true es)) → es.length = ds.length → j < r'.length → ∃ r2 d', f ((r'.set i (some .any)).set j (some d)) = .nx r2 ∧ j < r2.length ∧ i < r2.length ∧ r2[j]? = some (some d') ∧ P' d' ∧ ∀ es', Inv (k + 1) ((r2.set i (some (.node .lst true es'))).set j (some .any))) :
    ∃ r' es, cForM i j f r = .nx r' ∧ Inv ds.length r' ∧ r'[i]? = some (some (.node .lst true es)) ∧ es.length = ds.length ∧ ∀ d ∈ es, P' d := by
  have go : ∀ (k : Nat) (r' : Rho) (es : List D), k ≤ ds.length → Inv (ds.length - k) r' → r'[i]? = some (some (.node .lst true es)) → es.length = ds.length → (∀ (m : Nat) (d : D), es[m]? = some d → (m < ds.length - k → P' d) ∧ (ds.length - k ≤ m → P d)) → j < r'.length → ∃ r2 es', forM i j ds.length f k r' = .nx r2 ∧ Inv ds.length r2 ∧ r2[i]? = some (some (.node .lst true es')) ∧ es'.length = ds.length ∧ ∀ d ∈ es', P' d := by
    intro k
    induction k with
    | zero =>
      intro r' es _ hi hr hl hp _
      rw [Nat.sub_zero] at hi
      refine ⟨r', es, forM_nil hr hl, hi, hr, hl, fun d hd => ?_⟩
      obtain ⟨m, hm, e⟩ := List.getElem_of_mem hd
      exact (hp m d (by rw [List.getElem?_eq_getElem hm, e])).1 (by omega)
    | succ k ih =>
      intro r' es hk hi hr hl hp hj'
      have hml : ds.length - (k + 1) < es.length := by omega
      obtain ⟨r2, d', e1, e2, e3, e4, e5, e6⟩ := hs (ds.length - (k + 1)) r' es[ds.length - (k + 1)] es (by omega) hi ((hp _ _ (List.getElem?_eq_getElem hml)).2 (Nat.le_refl _)) hr hl hj'
      have st := forM_cons (n := ds.length) (k := k) (f := f) hr hl hj' (List.getElem?_eq_getElem hml) e1
      rw [st]
      have ep : putM i j (ds.length - (k + 1)) es r2 = (r2.set i (some (.node .lst true (es.set (ds.length - (k + 1)) d')))).set j (some .any) := by
        unfold putM partD
        rw [e4]
      rw [ep]
      have hmk : ds.length - k = ds.length - (k + 1) + 1 := by omega
      refine ih _ (es.set (ds.length - (k + 1)) d') (by omega) (by rw [hmk]; exact e6 _) ?_ (by rw [List.length_set]; exact hl) (fun m d hd => ?_) (by simpa using e2)
      · rw [List.getElem?_set_ne (Ne.symm hij), List.getElem?_set_self e3]
      · by_cases hm : m = ds.length - (k + 1)
        · subst hm
          rw [List.getElem?_set_self hml] at hd
          cases hd
          exact ⟨fun _ => e5, fun z => by omega⟩
        · rw [List.getElem?_set_ne (Ne.symm hm)] at hd
          exact ⟨fun z => (hp m d hd).1 (by omega), fun z => (hp m d hd).2 (by omega)⟩
  have st : cForM i j f r = forM i j ds.length f ds.length r := by unfold cForM; rw [h]
  rw [st]
  exact go ds.length r ds (Nat.le_refl _) (by rw [Nat.sub_self]; exact h0) h rfl (fun m d hd => ⟨fun z => by omega, fun _ => hP d (List.mem_of_getElem? hd)⟩) hj
/-! ### lists of rows -/
abbrev M (o o' : Bool) (rows : List (List Int)) : D := .node .lst o (rows.map (I o'))
theorem frzs_M (o : Bool) (rows : List (List Int)) : frzs (rows.map (I o)) = rows.map (I false) := by
  rw [frzs_map, List.map_map]
  exact List.map_congr_left fun b _ => frz_I o b
theorem frz_M (o o' : Bool) (rows : List (List Int)) : frz (M o o' rows) = M false false rows := by
  show D.node .lst false (frzs (rows.map (I o'))) = _
  rw [frzs_M]
theorem noL_M : ∀ rows : List (List Int), noL (M true true rows) = true := fun rows => by
  show (true && noLs (rows.map (I true))) = true
  induction rows with
  | nil => rfl
  | cons row rows ih =>
    show (true && (noL (I true row) && noLs (rows.map (I true)))) = true
    rw [show noL (I true row) = true from noL_lints row]
    exact ih
theorem fp_I (o : Bool) (xs : List Int) : FP 1 (I o xs) := fp_lst (k := 0) fun x hx => by
  obtain ⟨p, _, rfl⟩ := List.mem_map.mp hx
  exact fp_int _ 0
theorem fp_M (o o' : Bool) (rows : List (List Int)) : FP 2 (M o o' rows) := fp_lst (k := 1) fun x hx => by
  obtain ⟨p, _, rfl⟩ := List.mem_map.mp hx
  exact fp_I o' p
theorem toPy_M (o o' p p' : Bool) (rows : List (List Int)) : toPy (M o o' rows) = toPy (M p p' rows) := by
  show PyData.list (toPys (rows.map (I o'))) = PyData.list (toPys (rows.map (I p')))
  rw [toPys_map, toPys_map, List.map_map, List.map_map]
  rfl
theorem of_rows {Q : List Int → Prop} : ∀ {es : List D}, (∀ d ∈ es, ∃ row, d = I true row ∧ Q row) → ∃ rows : List (List Int), es = rows.map (I true) ∧ ∀ row ∈ rows, Q row
  | [], _ => ⟨[], rfl, fun row h => by cases h⟩
  | d :: es, h => by
    obtain ⟨row, e, hq⟩ := h d List.mem_cons_self
    obtain ⟨rows, e2, h2⟩ := of_rows (es := es) fun x hx => h x (List.mem_cons_of_mem _ hx)
    refine ⟨row :: rows, by rw [e, e2]; rfl, fun x hx => ?_⟩
    rcases List.mem_cons.mp hx with z | hx
    · rw [z]; exact hq
    · exact h2 x hx
theorem zz_range (k : Nat) : (List.range k).map nt = (zz (List.range k)).map D.int := by unfold zz; rw [List.map_map]; rfl
theorem take_new {ns : List Int} {r : Rho} {i k m : Nat} {fk : Ev} (h0 : r[i]? = some (some (script ns))) (hk : fk r = .ok (.val (nt k)) r) (hk2 : 7 * k < 900000) (hm : 0 < m) (hm2 : m < 1000000) : ∃ v : Nat, v < m ∧ cCallQ 0 1 F__law_take (cCons (cCall 2 F__law_pool (cCons (cVar i) (cCons fk cNil))) (cCons (cSet (cC (nt m))) cNil)) r = .ok (.val (nt v)) r := by
  obtain ⟨p, ep, hp, nl⟩ := pool_ok ns k
  obtain ⟨v, d', e, h1, _⟩ := take_ok hp (by omega) m hm hm2
  have c1 := call2 (F := F__law_pool) (cvar_loc (i := i) (d := script ns) h0 rfl) hk (opd_loc' h0) rfl (by rw [frz_script]; exact ep) nl
  exact ⟨v, h1, callQ_val (xs := [.val p, .val (nt m)]) (rest := [.val (nt m)]) (ds1 := []) (ds2 := [nt m]) (cons_ok c1 (cons_ok (set_val (show cC (nt m) r = .ok (.val (nt m)) r from rfl)) (nil_ok _))) rfl rfl rfl rfl e⟩
end K79

namespace K79
open PySem PySem.Spec PyProof.Rows L2 VL
def tabl (Y : Nat → List Int) (n : Nat) : List (List Int) := (List.range n).map Y
theorem tabl_len (Y : Nat → List Int) (n : Nat) : (tabl Y n).length = n := by unfold tabl; rw [List.length_map, List.length_range]
theorem tabl_at {Y : Nat → List Int} {n z : Nat} (h : z < n) : (tabl Y n)[z]? = some (Y z) := by unfold tabl; rw [List.getElem?_map, List.getElem?_range h]; rfl
theorem tabl_congr {Y Z : Nat → List Int} {n : Nat} (h : ∀ z < n, Y z = Z z) : tabl Y n = tabl Z n := List.map_congr_left fun z hz => h z (List.mem_range.mp hz)
theorem tabl_set {Y : Nat → List Int} {n x : Nat} {v : List Int} : (tabl Y n).set x v = tabl (fun z => if z = x then v else Y z) n := by
  refine List.ext_getElem? fun z => ?_
  by_cases hz : z < n
  · rw [tabl_at hz]
    by_cases h : z = x
    · subst h
      rw [List.getElem?_set_self (by rw [tabl_len]; exact hz), if_pos rfl]
    · rw [List.getElem?_set_ne (Ne.symm h), tabl_at hz, if_neg h]
  · rw [List.getElem?_eq_none (by rw [List.length_set, tabl_len]; omega), List.getElem?_eq_none (by rw [tabl_len]; omega)]
/-- what the columns are -/
def Cols (k wd : Nat) (H : Nat → Int → Int) : Prop := ∀ c < wd, Poly k (H c) ∧ ∀ x, 0 ≤ H c x ∧ H c x < 257
def rowH (H : Nat → Int → Int) (w : Nat) (z : Nat) : List Int := (List.range w).map fun c => H c (z : Int)
theorem rowH_len (H : Nat → Int → Int) (w z : Nat) : (rowH H w z).length = w := by unfold rowH; rw [List.length_map, List.length_range]
/-! ### rows of which some lack -/
def cell (o : Bool) (th : Nat → Bool) (Y : Nat → List Int) (z : Nat) : D := if th z = true then I o (Y z) else .non
def cells (o : Bool) (th : Nat → Bool) (Y : Nat → List Int) (n : Nat) : List D := (List.range n).map (cell o th Y)
theorem cells_len (o : Bool) (th : Nat → Bool) (Y : Nat → List Int) (n : Nat) : (cells o th Y n).length = n := by unfold cells; rw [List.length_map, List.length_range]
theorem cells_at {o : Bool} {th : Nat → Bool} {Y : Nat → List Int} {n z : Nat} (h : z < n) : (cells o th Y n)[z]? = some (cell o th Y z) := by unfold cells; rw [List.getElem?_map, List.getElem?_range h]; rfl
theorem frz_cell (o : Bool) (th : Nat → Bool) (Y : Nat → List Int) (z : Nat) : frz (cell o th Y z) = cell false th Y z := by
  unfold cell
  by_cases h : th z = true
  · rw [if_pos h, if_pos h, frz_I]
  · rw [if_neg h, if_neg h]; rfl
theorem frzs_cells (o : Bool) (th : Nat → Bool) (Y : Nat → List Int) (n : Nat) : frzs (cells o th Y n) = cells false th Y n := by
  unfold cells
  rw [frzs_map, List.map_map]
  exact List.map_congr_left fun z _ => frz_cell o th Y z
abbrev Ce (o o' : Bool) (th : Nat → Bool) (Y : Nat → List Int) (n : Nat) : D := .node .lst o (cells o' th Y n)
theorem frz_Ce (o o' : Bool) (th : Nat → Bool) (Y : Nat → List Int) (n : Nat) : frz (Ce o o' th Y n) = Ce false false th Y n := by
  show D.node .lst false (frzs (cells o' th Y n)) = _
  rw [frzs_cells]
theorem fp_Ce (o o' : Bool) (th : Nat → Bool) (Y : Nat → List Int) (n : Nat) : FP 2 (Ce o o' th Y n) := fp_lst (k := 1) fun x hx => by
  obtain ⟨z, _, rfl⟩ := List.mem_map.mp hx
  unfold cell
  by_cases h : th z = true
  · rw [if_pos h]; exact fp_I o' _
  · rw [if_neg h]; exact fp_non _
theorem toPy_Ce (o o' p p' : Bool) (th : Nat → Bool) (Y : Nat → List Int) (n : Nat) : toPy (Ce o o' th Y n) = toPy (Ce p p' th Y n) := by
  show PyData.list (toPys (cells o' th Y n)) = PyData.list (toPys (cells p' th Y n))
  unfold cells
  rw [toPys_map, toPys_map, List.map_map, List.map_map]
  congr 1
  refine List.map_congr_left fun z _ => ?_
  show toPy (cell o' th Y z) = toPy (cell p' th Y z)
  unfold cell
  by_cases h : th z = true
  · rw [if_pos h, if_pos h]; rfl
  · rw [if_neg h, if_neg h]
theorem all_there (o : Bool) (Y : Nat → List Int) (n : Nat) : (tabl Y n).map (I o) = cells o (fun _ => true) Y n := by
  unfold tabl cells
  rw [List.map_map]
  exact List.map_congr_left fun z _ => (if_pos rfl).symm
def gone (th : Nat → Bool) : Nat → Nat
  | 0 => 0
  | n + 1 => gone th n + if th n = true then 0 else 1
theorem gone_all (n : Nat) : gone (fun _ => true) n = 0 := by
  induction n with
  | zero => rfl
  | succ n ih => show gone _ n + (if true = true then 0 else 1) = 0; rw [ih]; rfl
def lose (th : Nat → Bool) (v : Nat) : Nat → Bool := fun z => if z = v then false else th z
theorem gone_lose (th : Nat → Bool) (v : Nat) : ∀ n, gone (lose th v) n ≤ gone th n + if v < n then 1 else 0
  | 0 => Nat.zero_le _
  | n + 1 => by
    have ih := gone_lose th v n
    show gone (lose th v) n + (if lose th v n = true then 0 else 1) ≤ gone th n + (if th n = true then 0 else 1) + if v < n + 1 then 1 else 0
    by_cases h : n = v
    · subst h
      have e : lose th n n = false := if_pos rfl
      rw [e]
      rw [if_neg (Nat.lt_irrefl n)] at ih
      rw [if_pos (Nat.lt_succ_self n), if_neg (by decide)]
      omega
    · have e : lose th v n = th n := if_neg h
      rw [e]
      by_cases h2 : v < n
      · rw [if_pos h2] at ih
        rw [if_pos (show v < n + 1 by omega)]
        omega
      · rw [if_neg h2] at ih
        rw [if_neg (show ¬ v < n + 1 by omega)]
        omega
theorem gone_filter (th : Nat → Bool) : ∀ n, ((List.range n).filter th).length + gone th n = n
  | 0 => rfl
  | n + 1 => by
    have ih := gone_filter th n
    rw [List.range_succ, List.filter_append, List.length_append]
    show _ + (gone th n + if th n = true then 0 else 1) = _
    by_cases h : th n = true
    · rw [if_pos h, List.filter_cons_of_pos h]
      simp only [List.filter_nil, List.length_cons, List.length_nil]
      omega
    · rw [if_neg h, List.filter_cons_of_neg h]
      simp only [List.filter_nil, List.length_nil]
      omega
theorem cells_set {o : Bool} {th : Nat → Bool} {Y : Nat → List Int} {n v : Nat} : (cells o th Y n).set v .non = cells o (lose th v) Y n := by
  refine List.ext_getElem? fun z => ?_
  by_cases hz : z < n
  · rw [cells_at hz]
    by_cases h : z = v
    · subst h
      rw [List.getElem?_set_self (by rw [cells_len]; exact hz)]
      show _ = some (if (if z = z then false else th z) = true then I o (Y z) else .non)
      rw [if_pos rfl, if_neg (by decide)]
    · rw [List.getElem?_set_ne (Ne.symm h), cells_at hz]
      show some (if th z = true then I o (Y z) else .non) = some (if (if z = v then false else th z) = true then I o (Y z) else .non)
      rw [if_neg h]
  · rw [List.getElem?_eq_none (by rw [List.length_set, cells_len]; omega), List.getElem?_eq_none (by rw [cells_len]; omega)]
/-! ### need_rows -/
def isR : D → Bool
  | .non => false
  | _ => true
theorem filt_cells (Y : Nat → List Int) (th : Nat → Bool) : ∀ ks : List Nat, ((ks.map (cell false th Y)).filter isR).map id = (ks.filter th).map fun z => I false (Y z)
  | [] => rfl
  | k :: ks => by
    have ih := filt_cells Y th ks
    rw [List.map_cons]
    by_cases h : th k = true
    · have e : cell false th Y k = I false (Y k) := if_pos h
      rw [e, List.filter_cons_of_pos (show isR (I false (Y k)) = true from rfl), List.filter_cons_of_pos h, List.map_cons, List.map_cons, ih]
      rfl
    · have e : cell false th Y k = .non := if_neg h
      rw [e, List.filter_cons_of_neg (show ¬ isR .non = true by decide), List.filter_cons_of_neg h, ih]
structure Good (th : Nat → Bool) (Y : Nat → List Int) (n k w : Nat) : Prop where
  k1 : 1 ≤ k
  k2 : k ≤ 64
  n1 : k ≤ n
  n2 : n ≤ k + 16
  w1 : w < 700
  wide : ∀ z < n, (Y z).length = w
  lo : ∀ z < n, ∀ x ∈ Y z, 0 ≤ x ∧ x < 257
  few : k + gone th n ≤ n
noncomputable abbrev Wn (th : Nat → Bool) (Y : Nat → List Int) (n k : Nat) (rws : List (List Int)) (row nu : Option D) : Rho := [some (Ce false false th Y n), some (nt k), some (M true false rws), row, nu]
theorem need_rows_ok {th : Nat → Bool} {Y : Nat → List Int} {n k w : Nat} (h : Good th Y n k w) : F_need_rows [Ce false false th Y n, nt k] = .ok .non := by
  have it := it_lst (r := startR 5 [Ce false false th Y n, nt k]) (i := 0) (o := false) rfl (frzs_cells false th Y n)
  have hn := h.n2; have hk := h.k2
  have lc := lc_map (t := .nm 3) (fc := some (cBin gIsNot (cVar 3) (cC .non))) (fe := cVar 3) (vs := [3]) (ds := cells false th Y n) (p := isR) (q := id) (r0 := startR 5 [Ce false false th Y n, nt k]) it rfl (by rw [cells_len]; omega) fun d hd => by
    obtain ⟨z, _, rfl⟩ := List.mem_map.mp hd
    unfold cell
    by_cases hz : th z = true
    · rw [if_pos hz]
      exact ⟨_, rfl, _, rfl, rfl, fun _ => ⟨_, set_loc (r := [some (Ce false false th Y n), some (nt k), none, some (I false (Y z)), none]) (i := 3) (o := false) rfl (frzs_ints _), rfl⟩⟩
    · rw [if_neg hz]
      exact ⟨_, rfl, _, rfl, rfl, fun h => nomatch h⟩
  have ef : ((cells false th Y n).filter isR).map id = (((List.range n).filter th).map Y).map (I false) := by
    unfold cells
    rw [filt_cells, List.map_map]
    rfl
  rw [ef] at lc
  have hrow : ∀ row ∈ ((List.range n).filter th).map Y, row.length = w ∧ ∀ x ∈ row, 0 ≤ x ∧ x < 257 := fun row hr => by
    obtain ⟨z, hz, rfl⟩ := List.mem_map.mp hr
    have hz := List.mem_range.mp (List.mem_filter.mp hz).1
    exact ⟨h.wide z hz, h.lo z hz⟩
  generalize ((List.range n).filter th).map Y = rws at lc hrow
  have s1 : cAsg (.nm 2) (cLc [3] (.nm 3) (iLst (cVar 0)) (some (cBin gIsNot (cVar 3) (cC .non))) (cVar 3)) (startR 5 [Ce false false th Y n, nt k]) = .nx (Wn th Y n k rws none none) := asg_ok (i := 2) lc
  have le := len_at (r := Wn th Y n k rws none none) (i := 0) (k := .lst) (o := false) (xs := cells false th Y n) rfl (.inl rfl)
  rw [cells_len] at le
  have ek : cVar 1 (Wn th Y n k rws none none) = .ok (.val (nt k)) (Wn th Y n k rws none none) := rfl
  have c1 := chain_ok (f := fun i j => decide (i ≤ j)) (g := fun i j => decide (i ≤ j)) (cc 1 _) ek (cc 64 _)
  have c2 := chain_ok (f := fun i j => decide (i ≤ j)) (g := fun i j => decide (i ≤ j)) ek le (add_nt ek (cc 16 _) (j := 16))
  have := h.k1; have := h.n1
  rw [decide_eq_true (show (1 : Int) ≤ (k : Int) by omega), decide_eq_true (show (k : Int) ≤ 64 by omega)] at c1
  rw [decide_eq_true (show (k : Int) ≤ (n : Int) by omega), decide_eq_true (show (n : Int) ≤ ((k + 16 : Nat) : Int) by omega)] at c2
  have s2 := guard_no (f := cRaise 1) (or_no (not_ok c1) (not_ok c2))
  have it3 := it_fz (r := Wn th Y n k rws none none) (i := 2) rfl
  rw [frzs_M] at it3
  have lp : ∀ (qs : List (List Int)) (row nu : Option D), (∀ q ∈ qs, q ∈ rws) → ∃ row' nu', forL (.nm 3) (cSeq (cIfS (cBin gNe (cB (b1 lenD) (cCons (cVar 3) cNil)) (cB (b1 lenD) (cCons (cBin gIx (cVar 2) (cC (.int 0))) cNil))) (cRaise 1) cSkip)
      (cFor (.nm 4) (iLst (cVar 3)) (cIfS (cOr (cBin gLt (cVar 4) (cC (.int 0))) (cBin gGe (cVar 4) (cC (.int 257)))) (cRaise 1) cSkip))) (qs.map (I false)) [some (Ce false false th Y n), some (nt k), some (M false false rws), row, nu] = .nx [some (Ce false false th Y n), some (nt k), some (M false false rws), row', nu'] := by
    intro qs
    induction qs with
    | nil => exact fun row nu _ => ⟨row, nu, rfl⟩
    | cons q qs ih =>
      intro row nu hq
      have hq0 := hq q List.mem_cons_self
      have hr := hrow q hq0
      have hpos : 0 < rws.length := List.length_pos_of_mem hq0
      have i0 := bin_ok (cvar_loc (r := [some (Ce false false th Y n), some (nt k), some (M false false rws), some (I false q), nu]) (i := 2) rfl rfl) (cc 0 _) (ix_fz (i := 2) (o := false) (d := I false rws[0]) rfl (frzs_M false rws) (by
        have e : atI (rws.map (I false)) ((0 : Nat) : Int) = (rws.map (I false))[0]? := VL.atI_nat 0
        rw [List.getElem?_map, List.getElem?_eq_getElem hpos] at e
        exact e) (frz_I false _))
      have l0 : cB (b1 lenD) (cCons (cBin gIx (cVar 2) (cC (.int 0))) cNil) [some (Ce false false th Y n), some (nt k), some (M false false rws), some (I false q), nu] = .ok (.val (nt w)) [some (Ce false false th Y n), some (nt k), some (M false false rws), some (I false q), nu] := by
        refine b1_ok i0 rfl ?_ rfl
        show some (D.int (((rws[0]).map D.int).length : Nat)) = _
        rw [List.length_map, (hrow _ (List.getElem_mem hpos)).1]
      have g := ne_ok (len_I (r := [some (Ce false false th Y n), some (nt k), some (M false false rws), some (I false q), nu]) (i := 3) (o := false) (xs := q) rfl) l0
      rw [hr.1, decide_eq_true rfl] at g
      have t1 := guard_no (f := cRaise 1) g
      have itq := it_lst (r := [some (Ce false false th Y n), some (nt k), some (M false false rws), some (I false q), nu]) (i := 3) (o := false) rfl (frzs_ints q)
      obtain ⟨y, e2⟩ := forL_look (v := 4) (f := (cIfS (cOr (cBin gLt (cVar 4) (cC (.int 0))) (cBin gGe (cVar 4) (cC (.int 257)))) (cRaise 1) cSkip)) (r0 := [some (Ce false false th Y n), some (nt k), some (M false false rws), some (I false q), nu]) (q.map .int) (fun d hd => by
        obtain ⟨x, hx, rfl⟩ := List.mem_map.mp hd
        have hb := hr.2 x hx
        have a1 := lt_ok (cvar_at (r := [some (Ce false false th Y n), some (nt k), some (M false false rws), some (I false q), some (.int x)]) (i := 4) (d := .int x) rfl rfl) (cc 0 _)
        rw [decide_eq_false (by omega)] at a1
        have a2 := ge_ok (cvar_at (r := [some (Ce false false th Y n), some (nt k), some (M false false rws), some (I false q), some (.int x)]) (i := 4) (d := .int x) rfl rfl) (cc 257 _)
        rw [decide_eq_false (by omega)] at a2
        exact guard_no (or_no a1 a2)) nu
      obtain ⟨row', nu', e3⟩ := ih (some (I false q)) y (fun x hx => hq x (List.mem_cons_of_mem _ hx))
      refine ⟨row', nu', ?_⟩
      rw [List.map_cons]
      exact (forL_cons (r1 := [some (Ce false false th Y n), some (nt k), some (M false false rws), some (I false q), nu]) rfl ((seq_nx t1).trans (for_ok itq e2))).trans e3
  obtain ⟨row', nu', e⟩ := lp rws none none (fun q hq => hq)
  exact runF_nx ((seq_nx s1).trans ((seq_nx s2).trans (for_ok it3 e)))
/-! ### all_by -/
theorem in_ok {fa fb : Ev} {r : Rho} {x : R} {js : List Nat} {z : Nat} {o : Bool} (h1 : fa r = .ok (.val (nt z)) r) (h2 : fb r = .ok x r) (ho : opd r x = some (I o (zz js))) : cBin gIn fa fb r = .ok (.val (.bl (decide (z ∈ js)))) r := by
  refine bin_ok h1 h2 (g2_ok rfl ho (?_ : (inD (nt z) (I o (zz js))).map D.bl = some (.bl (decide (z ∈ js)))) rfl)
  have e1 : eqOk (nt z) = true := rfl
  have e2 : eqOk (I o (zz js)) = true := eqOk_fp (fp_I o (zz js)) (by decide)
  show ((if (eqOk (nt z) && eqOk (I o (zz js))) = true then some (((zz js).map D.int).any fun y => PyData.eqv (toPy y) (toPy (nt z))) else none)).map D.bl = _
  rw [e1, e2]
  show some (D.bl (((zz js).map D.int).any fun y => PyData.eqv (toPy y) (toPy (nt z)))) = _
  congr 2
  have one : ∀ a b : Int, PyData.eqv (toPy (.int a)) (toPy (.int b)) = decide (a = b) := fun a b => by
    have q := @q_eqI a b
    unfold eqD at q
    rw [eqOk_fp (fp_int a 0) (by decide), eqOk_fp (fp_int b 0) (by decide)] at q
    have q := Option.some.inj q
    injection q
  rw [List.any_map]
  unfold zz
  rw [List.any_map]
  rw [Bool.eq_iff_iff, List.any_eq_true, decide_eq_true_eq]
  constructor
  · rintro ⟨j, hj, e⟩
    have e : PyData.eqv (toPy (.int (j : Int))) (toPy (.int (z : Int))) = true := e
    rw [one, decide_eq_true_eq] at e
    have : j = z := by omega
    exact this ▸ hj
  · intro hz
    refine ⟨z, hz, ?_⟩
    show PyData.eqv (toPy (.int (z : Int))) (toPy (.int (z : Int))) = true
    rw [one, decide_eq_true rfl]
theorem listOf_val {fa : Ev} {r r1 : Rho} {o : Bool} {xs : List Int} (h : fa r = .ok (.val (I o xs)) r1) : cB gListOf (cCons fa cNil) r = .ok (.val (I true xs)) r1 := by
  rw [q_B, cons_ok h (nil_ok r1)]
  show (match opd r1 (.val (I o xs)) with | some (.node .lst _ ys) => EO.ok (.val (.node .lst true (frzs ys))) (touch r1 (.val (I o xs))) | some (.node .rd _ ys) => .ok (.val (.node .lst true (frzs ys))) (touch r1 (.val (I o xs))) | _ => .bad) = _
  show EO.ok (.val (.node .lst true (frzs (xs.map D.int)))) r1 = _
  rw [frzs_ints]
/-- lag of columns is the columns -/
theorem lag_cols {k wd : Nat} {H : Nat → Int → Int} (hH : Cols k wd H) (js : List Nat) (hl : js.length = k) (hj : ∀ j ∈ js, j < 257) (hnd : js.Pairwise (· < ·)) (c : Nat) (hc : c < wd) (x : Int) : lag js (rowH H wd) x c = H c x := by
  have hp : (zz js).Pairwise (fun a b => ¬ E a b) := by
    unfold zz
    rw [List.pairwise_map]
    refine hnd.imp_of_mem fun {a b} ha hb hab => ?_
    have := hj a ha
    have := hj b hb
    unfold E
    omega
  obtain ⟨h1, h2⟩ := hH c hc
  have zl : (zz js).length = k := by unfold zz; rw [List.length_map, hl]
  have hi := lag_is hp (f := H c) (by rw [zl]; exact h1) x
  have ee : lagS (zz js) (zz js) (fun p => (rowH H wd p.toNat).getD c 0) x = lagS (zz js) (zz js) (H c) x := by
    unfold lagS
    congr 1
    refine List.map_congr_left fun p hp => ?_
    obtain ⟨j, _, rfl⟩ := List.mem_map.mp hp
    show share (zz js) x (j : Int) * (rowH H wd ((j : Nat) : Int).toNat).getD c 0 = share (zz js) x (j : Int) * H c (j : Int)
    congr 1
    unfold rowH
    rw [Int.toNat_natCast, List.getD_eq_getElem?_getD, List.getElem?_map, List.getElem?_range hc]
    rfl
  unfold lag
  rw [ee]
  have := h2 x
  have hi : lagS (zz js) (zz js) (H c) x % 257 = H c x % 257 := hi
  rw [hi]
  omega
theorem tabl_succ (Y : Nat → List Int) (x : Nat) : tabl Y (x + 1) = tabl Y x ++ [Y x] := by unfold tabl; rw [List.range_succ, List.map_append]; rfl
noncomputable abbrev Wa (th : Nat → Bool) (Y Z : Nat → List Int) (n : Nat) (js : List Nat) (m : Nat) (x : Option D) : Rho := [some (Ce false false th Y n), some (I false (zz js)), some (M true true (tabl Z m)), x]
noncomputable abbrev bodyA : Sv := (cIfS (cBin gIn (cVar 3) (cVar 1)) (cExpr (cApp 2 (cB (gListOf) (cCons (cBin gIx (cVar 0) (cVar 3)) cNil)))) (cExpr (cApp 2 (cCall 3 F_row_at (cCons (cVar 0) (cCons (cVar 1) (cCons (cVar 3) cNil)))))))
structure Pl (th : Nat → Bool) (n k : Nat) (js : List Nat) : Prop where
  len : js.length = k
  inn : ∀ j ∈ js, j < n ∧ th j = true
  up : js.Pairwise (· < ·)
theorem cell_yes {o : Bool} {th : Nat → Bool} {Y : Nat → List Int} {z : Nat} (h : th z = true) : cell o th Y z = I o (Y z) := if_pos h
theorem cell_ix {r : Rho} {i : Nat} {th : Nat → Bool} {Y : Nat → List Int} {n z : Nat} {fk : Ev} (h : r[i]? = some (some (Ce false false th Y n))) (hk : fk r = .ok (.val (nt z)) r) (hz : z < n) : cBin gIx (cVar i) fk r = .ok (.val (cell false th Y z)) r :=
  bin_ok (cvar_loc h rfl) hk (ix_fz h (frzs_cells false th Y n) (by rw [VL.atI_nat]; exact cells_at hz) (frz_cell false th Y z))
/-- a row by those at some places -/
def byY (js : List Nat) (Y : Nat → List Int) (w x : Nat) : List Int := if x ∈ js then Y x else (List.range w).map (lag js Y (x : Int))
theorem a_step {th : Nat → Bool} {Y : Nat → List Int} {n k w : Nat} (hn2 : n < 1000) (hw1 : w < 700) (hk1 : 1 ≤ k) (hk2 : k ≤ 64) (hY : ∀ z < n, (Y z).length = w) {js : List Nat} (hp : Pl th n k js) (x : Nat) (hx : x < n) : bodyA (Wa th Y (byY js Y w) n js x (some (nt x))) = .nx (Wa th Y (byY js Y w) n js (x + 1) (some (nt x))) := by
  have g := in_ok (fa := cVar 3) (fb := cVar 1) (r := Wa th Y (byY js Y w) n js x (some (nt x))) (z := x) (js := js) (o := false) rfl (cvar_loc rfl rfl) (opd_loc' rfl)
  have fin : ∀ fa : Ev, fa (Wa th Y (byY js Y w) n js x (some (nt x))) = .ok (.val (I true (byY js Y w x))) (Wa th Y (byY js Y w) n js x (some (nt x))) → cExpr (cApp 2 fa) (Wa th Y (byY js Y w) n js x (some (nt x))) = .nx (Wa th Y (byY js Y w) n js (x + 1) (some (nt x))) := fun fa h => by
    have e := app_ok (i := 2) (ds := (tabl (byY js Y w) x).map (I true)) rfl h rfl (by rw [List.length_map, tabl_len]; omega)
    rw [e]
    show SO.nx [some (Ce false false th Y n), some (I false (zz js)), some (.node .lst true ((tabl (byY js Y w) x).map (I true) ++ [I true (byY js Y w x)])), some (nt x)] = SO.nx [some (Ce false false th Y n), some (I false (zz js)), some (.node .lst true ((tabl (byY js Y w) (x + 1)).map (I true))), some (nt x)]
    rw [tabl_succ, List.map_append]
    rfl
  by_cases h : x ∈ js
  · rw [decide_eq_true h] at g
    have ix := cell_ix (r := Wa th Y (byY js Y w) n js x (some (nt x))) (i := 0) (fk := cVar 3) (z := x) rfl rfl hx
    rw [cell_yes (hp.inn x h).2] at ix
    have e : byY js Y w x = Y x := if_pos h
    rw [← e] at ix
    exact ifs_yes g (fin _ (listOf_val ix))
  · rw [decide_eq_false h] at g
    have ra := row_at_ok (cells false th Y n) (frzs_cells false th Y n) js (fun z => by have := hp.len; rw [z, List.length_nil] at this; omega) Y w (by omega) ⟨fun j hj => by rw [cells_at (hp.inn j hj).1, cell_yes (hp.inn j hj).2], fun j hj => hY j (hp.inn j hj).1⟩ (by rw [hp.len]; omega) (x : Int)
    have e : byY js Y w x = (List.range w).map (lag js Y (x : Int)) := if_neg h
    rw [← e] at ra
    have ca := call_noL (n := 3) (F := F_row_at) (r := Wa th Y (byY js Y w) n js x (some (nt x))) (ds := [Ce false false th Y n, I false (zz js), nt x]) (cons_ok (cvar_loc (i := 0) (d := Ce false false th Y n) rfl rfl) (cons_ok (cvar_loc (i := 1) (d := I false (zz js)) rfl rfl) (cons_ok (cvar_at (i := 3) (d := nt x) rfl rfl) (nil_ok _)))) rfl rfl (noL_lints _) (by
      show F_row_at [frz (Ce false false th Y n), frz (I false (zz js)), nt x] = _
      rw [frz_Ce, frz_I]
      exact ra)
    exact ifs_not g (fin _ ca)
theorem a_loop {th : Nat → Bool} {Y : Nat → List Int} {n k w : Nat} (hn2 : n < 1000) (hw1 : w < 700) (hk1 : 1 ≤ k) (hk2 : k ≤ 64) (hY : ∀ z < n, (Y z).length = w) {js : List Nat} (hp : Pl th n k js) : ∀ (m x : Nat) (u : Option D), x + m = n → ∃ u', forL (.nm 3) bodyA ((List.range' x m).map nt) (Wa th Y (byY js Y w) n js x u) = .nx (Wa th Y (byY js Y w) n js n u')
  | 0, x, u, h => ⟨u, by
      have : x = n := by omega
      subst this; rfl⟩
  | m + 1, x, u, h => by
    obtain ⟨u', e⟩ := a_loop hn2 hw1 hk1 hk2 hY hp m (x + 1) (some (nt x)) (by omega)
    refine ⟨u', ?_⟩
    rw [List.range'_succ, List.map_cons]
    exact (forL_cons (r1 := Wa th Y (byY js Y w) n js x (some (nt x))) rfl (a_step hn2 hw1 hk1 hk2 hY hp x (by omega))).trans e
theorem all_by_gen {th : Nat → Bool} {Y : Nat → List Int} {n k w : Nat} (hn2 : n < 1000) (hw1 : w < 700) (hk1 : 1 ≤ k) (hk2 : k ≤ 64) (hY : ∀ z < n, (Y z).length = w) {js : List Nat} (hp : Pl th n k js) : F_all_by [Ce false false th Y n, I false (zz js)] = .ok (M true true (tabl (byY js Y w) n)) := by
  have s1 : cAsg (.nm 2) (cLst cNil) (startR 4 [Ce false false th Y n, I false (zz js)]) = .nx (Wa th Y (byY js Y w) n js 0 none) := rfl
  have le := len_at (r := Wa th Y (byY js Y w) n js 0 none) (i := 0) (k := .lst) (o := false) (xs := cells false th Y n) rfl (.inl rfl)
  rw [cells_len] at le
  have it := it_rng le (by omega)
  obtain ⟨u', e⟩ := a_loop hn2 hw1 hk1 hk2 hY hp n 0 none (by omega)
  rw [← List.range_eq_range'] at e
  exact runF_ok ((seq_nx s1).trans ((seq_nx (for_ok it e)).trans (ret_ok (cvar_loc (i := 2) (d := M true true (tabl (byY js Y w) n)) rfl rfl)))) rfl
theorem by_cols {th : Nat → Bool} {H : Nat → Int → Int} {n k w : Nat} (hn : n < 257) (hH : Cols k w H) {js : List Nat} (hp : Pl th n k js) (x : Nat) : byY js (rowH H w) w x = rowH H w x := by
  unfold byY
  by_cases h : x ∈ js
  · rw [if_pos h]
  · rw [if_neg h]
    exact List.map_congr_left fun c hc => lag_cols hH js hp.len (fun j hj => by have := (hp.inn j hj).1; omega) hp.up c (List.mem_range.mp hc) (x : Int)
theorem all_by_ok {th : Nat → Bool} {H : Nat → Int → Int} {n k w : Nat} (hg : Good th (rowH H w) n k w) (hH : Cols k w H) {js : List Nat} (hp : Pl th n k js) : F_all_by [Ce false false th (rowH H w) n, I false (zz js)] = .ok (M true true (tabl (rowH H w) n)) := by
  have hn2 := hg.n2; have hk2 := hg.k2
  rw [all_by_gen (by omega) hg.w1 hg.k1 hg.k2 (fun z _ => rowH_len H w z) hp]
  rw [tabl_congr (Y := byY js (rowH H w) w) (Z := rowH H w) fun z _ => by_cols (by omega) hH hp z]
/-! ### mend_rows -/
theorem zz_map (ks : List Nat) : ks.map nt = (zz ks).map D.int := by unfold zz; rw [List.map_map]; rfl
theorem mend_ok {th : Nat → Bool} {H : Nat → Int → Int} {n k w : Nat} (hg : Good th (rowH H w) n k w) (hH : Cols k w H) : F_mend_rows [Ce false false th (rowH H w) n, nt k] = .ok (M true true (tabl (rowH H w) n)) := by
  have hn2 := hg.n2; have hk2 := hg.k2
  have nr := need_rows_ok hg
  have s0 : cExpr (cCall 2 F_need_rows (cCons (cVar 0) (cCons (cVar 1) cNil))) (startR 5 [Ce false false th (rowH H w) n, nt k]) = .nx (startR 5 [Ce false false th (rowH H w) n, nt k]) := by
    rw [q_expr, call2 (F := F_need_rows) (r2 := startR 5 [Ce false false th (rowH H w) n, nt k]) (d := .non) (cvar_loc (i := 0) (d := Ce false false th (rowH H w) n) rfl rfl) (cvar_at (i := 1) (d := nt k) rfl rfl) rfl rfl (by rw [frz_Ce]; exact nr) rfl]
    rfl
  have le := len_at (r := startR 5 [Ce false false th (rowH H w) n, nt k]) (i := 0) (k := .lst) (o := false) (xs := cells false th (rowH H w) n) rfl (.inl rfl)
  rw [cells_len] at le
  have it := it_rng le (by omega)
  have lc := lc_filt (v := 4) (fc := cBin gIsNot (cBin gIx (cVar 0) (cVar 4)) (cC .non)) (r0 := startR 5 [Ce false false th (rowH H w) n, nt k]) (List.range n) th it rfl rfl (by rw [List.length_range]; omega) (fun z hz => by
    have ix := cell_ix (r := (startR 5 [Ce false false th (rowH H w) n, nt k]).set 4 (some (nt z))) (i := 0) (fk := cVar 4) (z := z) rfl rfl (List.mem_range.mp hz)
    refine bin_ok ix (show cC .non _ = .ok (.val .non) _ from rfl) ?_
    unfold cell
    by_cases h : th z = true
    · rw [if_pos h, h]; rfl
    · rw [if_neg h, Bool.eq_false_iff.mpr h]; rfl)
  have hgf := gone_filter th n
  have hfew := hg.few
  have hin : ∀ z ∈ (List.range n).filter th, z < n ∧ th z = true := fun z hz => ⟨List.mem_range.mp (List.mem_filter.mp hz).1, (List.mem_filter.mp hz).2⟩
  have hup : ((List.range n).filter th).Pairwise (· < ·) := List.pairwise_lt_range.filter _
  generalize (List.range n).filter th = pls at lc hgf hin hup
  have e1 : L true pls = I true (zz pls) := by show D.node .lst true (pls.map nt) = _; rw [zz_map]
  rw [e1] at lc
  have s1 : cAsg (.nm 2) (cLc [4] (.nm 4) (iRng rngI1 (cCons (cB (b1 lenD) (cCons (cVar 0) cNil)) cNil)) (some (cBin gIsNot (cBin gIx (cVar 0) (cVar 4)) (cC .non))) (cVar 4)) (startR 5 [Ce false false th (rowH H w) n, nt k]) = .nx [some (Ce false false th (rowH H w) n), some (nt k), some (I true (zz pls)), none, none] := asg_ok (i := 2) lc
  have zl : (zz pls).length = pls.length := by unfold zz; rw [List.length_map]
  have lt := lt_ok (len_I (r := [some (Ce false false th (rowH H w) n), some (nt k), some (I true (zz pls)), none, none]) (i := 2) (o := true) (xs := zz pls) rfl) (cvar_at (i := 1) (d := nt k) rfl rfl)
  rw [zl, decide_eq_false (by omega)] at lt
  have s2 := guard_no (f := cRaise 1) lt
  have hPl : Pl th n k (pls.take k) := ⟨by rw [List.length_take]; omega, fun j hj => hin j (List.mem_of_mem_take hj), hup.sublist (List.take_sublist _ _)⟩
  have ab := all_by_ok hg hH hPl
  have sl := sl_to (r := [some (Ce false false th (rowH H w) n), some (nt k), some (I true (zz pls)), none, none]) (i := 2) (o := true) (xs := zz pls) (fh := cVar 1) (m := k) rfl rfl
  rw [show (zz pls).take k = zz (pls.take k) by unfold zz; rw [List.map_take]] at sl
  have ca := call2 (F := F_all_by) (cvar_loc (r := [some (Ce false false th (rowH H w) n), some (nt k), some (I true (zz pls)), none, none]) (i := 0) (d := Ce false false th (rowH H w) n) rfl rfl) sl rfl rfl (by rw [frz_Ce, frz_I]; exact ab) (noL_M _)
  have s3 := asg_ok (i := 3) ca
  have sl2 := sl_of (r := [some (Ce false false th (rowH H w) n), some (nt k), some (I true (zz pls)), some (M true true (tabl (rowH H w) n)), none]) (i := 2) (o := true) (xs := zz pls) (fl := cVar 1) (m := k) rfl rfl
  rw [show (zz pls).drop k = zz (pls.drop k) by unfold zz; rw [List.map_drop]] at sl2
  have it4 : iLst (cSl (cVar 2) (some (cVar 1)) none) [some (Ce false false th (rowH H w) n), some (nt k), some (I true (zz pls)), some (M true true (tabl (rowH H w) n)), none] = .ok ((pls.drop k).map nt) [some (Ce false false th (rowH H w) n), some (nt k), some (I true (zz pls)), some (M true true (tabl (rowH H w) n)), none] := by
    show (match cSet (cSl (cVar 2) (some (cVar 1)) none) [some (Ce false false th (rowH H w) n), some (nt k), some (I true (zz pls)), some (M true true (tabl (rowH H w) n)), none] with | .ok (.val (.node .lst _ ds)) r1 => IO.ok ds r1 | .ok (.val (.node .rd _ ds)) r1 => .ok ds r1 | .exc c r1 => .exc c r1 | _ => .bad) = _
    rw [set_val sl2, zz_map]
  obtain ⟨y, e4⟩ := forL_look (v := 4) (f := (cIfS (cPure (cBin gNe (cBin gIx (cVar 3) (cVar 4)) (cB (gListOf) (cCons (cBin gIx (cVar 0) (cVar 4)) cNil)))) (cRaise 1) cSkip)) (r0 := [some (Ce false false th (rowH H w) n), some (nt k), some (I true (zz pls)), some (M true true (tabl (rowH H w) n)), none]) ((pls.drop k).map nt) (fun d hd => by
    obtain ⟨z, hz, rfl⟩ := List.mem_map.mp hd
    obtain ⟨hz1, hz2⟩ := hin z (List.mem_of_mem_drop hz)
    have fr : frzR [some (Ce false false th (rowH H w) n), some (nt k), some (I true (zz pls)), some (M true true (tabl (rowH H w) n)), some (nt z)] = [some (Ce false false th (rowH H w) n), some (nt k), some (I false (zz pls)), some (M false false (tabl (rowH H w) n)), some (nt z)] := by
      show [some (frz (Ce false false th (rowH H w) n)), some (nt k), some (frz (I true (zz pls))), some (frz (M true true (tabl (rowH H w) n))), some (nt z)] = _
      rw [frz_Ce, frz_I, frz_M]
    have i3 := bin_ok (cvar_loc (r := [some (Ce false false th (rowH H w) n), some (nt k), some (I false (zz pls)), some (M false false (tabl (rowH H w) n)), some (nt z)]) (i := 3) rfl rfl) (cvar_at (i := 4) (d := nt z) rfl rfl) (ix_fz (i := 3) (o := false) (d := I false (rowH H w z)) rfl (frzs_M false _) (by rw [VL.atI_nat, List.getElem?_map, tabl_at hz1]; rfl) (frz_I false _))
    have i0 := cell_ix (r := [some (Ce false false th (rowH H w) n), some (nt k), some (I false (zz pls)), some (M false false (tabl (rowH H w) n)), some (nt z)]) (i := 0) (fk := cVar 4) (z := z) rfl rfl hz1
    rw [cell_yes hz2] at i0
    have ne := bin_ok (g := gNe) i3 (listOf_val i0) (g2_ok rfl rfl (neD_same (fp_I false (rowH H w z)) (by decide) rfl) rfl)
    rw [← fr] at ne
    exact guard_no (pure_ok ne rfl)) none
  exact runF_ok ((seq_nx s0).trans ((seq_nx s1).trans ((seq_nx s2).trans ((seq_nx s3).trans ((seq_nx (for_ok it4 e4)).trans (ret_ok (cvar_loc (r := [some (Ce false false th (rowH H w) n), some (nt k), some (I true (zz pls)), some (M true true (tabl (rowH H w) n)), y]) (i := 3) (d := M true true (tabl (rowH H w) n)) rfl rfl))))))) rfl
end K79

namespace K79
open PySem PySem.Spec PyProof.Rows L2 VL
/-! ### _law_slab -/
def Row (w : Nat) (row : List Int) : Prop := row.length = w ∧ ∀ x ∈ row, 0 ≤ x ∧ x ≤ 256
def Rows (w : Nat) (rows : List (List Int)) : Prop := ∀ row ∈ rows, Row w row
noncomputable abbrev elE : Ev := (cCallQ 0 1 F__law_take (cCons (cVar 4) (cCons (cSet (cC (.int 257))) cNil)))
noncomputable abbrev W7 (ns : List Int) (k : Nat) (rows col pool row : Option D) : Rho := [some (script ns), some (nt k), rows, col, pool, row, none]
noncomputable abbrev bodyCol : Sv := (cSeq (cAsg (.nm 4) (cCall 2 F__law_pool (cCons (cVar 0) (cCons (cBin gAdd (cC (.int 2)) (cVar 3)) cNil))))
  (cForM 2 5 (cExpr (cApp 5 elE))))
theorem col_step (ns : List Int) (k : Nat) (rows : List (List Int)) (w : Nat) (hk : rows.length = k) (hk2 : k ≤ 64) (hw : w < 1000) (hr : Rows w rows) (c : Nat) (hc : c < 1000) (pool row : Option D) : ∃ (rows' : List (List Int)) (pool' row' : Option D), rows'.length = k ∧ Rows (w + 1) rows' ∧ bodyCol (W7 ns k (some (M true true rows)) (some (nt c)) pool row) = .nx (W7 ns k (some (M true true rows')) (some (nt c)) pool' row') := by
  obtain ⟨p, ep, hp, nl⟩ := pool_ok ns (2 + c)
  have c1 := call2 (F := F__law_pool) (cvar_loc (r := W7 ns k (some (M true true rows)) (some (nt c)) pool row) (i := 0) (d := script ns) rfl rfl) (add_nt (cc 2 _) (cvar_at (i := 3) (d := nt c) rfl rfl) (i := 2)) rfl rfl (by rw [frz_script]; exact ep) nl
  have s1 : cAsg (.nm 4) (cCall 2 F__law_pool (cCons (cVar 0) (cCons (cBin gAdd (cC (.int 2)) (cVar 3)) cNil))) (W7 ns k (some (M true true rows)) (some (nt c)) pool row) = .nx (W7 ns k (some (M true true rows)) (some (nt c)) (some p) row) := asg_ok (i := 4) c1
  obtain ⟨r5, es, e5, ⟨rw5, d5, ro5, er5, _⟩, q5, hle, hP⟩ := forM_ex (i := 2) (j := 5) (f := cExpr (cApp 5 elE)) (ds := rows.map (I true)) (r := W7 ns k (some (M true true rows)) (some (nt c)) (some p) row) (fun d => ∃ row, d = I true row ∧ Row w row) (fun d => ∃ row, d = I true row ∧ Row (w + 1) row)
    (fun i r => ∃ rs d row, r = W7 ns k rs (some (nt c)) (some d) row ∧ Pool d (7 * (2 + c) + i)) (by decide) (fun d hd => by
      obtain ⟨row, hrow, rfl⟩ := List.mem_map.mp hd
      exact ⟨row, rfl, hr row hrow⟩) rfl (by simp) ⟨_, _, _, rfl, hp.mono (by omega)⟩ (fun i r' d es hi hv hd _ _ _ => by
      obtain ⟨rs, d0, row0, rfl, hp0⟩ := hv
      obtain ⟨row, rfl, hrow⟩ := hd
      rw [List.length_map] at hi
      obtain ⟨v, d', e, hv, hp'⟩ := takeQ (r := W7 ns k (some .any) (some (nt c)) (some d0) (some (I true row))) (i := 4) (fa := cC (.int 257)) (m := 257) rfl hp0 (by omega) rfl (hp0.var rfl) (by decide) (by decide)
      have st : cExpr (cApp 5 elE) (W7 ns k (some .any) (some (nt c)) (some d0) (some (I true row))) = .nx (W7 ns k (some .any) (some (nt c)) (some d') (some (I true (row ++ [(v : Int)])))) := appI (n := (v : Int)) (xs := row) rfl e rfl (by rw [hrow.1]; omega)
      refine ⟨_, I true (row ++ [(v : Int)]), st, by simp, by simp, rfl, ⟨_, rfl, by rw [List.length_append, hrow.1]; rfl, fun x hx => ?_⟩, fun es' => ⟨_, _, _, rfl, hp'.mono (by omega)⟩⟩
      rcases List.mem_append.mp hx with hx | hx
      · exact hrow.2 x hx
      · rw [List.mem_singleton.mp hx]; omega)
  subst er5
  obtain ⟨rows', ee, hR⟩ := of_rows hP
  have q5 : rw5 = some (.node .lst true es) := Option.some.inj q5
  rw [ee] at q5 hle
  rw [q5] at e5
  exact ⟨rows', some d5, ro5, by rw [List.length_map, List.length_map] at hle; omega, hR, (seq_nx s1).trans e5⟩
theorem cols_loop (ns : List Int) (k : Nat) (hk2 : k ≤ 64) : ∀ (cs : List Nat) (rows : List (List Int)) (w : Nat) (col pool row : Option D), rows.length = k → w + cs.length < 1000 → Rows w rows → (∀ c ∈ cs, c < 1000) → ∃ (rows' : List (List Int)) (col' pool' row' : Option D), rows'.length = k ∧ Rows (w + cs.length) rows' ∧ forL (.nm 3) bodyCol (cs.map nt) (W7 ns k (some (M true true rows)) col pool row) = .nx (W7 ns k (some (M true true rows')) col' pool' row')
  | [], rows, w, col, pool, row, hk, _, hr, _ => ⟨rows, col, pool, row, hk, hr, rfl⟩
  | c :: cs, rows, w, col, pool, row, hk, hw, hr, hc => by
    simp only [List.length_cons] at hw
    obtain ⟨rows1, p1, r1, hk1, hr1, e1⟩ := col_step ns k rows w hk hk2 (by omega) hr c (hc c List.mem_cons_self) pool row
    obtain ⟨rows2, c2, p2, r2, hk2', hr2, e2⟩ := cols_loop ns k hk2 cs rows1 (w + 1) (some (nt c)) p1 r1 hk1 (by omega) hr1 (fun x hx => hc x (List.mem_cons_of_mem _ hx))
    refine ⟨rows2, c2, p2, r2, hk2', by rw [List.length_cons, show w + (cs.length + 1) = w + 1 + cs.length by omega]; exact hr2, ?_⟩
    rw [List.map_cons]
    exact (forL_cons (r1 := W7 ns k (some (M true true rows)) (some (nt c)) pool row) rfl e1).trans e2
theorem slab_ok (ns : List Int) (k : Nat) (hk : k ≤ 64) : ∃ (rows : List (List Int)) (w : Nat), F__law_slab [script ns, nt k] = .ok (M true true rows) ∧ rows.length = k ∧ w < 7 ∧ Rows w rows := by
  have it := it_rng (fa := cVar 1) (r := startR 7 [script ns, nt k]) (n := k) rfl (by omega)
  have l1 := lc_all (α := Nat) (enc := nt) (g := fun _ => I true []) (fe := cLst cNil) (t := .nm 6) (vs := [6]) (r0 := startR 7 [script ns, nt k]) (List.range k) it rfl (by simp; omega) (fun x _ => ⟨_, rfl, _, set_val (show cLst cNil ((startR 7 [script ns, nt k]).set 6 (some (nt x))) = .ok (.val (I true [])) ((startR 7 [script ns, nt k]).set 6 (some (nt x))) from rfl), rfl⟩)
  have e1 : (List.range k).map (fun _ => I true []) = (List.replicate k ([] : List Int)).map (I true) := by
    rw [List.map_replicate, List.map_const', List.length_range]
  rw [e1] at l1
  have s1 : cAsg (.nm 2) (cLc [6] (.nm 6) (iRng rngI1 (cCons (cVar 1) cNil)) none (cLst cNil)) (startR 7 [script ns, nt k]) = .nx (W7 ns k (some (M true true (List.replicate k []))) none none none) := asg_ok (i := 2) l1
  obtain ⟨w, hw, t2⟩ := take_new (r := W7 ns k (some (M true true (List.replicate k []))) none none none) (i := 0) (k := 1) (m := 7) (ns := ns) (fk := cC (.int 1)) rfl rfl (by decide) (by decide) (by decide)
  have it2 := it_rng t2 (by omega)
  obtain ⟨rows, c2, p2, r2, hl, hr, e2⟩ := cols_loop ns k hk (List.range w) (List.replicate k []) 0 none none none (by simp) (by simp; omega) (fun row h => by
    rw [List.eq_of_mem_replicate h]
    exact ⟨rfl, fun x hx => by cases hx⟩) (fun c hc => by rw [List.mem_range] at hc; omega)
  rw [List.length_range, Nat.zero_add] at hr
  exact ⟨rows, w, runF_ok ((seq_nx s1).trans ((seq_nx (for_ok it2 e2)).trans (ret_ok (cvar_loc (i := 2) (d := M true true rows) rfl rfl)))) rfl, hl, hw, hr⟩
/-! ### spares_of -/
def rowY (rows : List (List Int)) (j : Nat) : List Int := rows.getD j []
def spare (rows : List (List Int)) (w : Nat) (x : Int) : List Int := (List.range w).map (lag (List.range rows.length) (rowY rows) x)
def spares (rows : List (List Int)) (w r : Nat) : List (List Int) := (List.range r).map fun one => spare rows w ((rows.length + one : Nat) : Int)
theorem at_rows {w : Nat} {rows : List (List Int)} (hr : Rows w rows) : At (rows.map (I false)) (List.range rows.length) (rowY rows) w where
  row := fun j hj => by
    have hj := List.mem_range.mp hj
    unfold rowY
    rw [List.getElem?_map, List.getElem?_eq_getElem hj, List.getD_eq_getElem?_getD, List.getElem?_eq_getElem hj]
    rfl
  wide := fun j hj => by
    have hj := List.mem_range.mp hj
    unfold rowY
    rw [List.getD_eq_getElem?_getD, List.getElem?_eq_getElem hj]
    exact (hr _ (List.getElem_mem hj)).1
theorem spares_ok {w : Nat} {rows : List (List Int)} (hr : Rows w rows) (h1 : 1 ≤ rows.length) (h2 : rows.length ≤ 64) (hw : w < 7) (r : Nat) (hr2 : r ≤ 16) : F_spares_of [M false false rows, nt r] = .ok (M true true (spares rows w r)) := by
  have le := len_at (r := startR 4 [M false false rows, nt r]) (i := 0) (k := .lst) (o := false) (xs := rows.map (I false)) rfl (.inl rfl)
  rw [List.length_map] at le
  have lr := listRg1_ok le (by unfold rgOk within; simp; omega)
  have er : rgD 0 (rows.length : Int) = (zz (List.range rows.length)).map D.int := by
    rw [rgD_ints]
    congr 1
    unfold zz
    rw [show ((rows.length : Int) - 0).toNat = rows.length by omega]
    refine List.map_congr_left fun i _ => ?_
    omega
  rw [er] at lr
  have s1 : cAsg (.nm 2) (cListRg1 (cB (b1 lenD) (cCons (cVar 0) cNil))) (startR 4 [M false false rows, nt r]) = .nx [some (M false false rows), some (nt r), some (I true (zz (List.range rows.length))), none] := asg_ok (i := 2) lr
  have it := it_rng (fa := cVar 1) (r := [some (M false false rows), some (nt r), some (I true (zz (List.range rows.length))), none]) (n := r) rfl (by omega)
  have lc := lc_all (α := Nat) (enc := nt) (g := fun one => I true (spare rows w ((rows.length + one : Nat) : Int))) (fe := cCall 3 F_row_at (cCons (cVar 0) (cCons (cVar 2) (cCons (cBin gAdd (cB (b1 lenD) (cCons (cVar 0) cNil)) (cVar 3)) cNil)))) (t := .nm 3) (vs := [3]) (r0 := [some (M false false rows), some (nt r), some (I true (zz (List.range rows.length))), none]) (List.range r) it rfl (by simp; omega) (fun one _ => by
    have le := len_at (r := [some (M false false rows), some (nt r), some (I true (zz (List.range rows.length))), some (nt one)]) (i := 0) (k := .lst) (o := false) (xs := rows.map (I false)) rfl (.inl rfl)
    rw [List.length_map] at le
    have ra := row_at_ok (rows.map (I false)) (frzs_M false rows) (List.range rows.length) (fun z => by have := congrArg List.length z; rw [List.length_range, List.length_nil] at this; omega) (rowY rows) w (by omega) (at_rows hr) (by rw [List.length_range]; omega) ((rows.length + one : Nat) : Int)
    have ca := call_noL (n := 3) (F := F_row_at) (r := [some (M false false rows), some (nt r), some (I true (zz (List.range rows.length))), some (nt one)]) (ds := [M false false rows, I true (zz (List.range rows.length)), nt (rows.length + one)]) (cons_ok (cvar_loc (i := 0) (d := M false false rows) rfl rfl) (cons_ok (cvar_loc (i := 2) (d := I true (zz (List.range rows.length))) rfl rfl) (cons_ok (add_nt le (cvar_at (i := 3) (d := nt one) rfl rfl)) (nil_ok _)))) rfl rfl (noL_lints _) (by
      show F_row_at [frz (M false false rows), frz (I true (zz (List.range rows.length))), nt (rows.length + one)] = _
      rw [frz_M, frz_I]
      exact ra)
    exact ⟨_, rfl, _, set_val ca, rfl⟩)
  have em : (List.range r).map (fun one => I true (spare rows w ((rows.length + one : Nat) : Int))) = (spares rows w r).map (I true) := by
    unfold spares
    rw [List.map_map]; rfl
  rw [em] at lc
  exact runF_ok ((seq_nx s1).trans (ret_ok lc)) rfl
theorem pairs_range (k : Nat) : (zz (List.range k)).Pairwise (fun a b => ¬ E a b) ∨ 257 < k := by
  by_cases h : k ≤ 257
  · refine .inl ?_
    unfold zz
    rw [List.pairwise_map]
    refine (List.pairwise_lt_range).imp_of_mem fun {a b} ha hb hab => ?_
    have := List.mem_range.mp ha
    have := List.mem_range.mp hb
    unfold E
    omega
  · exact .inr (by omega)
theorem slab_cols {w : Nat} {rows : List (List Int)} (hr : Rows w rows) (h2 : rows.length ≤ 64) (r : Nat) : ∃ H, Cols rows.length w H ∧ tabl (rowH H w) (rows.length + r) = rows ++ spares rows w r := by
  have hp : (zz (List.range rows.length)).Pairwise (fun a b => ¬ E a b) := (pairs_range rows.length).resolve_right (by omega)
  have zl : (zz (List.range rows.length)).length = rows.length := by unfold zz; rw [List.length_map, List.length_range]
  refine ⟨fun c x => lag (List.range rows.length) (rowY rows) x c, fun c hc => ⟨?_, fun x => ⟨Int.emod_nonneg _ (by decide), Int.emod_lt_of_pos _ (by decide)⟩⟩, ?_⟩
  · exact (lag_poly (zz (List.range rows.length)) rows.length (fun p => (rowY rows p.toNat).getD c 0) (zz (List.range rows.length)) (fun p h => by have := filter_ne hp h; omega)).congr fun x => E.md _
  · refine List.ext_getElem? fun i => ?_
    by_cases hi : i < rows.length + r
    · rw [tabl_at hi]
      by_cases h : i < rows.length
      · rw [List.getElem?_append_left h, List.getElem?_eq_getElem h]
        have hrow := hr _ (List.getElem_mem h)
        congr 1
        refine List.ext_getElem? fun c => ?_
        unfold rowH
        rw [List.getElem?_map]
        by_cases hc : c < w
        · have hcl : c < (rows[i]).length := by rw [hrow.1]; exact hc
          rw [List.getElem?_range hc, List.getElem?_eq_getElem hcl]
          have hx := hrow.2 _ (List.getElem_mem hcl)
          have hm : ((i : Nat) : Int) ∈ zz (List.range rows.length) := List.mem_map.mpr ⟨i, List.mem_range.mpr h, rfl⟩
          have n := lag_node hp (fun p => (rowY rows p.toNat).getD c 0) hm (zz (List.range rows.length)) (fun _ h => h) hp
          rw [if_pos hm] at n
          have ey : (rowY rows ((i : Nat) : Int).toNat).getD c 0 = (rows[i])[c] := by
            unfold rowY
            rw [Int.toNat_natCast, List.getD_eq_getElem?_getD, List.getD_eq_getElem?_getD, List.getElem?_eq_getElem h]
            show ((rows[i])[c]?).getD 0 = _
            rw [List.getElem?_eq_getElem hcl]; rfl
          have n : lagS (zz (List.range rows.length)) (zz (List.range rows.length)) (fun p => (rowY rows p.toNat).getD c 0) (i : Int) % 257 = (rowY rows ((i : Nat) : Int).toNat).getD c 0 % 257 := n
          show some (lag (List.range rows.length) (rowY rows) (i : Int) c) = some (rows[i])[c]
          unfold lag
          rw [n, ey]
          congr 1
          omega
        · rw [List.getElem?_eq_none (by rw [List.length_range]; omega), List.getElem?_eq_none (by rw [hrow.1]; omega)]
          rfl
      · rw [List.getElem?_append_right (by omega)]
        unfold spares
        rw [List.getElem?_map, List.getElem?_range (by omega)]
        show some (rowH _ w i) = some (spare rows w ((rows.length + (i - rows.length) : Nat) : Int))
        rw [show rows.length + (i - rows.length) = i by omega]
        rfl
    · rw [List.getElem?_eq_none (by rw [tabl_len]; omega), List.getElem?_eq_none (by unfold spares; rw [List.length_append, List.length_map, List.length_range]; omega)]
end K79

namespace K79
open PySem PySem.Spec PyProof.Rows L2 VL
/-! ### _law_kept -/
theorem zz_at {js : List Nat} {v : Nat} (h : v < js.length) : (zz js)[v]? = some ((js[v] : Nat) : Int) := by unfold zz; rw [List.getElem?_map, List.getElem?_eq_getElem h]; rfl
theorem zz_len (js : List Nat) : (zz js).length = js.length := by unfold zz; rw [List.length_map]
theorem zz_erase (js : List Nat) (v : Nat) : (zz js).eraseIdx v = zz (js.eraseIdx v) := erase_map _ js v
theorem erase_sub {js : List Nat} {v : Nat} : ∀ z ∈ js.eraseIdx v, z ∈ js := fun z h => (List.eraseIdx_sublist js v).subset h
theorem erase_len {js : List Nat} {v : Nat} (h : v < js.length) : (js.eraseIdx v).length = js.length - 1 := by rw [List.length_eraseIdx]; rw [if_pos h]
theorem rg_zz (n : Nat) : rgD 0 (n : Int) = (zz (List.range n)).map D.int := by
  rw [rgD_ints]
  congr 1
  unfold zz
  rw [show ((n : Int) - 0).toNat = n by omega]
  refine List.map_congr_left fun i _ => ?_
  omega
noncomputable abbrev Wk (Y : Nat → List Int) (n k : Nat) (d : D) (js : List Nat) (th : Nat → Bool) (tu : Option D) : Rho := [some (M false false (tabl Y n)), some (nt k), some d, some (I true (zz js)), some (Ce true true th Y n), tu, none]
noncomputable abbrev bodyK : Sv := (cSetIx 4 (cPopI 3 (cCallQ 0 1 F__law_take (cCons (cVar 2) (cCons (cSet (cB (b1 lenD) (cCons (cVar 3) cNil))) cNil)))) (cC .non))
theorem k_step (Y : Nat → List Int) (n k : Nat) (hn : n < 1000) (d : D) (m : Nat) (hp : Pool d m) (hm : m < 900000) (js : List Nat) (hj : ∀ z ∈ js, z < n) (h1 : 1 ≤ js.length) (h2 : js.length < 1000) (th : Nat → Bool) (tu : Option D) : ∃ (v z : Nat) (d' : D), v < js.length ∧ z < n ∧ Pool d' (m + 1) ∧ bodyK (Wk Y n k d js th tu) = .nx (Wk Y n k d' (js.eraseIdx v) (lose th z) tu) := by
  have le := len_I (r := Wk Y n k d js th tu) (i := 3) (o := true) (xs := zz js) rfl
  rw [zz_len] at le
  obtain ⟨v, d', t, hv, hp'⟩ := takeQ (r := Wk Y n k d js th tu) (i := 2) (fa := cB (b1 lenD) (cCons (cVar 3) cNil)) (m := js.length) rfl hp (by omega) le (hp.var rfl) (by omega) (by omega)
  have po := popI_ok (i := 3) (v := v) (xs := zz js) (y := ((js[v] : Nat) : Int)) rfl t rfl (zz_at hv) (by omega)
  rw [zz_erase] at po
  have hz : js[v] < n := hj _ (List.getElem_mem hv)
  refine ⟨v, js[v], d', hv, hz, hp', ?_⟩
  have c : cSet (cC .non) (Wk Y n k d js th tu) = .ok (.val .non) (Wk Y n k d js th tu) := rfl
  show cSetIx 4 (cPopI 3 (cCallQ 0 1 F__law_take (cCons (cVar 2) (cCons (cSet (cB (b1 lenD) (cCons (cVar 3) cNil))) cNil)))) (cC .non) (Wk Y n k d js th tu) = _
  rw [q_setIx, c, q_st1, if_pos (show isLst (Wk Y n k d js th tu) 4 = true from rfl), po, q_st1, q_setIxK]
  have e9 : ixN (cells true th Y n).length ((js[v] : Nat) : Int) = some js[v] := ixN_at (by rw [cells_len]; exact hz)
  simp only [q_opd1, Wk, List.set_cons_succ, List.set_cons_zero, List.getElem?_cons_succ, List.getElem?_cons_zero, e9]
  rw [cells_set]
theorem k_loop (Y : Nat → List Int) (n k : Nat) (hn : n < 1000) : ∀ (ks : List Nat) (d : D) (m : Nat) (js : List Nat) (th : Nat → Bool) (tu : Option D), Pool d m → m + ks.length < 900000 → (∀ z ∈ js, z < n) → ks.length ≤ js.length → js.length < 1000 → ∃ d' js' th' tu', gone th' n ≤ gone th n + ks.length ∧ Pool d' (m + ks.length) ∧ forL (.nm 5) bodyK (ks.map nt) (Wk Y n k d js th tu) = .nx (Wk Y n k d' js' th' tu')
  | [], d, m, js, th, tu, hp, _, _, _, _ => ⟨d, js, th, tu, Nat.le_refl _, hp, rfl⟩
  | x :: ks, d, m, js, th, tu, hp, hm, hj, hl, h2 => by
    simp only [List.length_cons] at hm hl
    obtain ⟨v, z, d1, hv, hz, hp1, e1⟩ := k_step Y n k hn d m hp (by omega) js hj (by omega) h2 th (some (nt x))
    have el := erase_len hv
    obtain ⟨d', js', th', tu', hg, hp', e2⟩ := k_loop Y n k hn ks d1 (m + 1) (js.eraseIdx v) (lose th z) (some (nt x)) hp1 (by omega) (fun z h => hj z (erase_sub z h)) (by omega) (by omega)
    have h2 := gone_lose th z n
    rw [if_pos hz] at h2
    refine ⟨d', js', th', tu', by rw [List.length_cons]; omega, hp'.mono (by rw [List.length_cons]; omega), ?_⟩
    rw [List.map_cons]
    exact (forL_cons (r1 := Wk Y n k d js th (some (nt x))) rfl e1).trans e2
theorem kept_ok (Y : Nat → List Int) (n k : Nat) (hk : k ≤ n) (hn2 : n < 1000) (d : D) (m : Nat) (hp : Pool d m) (hm : m < 800000) : ∃ th d', gone th n ≤ n - k ∧ Pool d' (m + (n - k)) ∧ F__law_kept d [M false false (tabl Y n), nt k] = .ok (Ce true true th Y n) d' := by
  have le0 := len_at (r := [some (M false false (tabl Y n)), some (nt k), some d, none, none, none, none]) (i := 0) (k := .lst) (o := false) (xs := (tabl Y n).map (I false)) rfl (.inl rfl)
  rw [List.length_map, tabl_len] at le0
  have lr := listRg1_ok le0 (by unfold rgOk within; simp; omega)
  rw [rg_zz] at lr
  have s1 : cAsg (.nm 3) (cListRg1 (cB (b1 lenD) (cCons (cVar 0) cNil))) [some (M false false (tabl Y n)), some (nt k), some d, none, none, none, none] = .nx [some (M false false (tabl Y n)), some (nt k), some d, some (I true (zz (List.range n))), none, none, none] := asg_ok (i := 3) lr
  have it := it_lst (r := [some (M false false (tabl Y n)), some (nt k), some d, some (I true (zz (List.range n))), none, none, none]) (i := 0) (o := false) rfl (frzs_M false (tabl Y n))
  have lc := lc_all (α := List Int) (enc := I false) (g := I true) (fe := cB (gListOf) (cCons (cVar 6) cNil)) (t := .nm 6) (vs := [6]) (r0 := [some (M false false (tabl Y n)), some (nt k), some d, some (I true (zz (List.range n))), none, none, none]) (tabl Y n) it rfl (by rw [tabl_len]; omega) (fun row _ => ⟨_, rfl, _, set_val (listOf_ok (r := [some (M false false (tabl Y n)), some (nt k), some d, some (I true (zz (List.range n))), none, none, some (I false row)]) (i := 6) (o := false) rfl (frzs_ints row)), rfl⟩)
  rw [all_there] at lc
  have s2 : cAsg (.nm 4) (cLc [6] (.nm 6) (iLst (cVar 0)) none (cB (gListOf) (cCons (cVar 6) cNil))) [some (M false false (tabl Y n)), some (nt k), some d, some (I true (zz (List.range n))), none, none, none] = .nx (Wk Y n k d (List.range n) (fun _ => true) none) := asg_ok (i := 4) lc
  have le := len_at (r := Wk Y n k d (List.range n) (fun _ => true) none) (i := 0) (k := .lst) (o := false) (xs := (tabl Y n).map (I false)) rfl (.inl rfl)
  rw [List.length_map, tabl_len] at le
  have it3 := it_rng (sub_nt le (cvar_at (i := 1) (d := nt k) rfl rfl) hk) (by omega)
  obtain ⟨d', js', th', tu', hg, hp', e⟩ := k_loop Y n k hn2 (List.range (n - k)) d m (List.range n) (fun _ => true) none hp (by simp; omega) (fun z h => List.mem_range.mp h) (by simp) (by simp; omega)
  rw [gone_all, List.length_range] at hg
  rw [List.length_range] at hp'
  exact ⟨th', d', by omega, hp', runQ_loc (i := 4) ((seq_nx s1).trans ((seq_nx s2).trans ((seq_nx (for_ok it3 e)).trans (ret_ok (cvar_loc (i := 4) (d := Ce true true th' Y n) rfl rfl))))) (by decide) rfl rfl⟩
end K79

namespace K79
open PySem PySem.Spec PyProof.Rows L2 VL
/-! ### chosen -/
def subs (k : Nat) : Nat → List (List Nat)
  | 0 => [[]]
  | m + 1 => subs k m ++ ((subs k m).filter fun js => decide (js.length < k)).map fun js => js ++ [m]
structure Ris (k m : Nat) (js : List Nat) : Prop where
  up : js.Pairwise (· < ·)
  lt : ∀ j ∈ js, j < m
  le : js.length ≤ k
theorem subs_ris {k : Nat} : ∀ {m : Nat} {js : List Nat}, js ∈ subs k m → Ris k m js
  | 0, js, h => by
    have : js = [] := List.mem_singleton.mp h
    subst this
    exact ⟨.nil, (fun j h => by cases h), Nat.zero_le _⟩
  | m + 1, js, h => by
    rcases List.mem_append.mp h with h | h
    · have := subs_ris h
      exact ⟨this.up, fun j hj => Nat.lt_succ_of_lt (this.lt j hj), this.le⟩
    · obtain ⟨is, h2, rfl⟩ := List.mem_map.mp h
      obtain ⟨h3, h4⟩ := List.mem_filter.mp h2
      have h4 := of_decide_eq_true h4
      have := subs_ris h3
      refine ⟨List.pairwise_append.mpr ⟨this.up, List.pairwise_singleton _ _, fun a ha b hb => by rw [List.mem_singleton.mp hb]; exact this.lt a ha⟩, fun j hj => ?_, by rw [List.length_append, List.length_singleton]; omega⟩
      rcases List.mem_append.mp hj with hj | hj
      · exact Nat.lt_succ_of_lt (this.lt j hj)
      · rw [List.mem_singleton.mp hj]; exact Nat.lt_succ_self m
theorem ris_subs {k : Nat} : ∀ {m : Nat} {js : List Nat}, Ris k m js → js ∈ subs k m
  | 0, js, h => by
    cases js with
    | nil => exact List.mem_singleton.mpr rfl
    | cons j js => exact absurd (h.lt j List.mem_cons_self) (Nat.not_lt_zero _)
  | m + 1, js, h => by
    refine List.mem_append.mpr ?_
    by_cases hm : m ∈ js
    · obtain ⟨l1, l2, e⟩ := List.append_of_mem hm
      subst e
      obtain ⟨u1, u2, u3⟩ := List.pairwise_append.mp h.up
      have e2 : l2 = [] := by
        cases l2 with
        | nil => rfl
        | cons z l2 =>
          have h1 := (List.pairwise_cons.mp u2).1 z List.mem_cons_self
          have h2 := h.lt z (List.mem_append_right _ (List.mem_cons_of_mem _ List.mem_cons_self))
          omega
      subst e2
      have hl := h.le
      rw [List.length_append, List.length_singleton] at hl
      refine .inr (List.mem_map.mpr ⟨l1, List.mem_filter.mpr ⟨ris_subs ⟨u1, fun j hj => u3 j hj m List.mem_cons_self, by omega⟩, decide_eq_true (by omega)⟩, rfl⟩)
    · exact .inl (ris_subs ⟨h.up, fun j hj => by
        have h1 := h.lt j hj
        have h2 : j ≠ m := fun e => hm (e ▸ hj)
        omega, h.le⟩)
theorem subs_len (k : Nat) : ∀ m : Nat, (subs k m).length ≤ 2 ^ m
  | 0 => Nat.le_refl _
  | m + 1 => by
    have ih := subs_len k m
    have h2 := List.length_filter_le (fun js => decide (js.length < k)) (subs k m)
    show (subs k m ++ ((subs k m).filter fun js => decide (js.length < k)).map fun js => js ++ [m]).length ≤ _
    rw [List.length_append, List.length_map, Nat.pow_succ]
    omega
noncomputable abbrev Wc (n k : Nat) (o : Bool) (LS : List (List Nat)) (one : Option D) : Rho := [some (nt n), some (nt k), some (M true o (LS.map zz)), one, none]
noncomputable abbrev bodyC : Sv := (cAsg (.nm 2) (cBin gAdd (cVar 2) (cLc [4] (.nm 4) (iLst (cVar 2)) (some (cBin gLt (cB (b1 lenD) (cCons (cVar 4) cNil)) (cVar 1))) (cBin gAdd (cVar 4) (cLst (cCons (cSet (cVar 3)) cNil))))))
theorem M_map (o o' : Bool) (LS : List (List Nat)) : M o o' (LS.map zz) = .node .lst o (LS.map fun js => I o' (zz js)) := by
  show D.node .lst o ((LS.map zz).map (I o')) = _
  rw [List.map_map]; rfl
theorem c_step (n k : Nat) (hk : k < 1000) (x : Nat) (LS : List (List Nat)) (hl : LS.length < 100000) (hls : ∀ js ∈ LS, js.length < 1000) (o : Bool) : bodyC (Wc n k o LS (some (nt x))) = .nx (Wc n k false (LS ++ (LS.filter fun js => decide (js.length < k)).map fun js => js ++ [x]) (some (nt x))) := by
  have it := it_fz (r := Wc n k o LS (some (nt x))) (i := 2) rfl
  rw [frzs_M, List.map_map] at it
  have it : iLst (cVar 2) (Wc n k o LS (some (nt x))) = .ok (LS.map fun js => I false (zz js)) [some (nt n), some (nt k), some (M false false (LS.map zz)), some (nt x), none] := by
    rw [it]
    show IO.ok _ [some (nt n), some (nt k), some (.node .lst false (LS.map (I false ∘ zz))), some (nt x), none] = _
    rw [M_map]; rfl
  have lc := lc_fl (α := List Nat) (enc := fun js => I false (zz js)) (g := fun js => I true (zz (js ++ [x]))) (p := fun js => decide (js.length < k)) (t := .nm 4) (fc := some (cBin gLt (cB (b1 lenD) (cCons (cVar 4) cNil)) (cVar 1))) (fe := cBin gAdd (cVar 4) (cLst (cCons (cSet (cVar 3)) cNil))) (vs := [4]) (r0 := [some (nt n), some (nt k), some (M false false (LS.map zz)), some (nt x), none]) LS it rfl (by omega) (fun js hjs => by
    refine ⟨[some (nt n), some (nt k), some (M false false (LS.map zz)), some (nt x), some (I false (zz js))], rfl, [some (nt n), some (nt k), some (M false false (LS.map zz)), some (nt x), some (I false (zz js))], ?_, rfl, fun _ => ⟨[some (nt n), some (nt k), some (M false false (LS.map zz)), some (nt x), some (I false (zz js))], ?_, rfl⟩⟩
    · have l := lt_nt (len_I (r := [some (nt n), some (nt k), some (M false false (LS.map zz)), some (nt x), some (I false (zz js))]) (i := 4) (o := false) (xs := zz js) rfl) (cvar_at (i := 1) (d := nt k) rfl rfl)
      rw [zz_len] at l
      exact l
    · have l := lst_ok (ds := [nt x]) (cons_ok (set_val (cvar_at (r := [some (nt n), some (nt k), some (M false false (LS.map zz)), some (nt x), some (I false (zz js))]) (i := 3) (d := nt x) rfl rfl)) (nil_ok _)) rfl (by simp)
      have a := bin_ok (g := gAdd) (cvar_loc (r := [some (nt n), some (nt k), some (M false false (LS.map zz)), some (nt x), some (I false (zz js))]) (i := 4) (d := I false (zz js)) rfl rfl) l (add_fz (o := false) (o' := true) (xs := (zz js).map .int) (ys := [nt x]) (opd_loc' (i := 4) rfl) rfl (frzs_ints _) rfl (by have := hls js hjs; rw [List.length_map, zz_len]; simp; omega) (touch_fz (i := 4) rfl (frzs_ints _)) rfl)
      have e : D.node .lst true ((zz js).map D.int ++ [nt x]) = I true (zz (js ++ [x])) := by
        show _ = D.node .lst true ((zz (js ++ [x])).map D.int)
        unfold zz
        rw [List.map_append, List.map_append]; rfl
      rw [e] at a
      exact set_val a)
  have lc : cLc [4] (.nm 4) (iLst (cVar 2)) (some (cBin gLt (cB (b1 lenD) (cCons (cVar 4) cNil)) (cVar 1))) (cBin gAdd (cVar 4) (cLst (cCons (cSet (cVar 3)) cNil))) (Wc n k o LS (some (nt x))) = .ok (.val (.node .lst true ((LS.filter fun js => decide (js.length < k)).map fun js => I true (zz (js ++ [x]))))) [some (nt n), some (nt k), some (M false false (LS.map zz)), some (nt x), none] := lc
  have hf := List.length_filter_le (fun js : List Nat => decide (js.length < k)) LS
  have ad := bin_ok (g := gAdd) (cvar_loc (r := Wc n k o LS (some (nt x))) (i := 2) (d := M true o (LS.map zz)) rfl rfl) lc (q_addL (o := false) (o' := true) (xs := (LS.map zz).map (I false)) (ys := (LS.filter fun js => decide (js.length < k)).map fun js => I true (zz (js ++ [x]))) (opd_loc' (i := 2) rfl) rfl (by rw [List.length_map, List.length_map, List.length_map]; omega))
  have e : D.node .lst true (frzs ((LS.map zz).map (I false)) ++ frzs ((LS.filter fun js => decide (js.length < k)).map fun js => I true (zz (js ++ [x])))) = M true false ((LS ++ (LS.filter fun js => decide (js.length < k)).map fun js => js ++ [x]).map zz) := by
    rw [frzs_M, frzs_map, List.map_map]
    show _ = D.node .lst true (((LS ++ (LS.filter fun js => decide (js.length < k)).map fun js => js ++ [x]).map zz).map (I false))
    rw [List.map_append, List.map_append, List.map_map, List.map_map, List.map_map, List.map_map]
    congr 2
    exact List.map_congr_left fun js _ => frz_I true _
  rw [e] at ad
  exact asg_ok (i := 2) ad
theorem c_loop (n k : Nat) (hn : n ≤ 16) (hk : k < 1000) : ∀ (m x : Nat) (o : Bool) (u : Option D), x + m = n → ∃ o' u', forL (.nm 3) bodyC ((List.range' x m).map nt) (Wc n k o (subs k x) u) = .nx (Wc n k o' (subs k n) u')
  | 0, x, o, u, h => ⟨o, u, by
      have : x = n := by omega
      subst this; rfl⟩
  | m + 1, x, o, u, h => by
    obtain ⟨o', u', e⟩ := c_loop n k hn hk m (x + 1) false (some (nt x)) (by omega)
    refine ⟨o', u', ?_⟩
    rw [List.range'_succ, List.map_cons]
    have h1 := subs_len k x
    have h2 : 2 ^ x ≤ 2 ^ 16 := Nat.pow_le_pow_right (by decide) (by omega)
    have h3 : (2 : Nat) ^ 16 = 65536 := by decide
    exact (forL_cons (r1 := Wc n k o (subs k x) (some (nt x))) rfl (c_step n k hk x (subs k x) (by omega) (fun js hjs => by have := (subs_ris hjs).le; omega) o)).trans e
def pick (k n : Nat) : List (List Nat) := (subs k n).filter fun js => decide (js.length = k)
theorem chosen_ok (n k : Nat) (hn : n ≤ 16) (hk : k < 1000) : F_chosen [nt n, nt k] = .ok (M true false ((pick k n).map zz)) := by
  have s1 : cAsg (.nm 2) (cLst (cCons (cSet (cLst cNil)) cNil)) (startR 5 [nt n, nt k]) = .nx (Wc n k true (subs k 0) none) := rfl
  have it := it_rng (fa := cVar 0) (r := Wc n k true (subs k 0) none) (n := n) rfl (by omega)
  obtain ⟨o', u', e⟩ := c_loop n k hn hk n 0 true none (by omega)
  rw [← List.range_eq_range'] at e
  have h1 := subs_len k n
  have h2 : 2 ^ n ≤ 2 ^ 16 := Nat.pow_le_pow_right (by decide) (by omega)
  have h3 : (2 : Nat) ^ 16 = 65536 := by decide
  have it2 := it_fz (r := Wc n k o' (subs k n) u') (i := 2) rfl
  rw [frzs_M, List.map_map] at it2
  have lc := lc_fl (α := List Nat) (enc := fun js => I false (zz js)) (g := fun js => I false (zz js)) (p := fun js => decide (js.length = k)) (t := .nm 4) (fc := some (cBin gEq (cB (b1 lenD) (cCons (cVar 4) cNil)) (cVar 1))) (fe := cVar 4) (vs := [4]) (r0 := [some (nt n), some (nt k), some (M false false (subs k n |>.map zz)), u', none]) (subs k n) it2 (by
      show [some (nt n), some (nt k), some (.node .lst false ((subs k n).map (I false ∘ zz))), u', none] = _
      rw [M_map]; rfl) (by omega) (fun js hjs => by
    refine ⟨[some (nt n), some (nt k), some (M false false ((subs k n).map zz)), u', some (I false (zz js))], rfl, [some (nt n), some (nt k), some (M false false ((subs k n).map zz)), u', some (I false (zz js))], ?_, rfl, fun _ => ⟨[some (nt n), some (nt k), some (M false false ((subs k n).map zz)), u', some (I false (zz js))], ?_, rfl⟩⟩
    · have l := eq_ok (len_I (r := [some (nt n), some (nt k), some (M false false ((subs k n).map zz)), u', some (I false (zz js))]) (i := 4) (o := false) (xs := zz js) rfl) (cvar_at (i := 1) (d := nt k) rfl rfl)
      rw [zz_len] at l
      have ed : decide ((js.length : Int) = (k : Int)) = decide (js.length = k) := decide_eq_decide.mpr (by omega)
      rw [ed] at l
      exact l
    · exact set_loc (r := [some (nt n), some (nt k), some (M false false ((subs k n).map zz)), u', some (I false (zz js))]) (i := 4) (o := false) rfl (frzs_ints _))
  have lc : cLc [4] (.nm 4) (iLst (cVar 2)) (some (cBin gEq (cB (b1 lenD) (cCons (cVar 4) cNil)) (cVar 1))) (cVar 4) (Wc n k o' (subs k n) u') = .ok (.val (.node .lst true ((pick k n).map fun js => I false (zz js)))) (backR ((Wc n k o' (subs k n) u').set 2 (some (.node .lst false ((subs k n).map (I false ∘ zz))))) [some (nt n), some (nt k), some (M false false ((subs k n).map zz)), u', none] [4]) := lc
  rw [← M_map] at lc
  exact runF_ok ((seq_nx s1).trans ((seq_nx (for_ok it e)).trans (ret_ok lc))) rfl
theorem pick_ris {k n : Nat} {js : List Nat} (h : js ∈ pick k n) : js.Pairwise (· < ·) ∧ (∀ j ∈ js, j < n) ∧ js.length = k := by
  obtain ⟨h1, h2⟩ := List.mem_filter.mp h
  have := subs_ris h1
  exact ⟨this.up, this.lt, of_decide_eq_true h2⟩
theorem ris_pick {k n : Nat} {js : List Nat} (h1 : js.Pairwise (· < ·)) (h2 : ∀ j ∈ js, j < n) (h3 : js.length = k) : js ∈ pick k n :=
  List.mem_filter.mpr ⟨ris_subs ⟨h1, h2, by omega⟩, decide_eq_true h3⟩
end K79

namespace K79
open PySem PySem.Spec PyProof.Rows L2 VL
/-! ### few wrong rows are put right: the numbers -/
def difN (Y Z : Nat → List Int) (n : Nat) : Nat := ((List.range n).filter fun z => decide (Y z ≠ Z z)).length
theorem cnt2 {α : Type} (p q : α → Bool) : ∀ l : List α, l.length ≤ (l.filter fun z => p z && q z).length + (l.filter fun z => !p z).length + (l.filter fun z => !q z).length
  | [] => Nat.zero_le _
  | z :: l => by
    have ih := cnt2 p q l
    cases hp : p z <;> cases hq : q z <;> simp [List.filter_cons, hp, hq] <;> omega
theorem cnt1 {α : Type} (p : α → Bool) : ∀ l : List α, (l.filter p).length + (l.filter fun z => !p z).length = l.length
  | [] => rfl
  | z :: l => by
    have ih := cnt1 p l
    cases hp : p z <;> simp [List.filter_cons, hp] <;> omega
theorem take_ris {n k : Nat} {p : Nat → Bool} (h : k ≤ ((List.range n).filter p).length) : (((List.range n).filter p).take k).Pairwise (· < ·) ∧ (∀ j ∈ ((List.range n).filter p).take k, j < n ∧ p j = true) ∧ (((List.range n).filter p).take k).length = k := by
  refine ⟨(List.pairwise_lt_range.filter _).sublist (List.take_sublist _ _), fun j hj => ?_, by rw [List.length_take]; omega⟩
  have := List.mem_filter.mp (List.mem_of_mem_take hj)
  exact ⟨List.mem_range.mp this.1, this.2⟩
theorem zz_pair {js : List Nat} (h : js.Pairwise (· < ·)) (hj : ∀ j ∈ js, j < 257) : (zz js).Pairwise (fun a b => ¬ E a b) := by
  unfold zz
  rw [List.pairwise_map]
  refine h.imp_of_mem fun {a b} ha hb hab => ?_
  have := hj a ha
  have := hj b hb
  unfold E
  omega
/-- two columns alike at k rows are alike -/
theorem poly_same {k : Nat} {f g : Int → Int} (hf : Poly k f) (hg : Poly k g) {js : List Nat} (h1 : js.Pairwise (· < ·)) (h2 : ∀ j ∈ js, j < 257) (h3 : js.length = k) (h4 : ∀ j ∈ js, E (f (j : Int)) (g (j : Int))) (x : Int) : E (f x) (g x) := by
  have hp : Poly k (fun x => f x - g x) := hf.sub hg
  have zl : (zz js).length = k := by rw [zz_len, h3]
  have h := Poly.none (zz js) (fun x => f x - g x) (by rw [zl]; exact hp) (zz_pair h1 h2) (fun a ha => by
    obtain ⟨j, hj, rfl⟩ := List.mem_map.mp ha
    have := h4 j hj
    unfold E at this ⊢
    omega) x
  have h : (f x - g x) % 257 = 0 % 257 := h
  show f x % 257 = g x % 257
  omega
structure Put (H : Nat → Int → Int) (Y : Nat → List Int) (w n k : Nat) : Prop where
  k1 : 1 ≤ k
  kn : k ≤ n
  n1 : n ≤ 16
  w1 : w < 700
  cols : Cols k w H
  wide : ∀ z < n, (Y z).length = w
  lo : ∀ z < n, ∀ x ∈ Y z, 0 ≤ x ∧ x < 257
  few : difN Y (rowH H w) n ≤ (n - k) / 2
theorem rows_same {H G : Nat → Int → Int} {k w : Nat} (hH : Cols k w H) (hG : Cols k w G) {js : List Nat} (h1 : js.Pairwise (· < ·)) (h2 : ∀ j ∈ js, j < 257) (h3 : js.length = k) (h4 : ∀ j ∈ js, rowH H w j = rowH G w j) (x : Nat) : rowH H w x = rowH G w x := by
  refine List.map_congr_left fun c hc => ?_
  have hc := List.mem_range.mp hc
  obtain ⟨p1, q1⟩ := hH c hc
  obtain ⟨p2, q2⟩ := hG c hc
  have e := poly_same p1 p2 h1 h2 h3 (fun j hj => by
    have e := congrArg (fun row => row.getD c 0) (h4 j hj)
    unfold rowH at e
    simp only [List.getD_eq_getElem?_getD, List.getElem?_map, List.getElem?_range hc, Option.map_some, Option.getD_some] at e
    rw [e]; exact E.refl _) (x : Int)
  have := q1 x
  have := q2 x
  have e : H c (x : Int) % 257 = G c (x : Int) % 257 := e
  omega
/-- a row by others is a row of columns -/
theorem by_is {Y : Nat → List Int} {w n k : Nat} (hn : n < 257) (hY : ∀ z < n, (Y z).length = w) (hlo : ∀ z < n, ∀ x ∈ Y z, 0 ≤ x ∧ x < 257) {js : List Nat} (h1 : js.Pairwise (· < ·)) (h2 : ∀ j ∈ js, j < n) (h3 : js.length = k) : ∃ G, Cols k w G ∧ ∀ z, byY js Y w z = rowH G w z := by
  have hp := zz_pair h1 (fun j hj => by have := h2 j hj; omega)
  have zl : (zz js).length = k := by rw [zz_len, h3]
  refine ⟨fun c x => lag js Y x c, fun c hc => ⟨?_, fun x => ⟨Int.emod_nonneg _ (by decide), Int.emod_lt_of_pos _ (by decide)⟩⟩, fun z => ?_⟩
  · exact (lag_poly (zz js) k (fun p => (Y p.toNat).getD c 0) (zz js) (fun p h => by have := filter_ne hp h; omega)).congr fun x => E.md _
  · unfold byY
    by_cases hz : z ∈ js
    · rw [if_pos hz]
      have hzn := h2 z hz
      refine List.ext_getElem? fun c => ?_
      unfold rowH
      rw [List.getElem?_map]
      by_cases hc : c < w
      · have hcl : c < (Y z).length := by rw [hY z hzn]; exact hc
        rw [List.getElem?_range hc, List.getElem?_eq_getElem hcl]
        have hm : ((z : Nat) : Int) ∈ zz js := List.mem_map.mpr ⟨z, hz, rfl⟩
        have e := lag_node hp (fun p => (Y p.toNat).getD c 0) hm (zz js) (fun _ h => h) hp
        rw [if_pos hm] at e
        have e : lagS (zz js) (zz js) (fun p => (Y p.toNat).getD c 0) (z : Int) % 257 = (Y ((z : Nat) : Int).toNat).getD c 0 % 257 := e
        have hx := hlo z hzn _ (List.getElem_mem hcl)
        rw [Int.toNat_natCast, List.getD_eq_getElem?_getD, List.getElem?_eq_getElem hcl, Option.getD_some] at e
        show some (Y z)[c] = some (lag js Y (z : Int) c)
        unfold lag
        rw [e]
        congr 1
        omega
      · rw [List.getElem?_eq_none (by rw [hY z hzn]; omega), List.getElem?_eq_none (by rw [List.length_range]; omega)]
        rfl
    · rw [if_neg hz]; rfl
theorem put_there {H : Nat → Int → Int} {Y : Nat → List Int} {w n k : Nat} (h : Put H Y w n k) : ∃ js ∈ pick k n, difN (byY js Y w) Y n ≤ (n - k) / 2 := by
  have hk := h.kn
  have hf := h.few
  have c := cnt1 (fun z => decide (Y z = rowH H w z)) (List.range n)
  have e1 : ((List.range n).filter fun z => !decide (Y z = rowH H w z)) = (List.range n).filter fun z => decide (Y z ≠ rowH H w z) := List.filter_congr fun z _ => by by_cases e : Y z = rowH H w z <;> simp [e]
  rw [e1, List.length_range] at c
  unfold difN at hf
  obtain ⟨t1, t2, t3⟩ := take_ris (n := n) (k := k) (p := fun z => decide (Y z = rowH H w z)) (by omega)
  generalize ((List.range n).filter fun z => decide (Y z = rowH H w z)).take k = js at t1 t2 t3
  refine ⟨js, ris_pick t1 (fun j hj => (t2 j hj).1) t3, ?_⟩
  have hn := h.n1
  obtain ⟨G, hG, eG⟩ := by_is (by omega) h.wide h.lo t1 (fun j hj => (t2 j hj).1) t3
  have same : ∀ x, byY js Y w x = rowH H w x := fun x => by
    rw [eG]
    refine rows_same hG h.cols t1 (fun j hj => by have := (t2 j hj).1; omega) t3 (fun j hj => ?_) x
    rw [← eG]
    have e : byY js Y w j = Y j := if_pos hj
    rw [e]
    exact of_decide_eq_true (t2 j hj).2
  have e2 : difN (byY js Y w) Y n = difN Y (rowH H w) n := by
    unfold difN
    congr 1
    refine List.filter_congr fun z _ => ?_
    rw [same]
    exact decide_eq_decide.mpr ⟨fun h e => h e.symm, fun h e => h e.symm⟩
  rw [e2]
  exact h.few
theorem put_one {H : Nat → Int → Int} {Y : Nat → List Int} {w n k : Nat} (h : Put H Y w n k) {js : List Nat} (hj : js ∈ pick k n) (hd : difN (byY js Y w) Y n ≤ (n - k) / 2) : ∀ x, byY js Y w x = rowH H w x := by
  obtain ⟨t1, t2, t3⟩ := pick_ris hj
  have hn := h.n1
  obtain ⟨G, hG, eG⟩ := by_is (by omega) h.wide h.lo t1 t2 t3
  have hk := h.kn
  have hf := h.few
  have c := cnt2 (fun z => decide (byY js Y w z = Y z)) (fun z => decide (Y z = rowH H w z)) (List.range n)
  have e1 : ((List.range n).filter fun z => !decide (Y z = rowH H w z)) = (List.range n).filter fun z => decide (Y z ≠ rowH H w z) := List.filter_congr fun z _ => by by_cases e : Y z = rowH H w z <;> simp [e]
  have e2 : ((List.range n).filter fun z => !decide (byY js Y w z = Y z)) = (List.range n).filter fun z => decide (byY js Y w z ≠ Y z) := List.filter_congr fun z _ => by by_cases e : byY js Y w z = Y z <;> simp [e]
  rw [e1, e2, List.length_range] at c
  unfold difN at hf hd
  obtain ⟨u1, u2, u3⟩ := take_ris (n := n) (k := k) (p := fun z => decide (byY js Y w z = Y z) && decide (Y z = rowH H w z)) (by omega)
  intro x
  rw [eG]
  refine rows_same hG h.cols u1 (fun j hj => by have := (u2 j hj).1; omega) u3 (fun j hj => ?_) x
  have hb := (u2 j hj).2
  rw [Bool.and_eq_true] at hb
  have b1 := of_decide_eq_true hb.1
  have b2 := of_decide_eq_true hb.2
  rw [← eG, b1, b2]
end K79

namespace K79
open PySem PySem.Spec PyProof.Rows L2 VL
/-! ### put_right -/
theorem M_cells (o o' : Bool) (Y : Nat → List Int) (n : Nat) : M o o' (tabl Y n) = Ce o o' (fun _ => true) Y n := by
  show D.node .lst o ((tabl Y n).map (I o')) = _
  rw [all_there]
noncomputable abbrev Wp (Y : Nat → List Int) (n k : Nat) (pl fo wr : Option D) : Rho := [some (M false false (tabl Y n)), some (nt k), pl, fo, wr, none]
noncomputable abbrev bodyP : Sv := (cSeq (cAsg (.nm 3) (cCall 2 F_all_by (cCons (cVar 0) (cCons (cVar 2) cNil))))
  (cSeq (cAsg (.nm 4) (cPure (cLc [5] (.nm 5) (iRng rngI1 (cCons (cB (b1 lenD) (cCons (cVar 0) cNil)) cNil)) (some (cBin gNe (cBin gIx (cVar 3) (cVar 5)) (cB (gListOf) (cCons (cBin gIx (cVar 0) (cVar 5)) cNil)))) (cVar 5))))
  (cIfS (cBin gLe (cB (b1 lenD) (cCons (cVar 4) cNil)) (cBin gDiv (cBin VL.gSub (cB (b1 lenD) (cCons (cVar 0) cNil)) (cVar 1)) (cC (.int 2)))) (cRet (cVar 3)) cSkip)))
theorem ne_rows {r : Rho} {fa fb : Ev} {o o' : Bool} {xs ys : List Int} (h1 : fa r = .ok (.val (I o xs)) r) (h2 : fb r = .ok (.val (I o' ys)) r) : cBin gNe fa fb r = .ok (.val (.bl (decide (xs ≠ ys)))) r := by
  have e : neD (I o xs) (I o' ys) = some (.bl (decide (xs ≠ ys))) := by
    unfold neD
    rw [eqOk_fp (fp_I o xs) (by decide), eqOk_fp (fp_I o' ys) (by decide)]
    show some (D.bl (!PyData.eqvAll (toPys (xs.map D.int)) (toPys (ys.map D.int)))) = _
    rw [eqv_ints, decide_not]
  exact bin_ok (g := gNe) h1 h2 (g2_ok rfl rfl e rfl)
theorem p_step {H : Nat → Int → Int} {Y : Nat → List Int} {w n k : Nat} (h : Put H Y w n k) {js : List Nat} (hj : js ∈ pick k n) (fo wr : Option D) :
    bodyP (Wp Y n k (some (I false (zz js))) fo wr) = (if difN (byY js Y w) Y n ≤ (n - k) / 2 then .rt (.loc 3) (Wp Y n k (some (I false (zz js))) (some (M true true (tabl (byY js Y w) n))) (some (L true ((List.range n).filter fun z => decide (byY js Y w z ≠ Y z))))) else .nx (Wp Y n k (some (I false (zz js))) (some (M true true (tabl (byY js Y w) n))) (some (L true ((List.range n).filter fun z => decide (byY js Y w z ≠ Y z)))))) := by
  obtain ⟨t1, t2, t3⟩ := pick_ris hj
  have hn := h.n1
  have hk := h.kn
  have ab := all_by_gen (th := fun _ => true) (by omega) h.w1 h.k1 (by omega) h.wide ⟨t3, fun j hj => ⟨t2 j hj, rfl⟩, t1⟩
  rw [← M_cells] at ab
  have ca := call2 (F := F_all_by) (cvar_loc (r := Wp Y n k (some (I false (zz js))) fo wr) (i := 0) (d := M false false (tabl Y n)) rfl rfl) (cvar_loc (i := 2) (d := I false (zz js)) rfl rfl) rfl rfl (by rw [frz_M, frz_I]; exact ab) (noL_M _)
  have s1 : cAsg (.nm 3) (cCall 2 F_all_by (cCons (cVar 0) (cCons (cVar 2) cNil))) (Wp Y n k (some (I false (zz js))) fo wr) = .nx (Wp Y n k (some (I false (zz js))) (some (M true true (tabl (byY js Y w) n))) wr) := asg_ok (i := 3) ca
  generalize byY js Y w = Z at s1 ⊢
  have fr : frzR (Wp Y n k (some (I false (zz js))) (some (M true true (tabl Z n))) wr) = Wp Y n k (some (I false (zz js))) (some (M false false (tabl Z n))) (wr.map frz) := by
    show [some (frz (M false false (tabl Y n))), some (nt k), some (frz (I false (zz js))), some (frz (M true true (tabl Z n))), wr.map frz, none] = _
    rw [frz_M, frz_I, frz_M]
  have le := len_at (r := Wp Y n k (some (I false (zz js))) (some (M false false (tabl Z n))) (wr.map frz)) (i := 0) (k := .lst) (o := false) (xs := (tabl Y n).map (I false)) rfl (.inl rfl)
  rw [List.length_map, tabl_len] at le
  have it := it_rng le (by omega)
  have lc := lc_filt (v := 5) (fc := cBin gNe (cBin gIx (cVar 3) (cVar 5)) (cB (gListOf) (cCons (cBin gIx (cVar 0) (cVar 5)) cNil))) (r0 := Wp Y n k (some (I false (zz js))) (some (M false false (tabl Z n))) (wr.map frz)) (List.range n) (fun z => decide (Z z ≠ Y z)) it rfl rfl (by rw [List.length_range]; omega) (fun z hz => by
    have hz := List.mem_range.mp hz
    have i3 := bin_ok (cvar_loc (r := [some (M false false (tabl Y n)), some (nt k), some (I false (zz js)), some (M false false (tabl Z n)), wr.map frz, some (nt z)]) (i := 3) rfl rfl) (cvar_at (i := 5) (d := nt z) rfl rfl) (ix_fz (i := 3) (o := false) (d := I false (Z z)) rfl (frzs_M false _) (by rw [VL.atI_nat, List.getElem?_map, tabl_at hz]; rfl) (frz_I false _))
    have i0 := bin_ok (cvar_loc (r := [some (M false false (tabl Y n)), some (nt k), some (I false (zz js)), some (M false false (tabl Z n)), wr.map frz, some (nt z)]) (i := 0) rfl rfl) (cvar_at (i := 5) (d := nt z) rfl rfl) (ix_fz (i := 0) (o := false) (d := I false (Y z)) rfl (frzs_M false _) (by rw [VL.atI_nat, List.getElem?_map, tabl_at hz]; rfl) (frz_I false _))
    exact ne_rows i3 (listOf_val i0))
  rw [← fr] at lc
  have nlw : noL (L true ((List.range n).filter fun z => decide (Z z ≠ Y z))) = true := by
    have e : L true ((List.range n).filter fun z => decide (Z z ≠ Y z)) = I true (zz ((List.range n).filter fun z => decide (Z z ≠ Y z))) := by
      show D.node .lst true (_ ) = _
      rw [zz_map]
    rw [e]; exact noL_lints _
  have pu := pure_ok lc nlw
  have s2 : cAsg (.nm 4) (cPure (cLc [5] (.nm 5) (iRng rngI1 (cCons (cB (b1 lenD) (cCons (cVar 0) cNil)) cNil)) (some (cBin gNe (cBin gIx (cVar 3) (cVar 5)) (cB (gListOf) (cCons (cBin gIx (cVar 0) (cVar 5)) cNil)))) (cVar 5))) (Wp Y n k (some (I false (zz js))) (some (M true true (tabl Z n))) wr) = .nx (Wp Y n k (some (I false (zz js))) (some (M true true (tabl Z n))) (some (L true ((List.range n).filter fun z => decide (Z z ≠ Y z))))) := asg_ok (i := 4) pu
  have l4 := len_at (r := Wp Y n k (some (I false (zz js))) (some (M true true (tabl Z n))) (some (L true ((List.range n).filter fun z => decide (Z z ≠ Y z))))) (i := 4) (k := .lst) (o := true) (xs := ((List.range n).filter fun z => decide (Z z ≠ Y z)).map nt) rfl (.inl rfl)
  rw [List.length_map] at l4
  have l0 := len_at (r := Wp Y n k (some (I false (zz js))) (some (M true true (tabl Z n))) (some (L true ((List.range n).filter fun z => decide (Z z ≠ Y z))))) (i := 0) (k := .lst) (o := false) (xs := (tabl Y n).map (I false)) rfl (.inl rfl)
  rw [List.length_map, tabl_len] at l0
  have dv := div_ok (sub_nt l0 (cvar_at (i := 1) (d := nt k) rfl rfl) hk) (cc 2 _) (by decide) (by decide)
  have ge := le_ok l4 dv
  have ed : decide (((((List.range n).filter fun z => decide (Z z ≠ Y z)).length : Nat) : Int) ≤ ((n - k : Nat) : Int) / 2) = decide (difN Z Y n ≤ (n - k) / 2) := decide_eq_decide.mpr (by unfold difN; omega)
  rw [ed] at ge
  show (cSeq _ (cSeq _ _)) _ = _
  rw [seq_nx s1, seq_nx s2]
  by_cases hd : difN Z Y n ≤ (n - k) / 2
  · rw [if_pos hd]
    rw [decide_eq_true hd] at ge
    exact ifs_yes ge (ret_ok (cvar_loc (i := 3) (d := M true true (tabl Z n)) rfl rfl))
  · rw [if_neg hd]
    rw [decide_eq_false hd] at ge
    exact ifs_not ge rfl
theorem p_loop {H : Nat → Int → Int} {Y : Nat → List Int} {w n k : Nat} (h : Put H Y w n k) : ∀ (LS : List (List Nat)) (pl fo wr : Option D), (∀ js ∈ LS, js ∈ pick k n) → (∃ js ∈ LS, difN (byY js Y w) Y n ≤ (n - k) / 2) → ∃ pl' wr', forL (.nm 2) bodyP (LS.map fun js => I false (zz js)) (Wp Y n k pl fo wr) = .rt (.loc 3) (Wp Y n k pl' (some (M true true (tabl (rowH H w) n))) wr')
  | [], pl, fo, wr, _, ⟨js, hjs, _⟩ => by cases hjs
  | js :: LS, pl, fo, wr, hp, he => by
    have st := p_step h (hp js List.mem_cons_self) fo wr
    rw [List.map_cons]
    by_cases hd : difN (byY js Y w) Y n ≤ (n - k) / 2
    · rw [if_pos hd, tabl_congr (Y := byY js Y w) (Z := rowH H w) fun z _ => put_one h (hp js List.mem_cons_self) hd z] at st
      exact ⟨_, _, forL_rt (r1 := Wp Y n k (some (I false (zz js))) fo wr) rfl st⟩
    · rw [if_neg hd] at st
      obtain ⟨pl', wr', e⟩ := p_loop h LS (some (I false (zz js))) (some (M true true (tabl (byY js Y w) n))) (some (L true ((List.range n).filter fun z => decide (byY js Y w z ≠ Y z)))) (fun x hx => hp x (List.mem_cons_of_mem _ hx)) (by
        obtain ⟨is, his, hd2⟩ := he
        rcases List.mem_cons.mp his with e | his
        · subst e; exact absurd hd2 hd
        · exact ⟨is, his, hd2⟩)
      exact ⟨pl', wr', (forL_cons (r1 := Wp Y n k (some (I false (zz js))) fo wr) rfl st).trans e⟩
theorem none_in {r : Rho} {rows : List (List Int)} (h : r[0]? = some (some (M false false rows))) : cBin gIn (cC .non) (cVar 0) r = .ok (.val (.bl false)) r := by
  refine bin_ok (show cC .non r = .ok (.val .non) r from rfl) (cvar_loc h rfl) (g2_ok rfl (opd_loc' h) (?_ : (inD .non (M false false rows)).map D.bl = some (.bl false)) rfl)
  have e2 : eqOk (M false false rows) = true := eqOk_fp (fp_M false false rows) (by decide)
  show ((if (eqOk .non && eqOk (M false false rows)) = true then some ((rows.map (I false)).any fun y => PyData.eqv (toPy y) (toPy .non)) else none)).map D.bl = _
  rw [e2]
  show some (D.bl ((rows.map (I false)).any fun y => PyData.eqv (toPy y) (toPy .non))) = _
  congr 2
  rw [List.any_eq_false]
  intro y hy
  obtain ⟨row, _, rfl⟩ := List.mem_map.mp hy
  exact fun z => nomatch z
theorem put_ok {H : Nat → Int → Int} {Y : Nat → List Int} {w n k : Nat} (h : Put H Y w n k) : F_put_right [M false false (tabl Y n), nt k] = .ok (M true true (tabl (rowH H w) n)) := by
  have hn := h.n1
  have hk := h.kn
  have g0 : gone (fun _ => true) n = 0 := gone_all n
  have nr := need_rows_ok (th := fun _ => true) (Y := Y) (n := n) (k := k) (w := w) ⟨h.k1, by omega, hk, by omega, h.w1, h.wide, h.lo, by omega⟩
  rw [← M_cells] at nr
  have s0 : cExpr (cCall 2 F_need_rows (cCons (cVar 0) (cCons (cVar 1) cNil))) (startR 6 [M false false (tabl Y n), nt k]) = .nx (Wp Y n k none none none) := by
    rw [q_expr, call2 (F := F_need_rows) (r2 := startR 6 [M false false (tabl Y n), nt k]) (d := .non) (cvar_loc (i := 0) (d := M false false (tabl Y n)) rfl rfl) (cvar_at (i := 1) (d := nt k) rfl rfl) rfl rfl (by rw [frz_M]; exact nr) rfl]
    rfl
  have s1 : cIfS (cBin gIn (cC .non) (cVar 0)) (cRaise 1) cSkip (Wp Y n k none none none) = .nx (Wp Y n k none none none) := guard_no (none_in rfl)
  have le := len_at (r := Wp Y n k none none none) (i := 0) (k := .lst) (o := false) (xs := (tabl Y n).map (I false)) rfl (.inl rfl)
  rw [List.length_map, tabl_len] at le
  have cc := chosen_ok n k hn (by omega)
  have cl := call_vals (n := 2) (F := F_chosen) (ds := [nt n, nt k]) (cons_ok le (cons_ok (cvar_at (r := Wp Y n k none none none) (i := 1) (d := nt k) rfl rfl) (nil_ok _))) rfl rfl rfl cc
  have it : iLst (cCall 2 F_chosen (cCons (cB (b1 lenD) (cCons (cVar 0) cNil)) (cCons (cVar 1) cNil))) (Wp Y n k none none none) = .ok ((pick k n).map fun js => I false (zz js)) (Wp Y n k none none none) := by
    show (match cSet (cCall 2 F_chosen (cCons (cB (b1 lenD) (cCons (cVar 0) cNil)) (cCons (cVar 1) cNil))) (Wp Y n k none none none) with | .ok (.val (.node .lst _ ds)) r1 => IO.ok ds r1 | .ok (.val (.node .rd _ ds)) r1 => .ok ds r1 | .exc c r1 => .exc c r1 | _ => .bad) = _
    rw [set_val cl]
    show IO.ok (((pick k n).map zz).map (I false)) _ = _
    rw [List.map_map]; rfl
  obtain ⟨pl', wr', e⟩ := p_loop h (pick k n) none none none (fun _ h => h) (put_there h)
  refine runF_ok ((seq_nx s0).trans ((seq_nx s1).trans (seq_rt (for_ok it e)))) rfl
end K79

namespace K79
open PySem PySem.Spec PyProof.Rows L2 VL
/-! ### _law_right -/
theorem difN_set {Y R : Nat → List Int} {z : Nat} {v : List Int} (n : Nat) : difN (fun x => if x = z then v else Y x) R n ≤ difN Y R n + 1 := by
  have c1 : ((List.range n).filter fun x => decide (x = z)).length ≤ 1 := by
    have h := List.nodup_iff_count.mp (List.nodup_range (n := n)) z
    have e : ((List.range n).filter fun x => decide (x = z)).length = (List.range n).count z := by
      rw [List.count, List.countP_eq_length_filter]
      congr 1
    omega
  have go : ∀ l : List Nat, (l.filter fun x => decide ((if x = z then v else Y x) ≠ R x)).length ≤ (l.filter fun x => decide (Y x ≠ R x)).length + (l.filter fun x => decide (x = z)).length := by
    intro l
    induction l with
    | nil => exact Nat.le_refl _
    | cons x l ih =>
      by_cases hx : x = z
      · subst hx
        have h1 : (List.filter (fun y => decide (y = x)) (x :: l)).length = (List.filter (fun y => decide (y = x)) l).length + 1 := by
          rw [List.filter_cons_of_pos (by simp), List.length_cons]
        have h2 : (List.filter (fun y => decide (Y y ≠ R y)) l).length ≤ (List.filter (fun y => decide (Y y ≠ R y)) (x :: l)).length := by
          rw [List.filter_cons]
          by_cases h : decide (Y x ≠ R x) = true
          · rw [if_pos h, List.length_cons]; omega
          · rw [if_neg h]; exact Nat.le_refl _
        have h3 : (List.filter (fun y => decide ((if y = x then v else Y y) ≠ R y)) (x :: l)).length ≤ (List.filter (fun y => decide ((if y = x then v else Y y) ≠ R y)) l).length + 1 := by
          rw [List.filter_cons]
          by_cases h : decide ((if x = x then v else Y x) ≠ R x) = true
          · rw [if_pos h, List.length_cons]; exact Nat.le_refl _
          · rw [if_neg h]; omega
        omega
      · have h1 : (List.filter (fun y => decide (y = z)) (x :: l)) = List.filter (fun y => decide (y = z)) l := List.filter_cons_of_neg (by simpa using hx)
        rw [h1]
        by_cases h : Y x = R x
        · rw [List.filter_cons_of_neg (by simp [hx, h]), List.filter_cons_of_neg (by simp [h])]
          exact ih
        · rw [List.filter_cons_of_pos (by simp [hx, h]), List.filter_cons_of_pos (by simp [h]), List.length_cons, List.length_cons]
          omega
  have h := go (List.range n)
  show ((List.range n).filter fun x => decide ((if x = z then v else Y x) ≠ R x)).length ≤ ((List.range n).filter fun x => decide (Y x ≠ R x)).length + 1
  omega
theorem difN_self (Y : Nat → List Int) (n : Nat) : difN Y Y n = 0 := by
  unfold difN
  rw [List.length_eq_zero_iff, List.filter_eq_nil_iff]
  intro a _
  simp
theorem rowH_lo {H : Nat → Int → Int} {k w : Nat} (hH : Cols k w H) (z : Nat) : ∀ x ∈ rowH H w z, 0 ≤ x ∧ x < 257 := fun x hx => by
  obtain ⟨c, hc, rfl⟩ := List.mem_map.mp hx
  exact (hH c (List.mem_range.mp hc)).2 _
structure Tab (w n : Nat) (Y : Nat → List Int) : Prop where
  wide : ∀ z < n, (Y z).length = w
  lo : ∀ z < n, ∀ x ∈ Y z, 0 ≤ x ∧ x < 257
theorem Tab.put {w n : Nat} {Y : Nat → List Int} (h : Tab w n Y) {z : Nat} {v : List Int} (hv : v.length = w) (hl : ∀ x ∈ v, 0 ≤ x ∧ x < 257) : Tab w n (fun x => if x = z then v else Y x) where
  wide := fun x hx => by
    show (if x = z then v else Y x).length = w
    by_cases e : x = z
    · rw [if_pos e]; exact hv
    · rw [if_neg e]; exact h.wide x hx
  lo := fun x hx => by
    show ∀ y ∈ (if x = z then v else Y x), 0 ≤ y ∧ y < 257
    by_cases e : x = z
    · rw [if_pos e]; exact hl
    · rw [if_neg e]; exact h.lo x hx
noncomputable abbrev Wr (T : Nat → List Int) (n k : Nat) (d : D) (fo : D) (js : List Nat) (tu at_ nu : Option D) : Rho := [some (M false false (tabl T n)), some (nt k), some d, some fo, some (I true (zz js)), tu, at_, none, nu]
noncomputable abbrev elR : Ev := (cBin gMod (cBin gAdd (cBin gAdd (cVar 8) (cC (.int 1))) (cCallQ 0 1 F__law_take (cCons (cVar 2) (cCons (cSet (cC (.int 256))) cNil)))) (cC (.int 257)))
theorem el_loop (T : Nat → List Int) (n k : Nat) (fo : D) (js : List Nat) (tu at_ : Option D) : ∀ (xs acc : List Int) (d : D) (m : Nat), Pool d m → m + xs.length < 900000 → acc.length + xs.length < 10000 → (∀ x ∈ acc, 0 ≤ x ∧ x < 257) → ∃ (ys : List Int) (d' : D), ys.length = acc.length + xs.length ∧ (∀ x ∈ ys, 0 ≤ x ∧ x < 257) ∧ Pool d' (m + xs.length) ∧ lcL (.nm 8) none elR [8] (xs.map .int) (acc.map .int) (Wr T n k d fo js tu at_ none) = .ok (ys.map .int) (Wr T n k d' fo js tu at_ none)
  | [], acc, d, m, hp, _, _, ha => ⟨acc, d, rfl, ha, hp, rfl⟩
  | x :: xs, acc, d, m, hp, hm, hl, ha => by
    simp only [List.length_cons] at hm hl
    obtain ⟨v, d1, e1, hv, hp1⟩ := takeQ (r := Wr T n k d fo js tu at_ (some (.int x))) (i := 2) (fa := cC (.int 256)) (m := 256) rfl hp (by omega) rfl (hp.var rfl) (by decide) (by decide)
    have st := mod_ok (add_ok (add_ok (cvar_at (r := Wr T n k d fo js tu at_ (some (.int x))) (i := 8) (d := .int x) rfl rfl) (cc 1 _)) e1) (cc 257 _) (by decide)
    obtain ⟨ys, d', h1, h2, h3, e2⟩ := el_loop T n k fo js tu at_ xs (acc ++ [(x + 1 + (v : Int)) % 257]) d1 (m + 1) hp1 (by omega) (by rw [List.length_append, List.length_singleton]; omega) (fun y hy => by
      rcases List.mem_append.mp hy with hy | hy
      · exact ha y hy
      · rw [List.mem_singleton.mp hy]; omega)
    refine ⟨ys, d', by rw [h1, List.length_append, List.length_singleton, List.length_cons]; omega, h2, h3.mono (by rw [List.length_cons]; omega), ?_⟩
    have e3 : cSet elR (Wr T n k d fo js tu at_ (some (.int x))) = .ok (.val (.int ((x + 1 + (v : Int)) % 257))) (Wr T n k d1 fo js tu at_ (some (.int x))) := set_val st
    show (match cSet elR (Wr T n k d fo js tu at_ (some (.int x))) with | .ok (.val z) r3 => if (acc.map D.int).length < 16777216 then lcL (.nm 8) none elR [8] (xs.map .int) (acc.map D.int ++ [z]) (wipeR r3 [8]) else .bad | _ => LO.bad) = _
    rw [e3]
    show (if (acc.map D.int).length < 16777216 then lcL (.nm 8) none elR [8] (xs.map .int) (acc.map D.int ++ [D.int ((x + 1 + (v : Int)) % 257)]) (Wr T n k d1 fo js tu at_ none) else .bad) = _
    rw [if_pos (by rw [List.length_map]; omega), show acc.map D.int ++ [D.int ((x + 1 + (v : Int)) % 257)] = (acc ++ [(x + 1 + (v : Int)) % 257]).map D.int by rw [List.map_append]; rfl]
    exact e2
noncomputable abbrev bodyW : Sv := (cSeq (cAsg (.nm 6) (cPopI 4 (cCallQ 0 1 F__law_take (cCons (cVar 2) (cCons (cSet (cB (b1 lenD) (cCons (cVar 4) cNil))) cNil)))))
  (cSetIx 3 (cVar 6) (cLc [8] (.nm 8) (iLst (cMoveIx 3 (cVar 6))) none elR)))
theorem w_step (T Y : Nat → List Int) (n k w : Nat) (hn : n < 1000) (hw : w < 1000) (hY : Tab w n Y) (d : D) (m : Nat) (hp : Pool d m) (hm : m < 800000) (js : List Nat) (hj : ∀ z ∈ js, z < n) (h1 : 1 ≤ js.length) (h2 : js.length < 1000) (tu at_ : Option D) : ∃ (v z : Nat) (row : List Int) (d' : D), v < js.length ∧ row.length = w ∧ (∀ x ∈ row, 0 ≤ x ∧ x < 257) ∧ Pool d' (m + 1 + w) ∧ bodyW (Wr T n k d (M true true (tabl Y n)) js tu at_ none) = .nx (Wr T n k d' (M true true (tabl (fun x => if x = z then row else Y x) n)) (js.eraseIdx v) tu (some (nt z)) none) := by
  have le := len_I (r := Wr T n k d (M true true (tabl Y n)) js tu at_ none) (i := 4) (o := true) (xs := zz js) rfl
  rw [zz_len] at le
  obtain ⟨v, d1, t, hv, hp1⟩ := takeQ (r := Wr T n k d (M true true (tabl Y n)) js tu at_ none) (i := 2) (fa := cB (b1 lenD) (cCons (cVar 4) cNil)) (m := js.length) rfl hp (by omega) le (hp.var rfl) (by omega) (by omega)
  have po := popI_ok (i := 4) (v := v) (xs := zz js) (y := ((js[v] : Nat) : Int)) rfl t rfl (zz_at hv) (by omega)
  rw [zz_erase] at po
  have hz : js[v] < n := hj _ (List.getElem_mem hv)
  generalize js[v] = z at po hz
  have s1 : cAsg (.nm 6) (cPopI 4 (cCallQ 0 1 F__law_take (cCons (cVar 2) (cCons (cSet (cB (b1 lenD) (cCons (cVar 4) cNil))) cNil)))) (Wr T n k d (M true true (tabl Y n)) js tu at_ none) = .nx (Wr T n k d1 (M true true (tabl Y n)) (js.eraseIdx v) tu (some (nt z)) none) := asg_ok (i := 6) po
  have hix : ixN ((tabl Y n).map (I true)).length ((z : Nat) : Int) = some z := ixN_at (by rw [List.length_map, tabl_len]; exact hz)
  have mv := moveIx_ok (i := 3) (m := z) (kk := ((z : Nat) : Int)) (k := .lst) (o := true) (ds := (tabl Y n).map (I true)) (d := I true (Y z)) (fk := cVar 6) (r := Wr T n k d1 (M true true (tabl Y n)) (js.eraseIdx v) tu (some (nt z)) none) rfl (cvar_at (i := 6) (d := nt z) rfl rfl) rfl rfl hix (by rw [List.getElem?_map, tabl_at hz]; rfl)
  have it : iLst (cMoveIx 3 (cVar 6)) (Wr T n k d1 (M true true (tabl Y n)) (js.eraseIdx v) tu (some (nt z)) none) = .ok ((Y z).map .int) (Wr T n k d1 (.node .lst true (((tabl Y n).map (I true)).set z .any)) (js.eraseIdx v) tu (some (nt z)) none) := by
    show (match cSet (cMoveIx 3 (cVar 6)) (Wr T n k d1 (M true true (tabl Y n)) (js.eraseIdx v) tu (some (nt z)) none) with | .ok (.val (.node .lst _ ds)) r1 => IO.ok ds r1 | .ok (.val (.node .rd _ ds)) r1 => .ok ds r1 | .exc c r1 => .exc c r1 | _ => .bad) = _
    rw [set_val mv]
    rfl
  obtain ⟨ys, d2, g1, g2, g3, e2⟩ := el_loop T n k (.node .lst true (((tabl Y n).map (I true)).set z .any)) (js.eraseIdx v) tu (some (nt z)) (Y z) [] d1 (m + 1) hp1 (by rw [hY.wide z hz]; omega) (by rw [hY.wide z hz]; simp; omega) (fun x hx => by cases hx)
  rw [hY.wide z hz] at g1 g3
  have g1 : ys.length = w := by simpa using g1
  have lc : cLc [8] (.nm 8) (iLst (cMoveIx 3 (cVar 6))) none elR (Wr T n k d1 (M true true (tabl Y n)) (js.eraseIdx v) tu (some (nt z)) none) = .ok (.val (I true ys)) (Wr T n k d2 (.node .lst true (((tabl Y n).map (I true)).set z .any)) (js.eraseIdx v) tu (some (nt z)) none) := by
    rw [q_lc, it]
    show (match lcL (.nm 8) none elR [8] ((Y z).map .int) (([] : List Int).map .int) (Wr T n k d1 (.node .lst true (((tabl Y n).map (I true)).set z .any)) (js.eraseIdx v) tu (some (nt z)) none) with | .ok acc r2 => EO.ok (.val (.node .lst true acc)) (backR (Wr T n k d1 (.node .lst true (((tabl Y n).map (I true)).set z .any)) (js.eraseIdx v) tu (some (nt z)) none) r2 [8]) | .bad => .bad) = _
    rw [e2]
    rfl
  refine ⟨v, z, ys, d2, hv, g1, g2, g3, ?_⟩
  show (cSeq _ _) _ = _
  rw [seq_nx s1, q_setIx, set_val lc, q_st1, if_pos (show isLst (Wr T n k d2 (.node .lst true (((tabl Y n).map (I true)).set z .any)) (js.eraseIdx v) tu (some (nt z)) none) 3 = true from rfl), cvar_at (r := Wr T n k d2 (.node .lst true (((tabl Y n).map (I true)).set z .any)) (js.eraseIdx v) tu (some (nt z)) none) (i := 6) (d := nt z) rfl rfl, q_st1, q_setIxK]
  have e9 : ixN (((tabl Y n).map (I true)).set z .any).length ((z : Nat) : Int) = some z := ixN_at (by rw [List.length_set, List.length_map, tabl_len]; exact hz)
  simp only [q_opd1, Wr, List.set_cons_succ, List.set_cons_zero, List.getElem?_cons_succ, List.getElem?_cons_zero, e9]
  rw [List.set_set, ← tabl_set, ← List.map_set]
theorem w_loop (T : Nat → List Int) (n k w : Nat) (hn : n < 1000) (hw : w < 1000) : ∀ (ks : List Nat) (Y : Nat → List Int) (d : D) (m : Nat) (js : List Nat) (tu at_ : Option D), Tab w n Y → Pool d m → m + ks.length * (1 + w) < 800000 → (∀ z ∈ js, z < n) → ks.length ≤ js.length → js.length < 1000 → ∃ Y' d' js' tu' at', Tab w n Y' ∧ difN Y' T n ≤ difN Y T n + ks.length ∧ Pool d' (m + ks.length * (1 + w)) ∧ forL (.nm 5) bodyW (ks.map nt) (Wr T n k d (M true true (tabl Y n)) js tu at_ none) = .nx (Wr T n k d' (M true true (tabl Y' n)) js' tu' at' none)
  | [], Y, d, m, js, tu, at_, hY, hp, _, _, _, _ => ⟨Y, d, js, tu, at_, hY, Nat.le_refl _, hp.mono (by omega), rfl⟩
  | x :: ks, Y, d, m, js, tu, at_, hY, hp, hm, hj, hl, h2 => by
    have em : (ks.length + 1) * (1 + w) = ks.length * (1 + w) + (1 + w) := by rw [Nat.add_mul, Nat.one_mul]
    simp only [List.length_cons] at hm hl
    rw [em] at hm
    obtain ⟨v, z, row, d1, hv, r1, r2, hp1, e1⟩ := w_step T Y n k w hn hw hY d m hp (by omega) js hj (by omega) h2 (some (nt x)) at_
    have el := erase_len hv
    obtain ⟨Y', d', js', tu', at', hY', hd, hp', e2⟩ := w_loop T n k w hn hw ks (fun x => if x = z then row else Y x) d1 (m + 1 + w) (js.eraseIdx v) (some (nt x)) (some (nt z)) (hY.put r1 r2) hp1 (by omega) (fun z h => hj z (erase_sub z h)) (by omega) (by omega)
    have hs := difN_set (Y := Y) (R := T) (z := z) (v := row) n
    refine ⟨Y', d', js', tu', at', hY', by rw [List.length_cons]; omega, hp'.mono (by rw [List.length_cons, em]; omega), ?_⟩
    rw [List.map_cons]
    exact (forL_cons (r1 := Wr T n k d (M true true (tabl Y n)) js (some (nt x)) at_ none) rfl e1).trans e2
theorem right_ok {H : Nat → Int → Int} {w n k : Nat} (hH : Cols k w H) (hk1 : 1 ≤ k) (hk : k ≤ n) (hn : n ≤ 16) (hw : w < 100) (d : D) (m : Nat) (hp : Pool d m) (hm : m < 700000) : ∃ d', F__law_right d [M false false (tabl (rowH H w) n), nt k] = .ok (.bl true) d' := by
  have it := it_lst (r := [some (M false false (tabl (rowH H w) n)), some (nt k), some d, none, none, none, none, none, none]) (i := 0) (o := false) rfl (frzs_M false (tabl (rowH H w) n))
  have lc := lc_all (α := List Int) (enc := I false) (g := I true) (fe := cB (gListOf) (cCons (cVar 7) cNil)) (t := .nm 7) (vs := [7]) (r0 := [some (M false false (tabl (rowH H w) n)), some (nt k), some d, none, none, none, none, none, none]) (tabl (rowH H w) n) it rfl (by rw [tabl_len]; omega) (fun row _ => ⟨_, rfl, _, set_val (listOf_ok (r := [some (M false false (tabl (rowH H w) n)), some (nt k), some d, none, none, none, none, some (I false row), none]) (i := 7) (o := false) rfl (frzs_ints row)), rfl⟩)
  have s1 : cAsg (.nm 3) (cLc [7] (.nm 7) (iLst (cVar 0)) none (cB (gListOf) (cCons (cVar 7) cNil))) [some (M false false (tabl (rowH H w) n)), some (nt k), some d, none, none, none, none, none, none] = .nx [some (M false false (tabl (rowH H w) n)), some (nt k), some d, some (M true true (tabl (rowH H w) n)), none, none, none, none, none] := asg_ok (i := 3) lc
  have le0 := len_at (r := [some (M false false (tabl (rowH H w) n)), some (nt k), some d, some (M true true (tabl (rowH H w) n)), none, none, none, none, none]) (i := 0) (k := .lst) (o := false) (xs := (tabl (rowH H w) n).map (I false)) rfl (.inl rfl)
  rw [List.length_map, tabl_len] at le0
  have lr := listRg1_ok le0 (by unfold rgOk within; simp; omega)
  rw [rg_zz] at lr
  have s2 : cAsg (.nm 4) (cListRg1 (cB (b1 lenD) (cCons (cVar 0) cNil))) [some (M false false (tabl (rowH H w) n)), some (nt k), some d, some (M true true (tabl (rowH H w) n)), none, none, none, none, none] = .nx (Wr (rowH H w) n k d (M true true (tabl (rowH H w) n)) (List.range n) none none none) := asg_ok (i := 4) lr
  have le := len_at (r := Wr (rowH H w) n k d (M true true (tabl (rowH H w) n)) (List.range n) none none none) (i := 0) (k := .lst) (o := false) (xs := (tabl (rowH H w) n).map (I false)) rfl (.inl rfl)
  rw [List.length_map, tabl_len] at le
  have dv := div_ok (sub_nt le (cvar_at (i := 1) (d := nt k) rfl rfl) hk) (cc 2 _) (by decide) (by decide)
  have dv : cBin gDiv (cBin VL.gSub (cB (b1 lenD) (cCons (cVar 0) cNil)) (cVar 1)) (cC (.int 2)) (Wr (rowH H w) n k d (M true true (tabl (rowH H w) n)) (List.range n) none none none) = .ok (.val (nt ((n - k) / 2))) (Wr (rowH H w) n k d (M true true (tabl (rowH H w) n)) (List.range n) none none none) := dv
  have it3 := it_rng dv (by omega)
  have hb : (List.range ((n - k) / 2)).length * (1 + w) ≤ 8 * 100 := Nat.mul_le_mul (by rw [List.length_range]; omega) (by omega)
  obtain ⟨Y', d', js', tu', at', hY', hd, hp', e⟩ := w_loop (rowH H w) n k w (by omega) (by omega) (List.range ((n - k) / 2)) (rowH H w) d m (List.range n) none none ⟨fun z _ => rowH_len H w z, fun z _ => rowH_lo hH z⟩ hp (by omega) (fun z h => List.mem_range.mp h) (by simp; omega) (by simp; omega)
  rw [difN_self, List.length_range] at hd
  have pu := put_ok (H := H) (Y := Y') (w := w) (n := n) (k := k) ⟨hk1, hk, hn, by omega, hH, hY'.wide, hY'.lo, by omega⟩
  have ca := call2 (F := F_put_right) (cvar_loc (r := Wr (rowH H w) n k d' (M true true (tabl Y' n)) js' tu' at' none) (i := 3) (d := M true true (tabl Y' n)) rfl rfl) (cvar_at (i := 1) (d := nt k) rfl rfl) rfl rfl (by rw [frz_M]; exact pu) (noL_M _)
  have q := bin_ok (g := gEq) ca (cvar_loc (i := 0) rfl rfl) (g2_ok rfl (opd_loc' (i := 0) rfl) (eqD_same (fp_M true true (tabl (rowH H w) n)) (by decide) (toPy_M true true false false _)) rfl)
  exact ⟨d', runQ_ok ((seq_nx s1).trans ((seq_nx s2).trans ((seq_nx (for_ok it3 e)).trans (ret_ok q)))) rfl⟩
end K79

namespace K79
open PySem PySem.Spec PyProof.Rows L2 VL
/-! ### the law -/
theorem touchM {r : Rho} {i : Nat} {o o' : Bool} {rows : List (List Int)} (h : r[i]? = some (some (M o o' rows))) : touch r (.loc i) = r.set i (some (M o false rows)) := by
  unfold touch
  simp only [h]
  show r.set i (some (.node .lst o (frzs (rows.map (I o'))))) = _
  rw [frzs_M]
theorem slM_to {r : Rho} {i : Nat} {o o' : Bool} {rows : List (List Int)} {m : Nat} {fh : Ev} (h : r[i]? = some (some (M o o' rows))) (hh : fh r = .ok (.val (nt m)) r) : cSl (cVar i) none (some fh) r = .ok (.val (M true false (rows.take m))) (r.set i (some (M o false rows))) := by
  rw [q_sl, cvar_loc h rfl, bd_ok, q_part0, part_ok hh, q_gSl, opd_loc' h]
  show EO.ok (.val (.node .lst true (VL.cutD (frzs (rows.map (I o'))) none (some ((m : Nat) : Int))))) (touch r (.loc i)) = _
  rw [touchM h, frzs_M, cutD_to, ← List.map_take]
theorem slM_of {r : Rho} {i : Nat} {o o' : Bool} {rows : List (List Int)} {m : Nat} {fl : Ev} (h : r[i]? = some (some (M o o' rows))) (hh : fl r = .ok (.val (nt m)) r) : cSl (cVar i) (some fl) none r = .ok (.val (M true false (rows.drop m))) (r.set i (some (M o false rows))) := by
  rw [q_sl, cvar_loc h rfl, bd_ok, part_ok hh, q_part0, q_gSl, opd_loc' h]
  show EO.ok (.val (.node .lst true (VL.cutD (frzs (rows.map (I o'))) (some ((m : Nat) : Int)) none))) (touch r (.loc i)) = _
  rw [touchM h, frzs_M, cutD_of, ← List.map_drop]
theorem it_rng2 {fa fb : Ev} {r : Rho} {a b : Nat} (h1 : fa r = .ok (.val (nt a)) r) (h2 : fb r = .ok (.val (nt b)) r) (ha : a ≤ 1000000) (hb : b ≤ 1000000) : iRng rngI2 (cCons fa (cCons fb cNil)) r = .ok ((List.range' a (b - a)).map nt) r := by
  rw [q_iRng, cons_ok h1 (cons_ok h2 (nil_ok _))]
  show (if (within (a : Int) && within (b : Int)) = true then IO.ok (rngD a 1 ((b : Int) - a).toNat) r else .bad) = _
  rw [if_pos (by unfold within; simp; omega)]
  congr 1
  unfold rngD
  rw [show ((b : Int) - a).toNat = b - a by omega, List.range'_eq_map_range, List.map_map]
  refine List.map_congr_left fun i _ => ?_
  show D.int ((a : Int) + (i : Int) * 1) = D.int ((a + i : Nat) : Int)
  congr 1
  omega
noncomputable abbrev V9 (ns : List Int) (k r : Nat) (slab rows : List (List Int)) (o : Bool) (many : Nat) (at_ po told : Option D) : Rho := [some (script ns), some (nt k), some (nt r), some (M true false slab), some (M o false rows), some (nt many), at_, po, told]
noncomputable abbrev bodyL : Sv := (cSeq (cAsg (.nm 7) (cCall 2 F__law_pool (cCons (cVar 0) (cCons (cVar 6) cNil))))
  (cSeq (cAsg (.nm 8) (cCall 2 F_mend_rows (cCons (cCallQ 2 2 F__law_kept (cCons (cSet (cVar 4)) (cCons (cSet (cVar 1)) (cCons (cVar 7) cNil)))) (cCons (cVar 1) cNil))))
  (cSeq (cIfS (cOr (cBin gNe (cVar 8) (cVar 4)) (cBin gNe (cCall 2 F_spares_of (cCons (cSl (cVar 8) none (some (cVar 1))) (cCons (cVar 2) cNil))) (cSl (cVar 8) (some (cVar 1)) none))) (cRet (cC (.bl false))) cSkip)
  (cIfS (cAnd (cBin gLt (cB (b1 lenD) (cCons (cVar 4) cNil)) (cC (.int 9))) (cNot (cCallQ 2 2 F__law_right (cCons (cSet (cVar 4)) (cCons (cSet (cVar 1)) (cCons (cVar 7) cNil)))))) (cRet (cC (.bl false))) cSkip))))
theorem at_step (ns : List Int) (k r w : Nat) (slab : List (List Int)) (hl : slab.length = k) (hS : Rows w slab) (hk1 : 1 ≤ k) (hk2 : k ≤ 64) (hr : r ≤ 16) (hw : w < 7) (H : Nat → Int → Int) (hH : Cols k w H) (hT : tabl (rowH H w) (k + r) = slab ++ spares slab w r) (o : Bool) (many a : Nat) (ha : a < 1000) (po told : Option D) :
    ∃ po' told', bodyL (V9 ns k r slab (tabl (rowH H w) (k + r)) o many (some (nt a)) po told) = .nx (V9 ns k r slab (tabl (rowH H w) (k + r)) false many (some (nt a)) po' told') := by
  obtain ⟨p, ep, hp, nl⟩ := pool_ok ns a
  have c1 := call2 (F := F__law_pool) (cvar_loc (r := V9 ns k r slab (tabl (rowH H w) (k + r)) o many (some (nt a)) po told) (i := 0) (d := script ns) rfl rfl) (cvar_at (i := 6) (d := nt a) rfl rfl) rfl rfl (by rw [frz_script]; exact ep) nl
  have s1 : cAsg (.nm 7) (cCall 2 F__law_pool (cCons (cVar 0) (cCons (cVar 6) cNil))) (V9 ns k r slab (tabl (rowH H w) (k + r)) o many (some (nt a)) po told) = .nx (V9 ns k r slab (tabl (rowH H w) (k + r)) o many (some (nt a)) (some p) told) := asg_ok (i := 7) c1
  obtain ⟨th, d1, hg, hp1, ek⟩ := kept_ok (rowH H w) (k + r) k (by omega) (by omega) p (7 * a) hp (by omega)
  have good : Good th (rowH H w) (k + r) k w := ⟨hk1, hk2, by omega, by omega, by omega, fun z _ => rowH_len H w z, fun z _ => rowH_lo hH z, by omega⟩
  have mend := mend_ok good hH
  have a1 : cSet (cVar 4) (V9 ns k r slab (tabl (rowH H w) (k + r)) o many (some (nt a)) (some p) told) = .ok (.val (frz (M o false (tabl (rowH H w) (k + r))))) [some (script ns), some (nt k), some (nt r), some (M true false slab), some (frz (M o false (tabl (rowH H w) (k + r)))), some (nt many), some (nt a), some p, told] := rfl
  rw [frz_M] at a1
  have a2 := set_val (cvar_at (r := V9 ns k r slab (tabl (rowH H w) (k + r)) false many (some (nt a)) (some p) told) (i := 1) (d := nt k) rfl rfl)
  have ck := callQ_loc (q := 2) (n := 2) (i := 7) (F := F__law_kept) (xs := [.val (M false false (tabl (rowH H w) (k + r))), .val (nt k), .loc 7]) (rest := []) (ds1 := [M false false (tabl (rowH H w) (k + r)), nt k]) (ds2 := []) (cons_ok a1 (cons_ok a2 (cons_ok (hp.var rfl) (nil_ok _)))) rfl rfl rfl rfl rfl (by
    show F__law_kept p [frz (M false false (tabl (rowH H w) (k + r))), nt k] = _
    rw [frz_M]; exact ek)
  have cm := call2 (F := F_mend_rows) ck (cvar_at (r := V9 ns k r slab (tabl (rowH H w) (k + r)) false many (some (nt a)) (some d1) told) (i := 1) (d := nt k) rfl rfl) rfl rfl (by rw [frz_Ce]; exact mend) (noL_M _)
  have s2 := asg_ok (i := 8) cm
  have s2 : cAsg (.nm 8) (cCall 2 F_mend_rows (cCons (cCallQ 2 2 F__law_kept (cCons (cSet (cVar 4)) (cCons (cSet (cVar 1)) (cCons (cVar 7) cNil)))) (cCons (cVar 1) cNil))) (V9 ns k r slab (tabl (rowH H w) (k + r)) o many (some (nt a)) (some p) told) = .nx (V9 ns k r slab (tabl (rowH H w) (k + r)) false many (some (nt a)) (some d1) (some (M true true (tabl (rowH H w) (k + r))))) := s2
  have n84 := bin_ok (g := gNe) (cvar_loc (r := V9 ns k r slab (tabl (rowH H w) (k + r)) false many (some (nt a)) (some d1) (some (M true true (tabl (rowH H w) (k + r))))) (i := 8) rfl rfl) (cvar_loc (i := 4) rfl rfl) (g2_ok (opd_loc' (i := 8) rfl) (opd_loc' (i := 4) rfl) (neD_same (fp_M true true _) (by decide) (toPy_M true true false false _)) rfl)
  have et : (tabl (rowH H w) (k + r)).take k = slab := by rw [hT, ← hl, List.take_left]
  have ed : (tabl (rowH H w) (k + r)).drop k = spares slab w r := by rw [hT, ← hl, List.drop_left]
  have sl1 := slM_to (r := V9 ns k r slab (tabl (rowH H w) (k + r)) false many (some (nt a)) (some d1) (some (M true true (tabl (rowH H w) (k + r))))) (i := 8) (o := true) (o' := true) (fh := cVar 1) (m := k) rfl rfl
  rw [et] at sl1
  have sp := spares_ok hS (by omega) (by omega) hw r hr
  have cs := call2 (F := F_spares_of) sl1 (cvar_at (r := V9 ns k r slab (tabl (rowH H w) (k + r)) false many (some (nt a)) (some d1) (some (M true false (tabl (rowH H w) (k + r))))) (i := 2) (d := nt r) rfl rfl) rfl rfl (by rw [frz_M]; exact sp) (noL_M _)
  have sl2 := slM_of (r := V9 ns k r slab (tabl (rowH H w) (k + r)) false many (some (nt a)) (some d1) (some (M true false (tabl (rowH H w) (k + r))))) (i := 8) (o := true) (o' := false) (fl := cVar 1) (m := k) rfl rfl
  rw [ed] at sl2
  have ns2 := bin_ok (g := gNe) cs sl2 (g2_ok rfl rfl (neD_same (fp_M true true _) (by decide) (toPy_M true true true false _)) rfl)
  have s3 : cIfS (cOr (cBin gNe (cVar 8) (cVar 4)) (cBin gNe (cCall 2 F_spares_of (cCons (cSl (cVar 8) none (some (cVar 1))) (cCons (cVar 2) cNil))) (cSl (cVar 8) (some (cVar 1)) none))) (cRet (cC (.bl false))) cSkip (V9 ns k r slab (tabl (rowH H w) (k + r)) false many (some (nt a)) (some d1) (some (M true true (tabl (rowH H w) (k + r))))) = .nx (V9 ns k r slab (tabl (rowH H w) (k + r)) false many (some (nt a)) (some d1) (some (M true false (tabl (rowH H w) (k + r))))) := ifs_not (or_no n84 ns2) rfl
  have le := len_at (r := V9 ns k r slab (tabl (rowH H w) (k + r)) false many (some (nt a)) (some d1) (some (M true false (tabl (rowH H w) (k + r))))) (i := 4) (k := .lst) (o := false) (xs := (tabl (rowH H w) (k + r)).map (I false)) rfl (.inl rfl)
  rw [List.length_map, tabl_len] at le
  have l9 := lt_nt (j := 9) le (cc 9 _)
  by_cases h9 : k + r < 9
  · rw [decide_eq_true h9] at l9
    obtain ⟨d2, er⟩ := right_ok (k := k) (n := k + r) hH hk1 (by omega) (by omega) (by omega) d1 (7 * a + (k + r - k)) hp1 (by omega)
    have b1 : cSet (cVar 4) (V9 ns k r slab (tabl (rowH H w) (k + r)) false many (some (nt a)) (some d1) (some (M true false (tabl (rowH H w) (k + r))))) = .ok (.val (frz (M false false (tabl (rowH H w) (k + r))))) [some (script ns), some (nt k), some (nt r), some (M true false slab), some (frz (M false false (tabl (rowH H w) (k + r)))), some (nt many), some (nt a), some d1, some (M true false (tabl (rowH H w) (k + r)))] := rfl
    rw [frz_M] at b1
    have b2 := set_val (cvar_at (r := V9 ns k r slab (tabl (rowH H w) (k + r)) false many (some (nt a)) (some d1) (some (M true false (tabl (rowH H w) (k + r))))) (i := 1) (d := nt k) rfl rfl)
    have cr := callQ_loc (q := 2) (n := 2) (i := 7) (F := F__law_right) (xs := [.val (M false false (tabl (rowH H w) (k + r))), .val (nt k), .loc 7]) (rest := []) (ds1 := [M false false (tabl (rowH H w) (k + r)), nt k]) (ds2 := []) (cons_ok b1 (cons_ok b2 (cons_ok (hp1.var rfl) (nil_ok _)))) rfl rfl rfl rfl rfl (by
      show F__law_right d1 [frz (M false false (tabl (rowH H w) (k + r))), nt k] = _
      rw [frz_M]; exact er)
    have s4 := ifs_not (f := cRet (cC (.bl false))) (g := cSkip) (and_yes l9 (not_ok cr)) rfl
    exact ⟨_, _, (seq_nx s1).trans ((seq_nx s2).trans ((seq_nx s3).trans s4))⟩
  · rw [decide_eq_false h9] at l9
    have s4 := guard_no (f := cRet (cC (.bl false))) (and_no (fb := cNot (cCallQ 2 2 F__law_right (cCons (cSet (cVar 4)) (cCons (cSet (cVar 1)) (cCons (cVar 7) cNil))))) l9)
    exact ⟨_, _, (seq_nx s1).trans ((seq_nx s2).trans ((seq_nx s3).trans s4))⟩
theorem at_loop (ns : List Int) (k r w : Nat) (slab : List (List Int)) (hl : slab.length = k) (hS : Rows w slab) (hk1 : 1 ≤ k) (hk2 : k ≤ 64) (hr : r ≤ 16) (hw : w < 7) (H : Nat → Int → Int) (hH : Cols k w H) (hT : tabl (rowH H w) (k + r) = slab ++ spares slab w r) (many : Nat) : ∀ (ks : List Nat) (o : Bool) (at_ po told : Option D), (∀ a ∈ ks, a < 1000) →
    ∃ o' at' po' told', forL (.nm 6) bodyL (ks.map nt) (V9 ns k r slab (tabl (rowH H w) (k + r)) o many at_ po told) = .nx (V9 ns k r slab (tabl (rowH H w) (k + r)) o' many at' po' told')
  | [], o, at_, po, told, _ => ⟨o, at_, po, told, rfl⟩
  | a :: ks, o, at_, po, told, h => by
    obtain ⟨po1, to1, e1⟩ := at_step ns k r w slab hl hS hk1 hk2 hr hw H hH hT o many a (h a List.mem_cons_self) po told
    obtain ⟨o', at', po', told', e2⟩ := at_loop ns k r w slab hl hS hk1 hk2 hr hw H hH hT many ks false (some (nt a)) po1 to1 (fun x hx => h x (List.mem_cons_of_mem _ hx))
    refine ⟨o', at', po', told', ?_⟩
    rw [List.map_cons]
    exact (forL_cons (r1 := V9 ns k r slab (tabl (rowH H w) (k + r)) o many (some (nt a)) po told) rfl e1).trans e2
theorem law_plain (ns : List Int) (hn : ns.length ≤ 63) : F_law [script ns] = .ok (.bl true) := by
  obtain ⟨p0, ep0, hp0, nl0⟩ := pool_ok ns 0
  obtain ⟨k, r, d', es, hk1, hk2, hr2, _⟩ := sizes_ok hp0 (by decide)
  have cp := call2 (F := F__law_pool) (cvar_loc (r := startR 9 [script ns]) (i := 0) (d := script ns) rfl rfl) (cc 0 _) rfl rfl (by rw [frz_script]; exact ep0) nl0
  have cq := callQ_val (q := 0) (n := 0) (F := F__law_sizes) (xs := [.val p0]) (rest := []) (ds1 := []) (ds2 := []) (cons_ok cp (nil_ok _)) rfl rfl rfl rfl es
  have s0 : cAsg (.tp [1, 2]) (cCallQ 0 0 F__law_sizes (cCons (cCall 2 F__law_pool (cCons (cVar 0) (cCons (cC (.int 0)) cNil))) cNil)) (startR 9 [script ns]) = .nx [some (script ns), some (nt k), some (nt r), none, none, none, none, none, none] := by
    rw [q_asg, set_val cq]
    rfl
  obtain ⟨slab, w, esl, hl, hw, hS⟩ := slab_ok ns k hk2
  have c1 := call2 (F := F__law_slab) (cvar_loc (r := [some (script ns), some (nt k), some (nt r), none, none, none, none, none, none]) (i := 0) (d := script ns) rfl rfl) (cvar_at (i := 1) (d := nt k) rfl rfl) rfl rfl (by rw [frz_script]; exact esl) (noL_M slab)
  have s1 := asg_ok (i := 3) c1
  obtain ⟨H, hH, hT⟩ := slab_cols hS (by omega) r
  rw [hl] at hH hT
  have sp := spares_ok hS (by omega) (by omega) hw r hr2
  have cs := call2 (F := F_spares_of) (cvar_loc (r := [some (script ns), some (nt k), some (nt r), some (M true true slab), none, none, none, none, none]) (i := 3) (d := M true true slab) rfl rfl) (cvar_at (i := 2) (d := nt r) rfl rfl) rfl rfl (by rw [frz_M]; exact sp) (noL_M _)
  have hsl : (spares slab w r).length = r := by unfold spares; rw [List.length_map, List.length_range]
  have ad := bin_ok (g := gAdd) (cvar_loc (r := [some (script ns), some (nt k), some (nt r), some (M true true slab), none, none, none, none, none]) (i := 3) (d := M true true slab) rfl rfl) cs (q_addL (o := true) (o' := true) (xs := slab.map (I true)) (ys := (spares slab w r).map (I true)) (opd_loc' (i := 3) rfl) rfl (by rw [List.length_map, List.length_map]; omega))
  have et : touch (touch [some (script ns), some (nt k), some (nt r), some (M true true slab), none, none, none, none, none] (.val (M true true (spares slab w r)))) (.loc 3) = [some (script ns), some (nt k), some (nt r), some (M true false slab), none, none, none, none, none] := touchM (r := [some (script ns), some (nt k), some (nt r), some (M true true slab), none, none, none, none, none]) rfl
  rw [frzs_M, frzs_M, et, ← List.map_append, ← hT] at ad
  have s2 : cAsg (.nm 4) (cBin gAdd (cVar 3) (cCall 2 F_spares_of (cCons (cVar 3) (cCons (cVar 2) cNil)))) [some (script ns), some (nt k), some (nt r), some (M true true slab), none, none, none, none, none] = .nx [some (script ns), some (nt k), some (nt r), some (M true false slab), some (M true false (tabl (rowH H w) (k + r))), none, none, none, none] := asg_ok (i := 4) ad
  have ln := len_at (r := [some (script ns), some (nt k), some (nt r), some (M true false slab), some (M true false (tabl (rowH H w) (k + r))), none, none, none, none]) (i := 0) (k := .rd) (o := false) (xs := ns.map .int) rfl (.inr (.inl rfl))
  rw [List.length_map] at ln
  have s3 : cAsg (.nm 5) (cB (gMax2) (cCons (cC (.int 11)) (cCons (cB (gMin2) (cCons (cC (.int 19)) (cCons (cB (b1 lenD) (cCons (cVar 0) cNil)) cNil))) cNil))) [some (script ns), some (nt k), some (nt r), some (M true false slab), some (M true false (tabl (rowH H w) (k + r))), none, none, none, none] = .nx (V9 ns k r slab (tabl (rowH H w) (k + r)) true (max 11 (min 19 ns.length)) none none none) := asg_ok (i := 5) (max_nt (i := 11) (cc 11 _) (min_nt (i := 19) (cc 19 _) ln))
  obtain ⟨many, hm, s4⟩ : ∃ many, many < 1000 ∧ cIfS (cBin gGt (cVar 1) (cC (.int 9))) (cAsg (.nm 5) (cC (.int 11))) cSkip (V9 ns k r slab (tabl (rowH H w) (k + r)) true (max 11 (min 19 ns.length)) none none none) = .nx (V9 ns k r slab (tabl (rowH H w) (k + r)) true many none none none) := by
    have g := gt_ok (cvar_at (r := V9 ns k r slab (tabl (rowH H w) (k + r)) true (max 11 (min 19 ns.length)) none none none) (i := 1) (d := nt k) rfl rfl) (cc 9 _)
    by_cases h : (9 : Int) < (k : Int)
    · rw [decide_eq_true h] at g
      exact ⟨11, by decide, ifs_yes g rfl⟩
    · rw [decide_eq_false h] at g
      exact ⟨max 11 (min 19 ns.length), by omega, ifs_not g rfl⟩
  have it := it_rng2 (fa := cC (.int 9)) (fb := cVar 5) (r := V9 ns k r slab (tabl (rowH H w) (k + r)) true many none none none) (a := 9) (b := many) rfl rfl (by decide) (by omega)
  obtain ⟨o', at', po', told', e⟩ := at_loop ns k r w slab hl hS hk1 hk2 hr2 hw H hH hT many (List.range' 9 (many - 9)) true none none none (fun a ha => by
    have := List.mem_range'_1.mp ha
    omega)
  exact runF_ok ((seq_nx s0).trans ((seq_nx s1).trans ((seq_nx s2).trans ((seq_nx s3).trans ((seq_nx s4).trans ((seq_nx (for_ok it e)).trans (ret_ok rfl))))))) rfl
end K79

namespace K79
open PySem PySem.Spec PyProof.Rows L2 VL
def top (i : Nat) : Stmt := PySem.Challenge.pw_packhall_k79_whole_any_so_many.main.body.getD i (.Pass ⟨0, 0, 0, 0⟩)
abbrev s__law_take : Stmt := top 18
def N__law_take : List Str := ["pool", "many", "found", "step", "mark"]
theorem sc__law_take : FnScope N__law_take ["pool", "many"] (defScope s__law_take) := ⟨rfl, rfl, rfl, by decide +kernel, rfl, by decide +kernel, by decide +kernel⟩
abbrev s__law_sizes : Stmt := top 19
def N__law_sizes : List Str := ["pool", "some", "r"]
theorem sc__law_sizes : FnScope N__law_sizes ["pool"] (defScope s__law_sizes) := ⟨rfl, rfl, rfl, by decide +kernel, rfl, by decide +kernel, by decide +kernel⟩
abbrev s__law_pool : Stmt := top 17
def N__law_pool : List Str := ["script", "k", "cell"]
theorem sc__law_pool : FnScope N__law_pool ["script", "k"] (defScope s__law_pool) := ⟨rfl, rfl, rfl, by decide +kernel, rfl, by decide +kernel, by decide +kernel⟩
abbrev s__law_slab : Stmt := top 20
def N__law_slab : List Str := ["script", "k", "rows", "column", "pool", "row", "x"]
theorem sc__law_slab : FnScope N__law_slab ["script", "k"] (defScope s__law_slab) := ⟨rfl, rfl, rfl, by decide +kernel, rfl, by decide +kernel, by decide +kernel⟩
abbrev s_turned_over : Stmt := top 7
def N_turned_over : List Str := ["number", "power", "one"]
theorem sc_turned_over : FnScope N_turned_over ["number"] (defScope s_turned_over) := ⟨rfl, rfl, rfl, by decide +kernel, rfl, by decide +kernel, by decide +kernel⟩
abbrev s_shares_at : Stmt := top 8
def N_shares_at : List Str := ["places", "x", "found", "place", "above", "below", "other"]
theorem sc_shares_at : FnScope N_shares_at ["places", "x"] (defScope s_shares_at) := ⟨rfl, rfl, rfl, by decide +kernel, rfl, by decide +kernel, by decide +kernel⟩
abbrev s_row_at : Stmt := top 9
def N_row_at : List Str := ["rows", "places", "x", "shares", "found", "column", "share", "place"]
theorem sc_row_at : FnScope N_row_at ["rows", "places", "x"] (defScope s_row_at) := ⟨rfl, rfl, rfl, by decide +kernel, rfl, by decide +kernel, by decide +kernel⟩
abbrev s_spares_of : Stmt := top 10
def N_spares_of : List Str := ["slab", "r", "places", "one"]
theorem sc_spares_of : FnScope N_spares_of ["slab", "r"] (defScope s_spares_of) := ⟨rfl, rfl, rfl, by decide +kernel, rfl, by decide +kernel, by decide +kernel⟩
abbrev s_need_rows : Stmt := top 11
def N_need_rows : List Str := ["rows", "k", "there", "row", "number"]
theorem sc_need_rows : FnScope N_need_rows ["rows", "k"] (defScope s_need_rows) := ⟨rfl, rfl, rfl, by decide +kernel, rfl, by decide +kernel, by decide +kernel⟩
abbrev s_all_by : Stmt := top 12
def N_all_by : List Str := ["rows", "places", "found", "x"]
theorem sc_all_by : FnScope N_all_by ["rows", "places"] (defScope s_all_by) := ⟨rfl, rfl, rfl, by decide +kernel, rfl, by decide +kernel, by decide +kernel⟩
abbrev s_mend_rows : Stmt := top 13
def N_mend_rows : List Str := ["rows", "k", "places", "found", "x"]
theorem sc_mend_rows : FnScope N_mend_rows ["rows", "k"] (defScope s_mend_rows) := ⟨rfl, rfl, rfl, by decide +kernel, rfl, by decide +kernel, by decide +kernel⟩
abbrev s__law_kept : Stmt := top 21
def N__law_kept : List Str := ["rows", "k", "pool", "there", "found", "turn", "row"]
theorem sc__law_kept : FnScope N__law_kept ["rows", "k", "pool"] (defScope s__law_kept) := ⟨rfl, rfl, rfl, by decide +kernel, rfl, by decide +kernel, by decide +kernel⟩
abbrev s_chosen : Stmt := top 14
def N_chosen : List Str := ["many", "k", "lists", "one", "some"]
theorem sc_chosen : FnScope N_chosen ["many", "k"] (defScope s_chosen) := ⟨rfl, rfl, rfl, by decide +kernel, rfl, by decide +kernel, by decide +kernel⟩
abbrev s_put_right : Stmt := top 15
def N_put_right : List Str := ["rows", "k", "places", "found", "wrong", "x"]
theorem sc_put_right : FnScope N_put_right ["rows", "k"] (defScope s_put_right) := ⟨rfl, rfl, rfl, by decide +kernel, rfl, by decide +kernel, by decide +kernel⟩
abbrev s__law_right : Stmt := top 22
def N__law_right : List Str := ["rows", "k", "pool", "found", "there", "turn", "at", "row", "number"]
theorem sc__law_right : FnScope N__law_right ["rows", "k", "pool"] (defScope s__law_right) := ⟨rfl, rfl, rfl, by decide +kernel, rfl, by decide +kernel, by decide +kernel⟩
abbrev s_law : Stmt := top 23
def N_law : List Str := ["script", "k", "r", "slab", "rows", "many", "at", "pool", "told"]
theorem sc_law : FnScope N_law ["script"] (defScope s_law) := ⟨rfl, rfl, rfl, by decide +kernel, rfl, by decide +kernel, by decide +kernel⟩
def S__law_slab_1 : List (Str × NameKind) := [(".0", .local), ("x", .local)]
def S_row_at_1 : List (Str × NameKind) := [(".0", .local), ("share", .local), ("place", .local), ("column", .free), ("rows", .free)]
def S_spares_of_1 : List (Str × NameKind) := [(".0", .local), ("one", .local), ("row_at", .globalImplicit), ("len", .globalImplicit), ("places", .free), ("slab", .free)]
def S_need_rows_1 : List (Str × NameKind) := [(".0", .local), ("row", .local)]
def S_mend_rows_1 : List (Str × NameKind) := [(".0", .local), ("x", .local), ("rows", .free)]
def S__law_kept_1 : List (Str × NameKind) := [(".0", .local), ("row", .local), ("list", .globalImplicit)]
def S_chosen_1 : List (Str × NameKind) := [(".0", .local), ("some", .local), ("len", .globalImplicit), ("k", .free), ("one", .free)]
def S_chosen_2 : List (Str × NameKind) := [(".0", .local), ("some", .local), ("len", .globalImplicit), ("k", .free)]
def S_put_right_1 : List (Str × NameKind) := [(".0", .local), ("x", .local), ("list", .globalImplicit), ("found", .free), ("rows", .free)]
def S__law_right_1 : List (Str × NameKind) := [(".0", .local), ("row", .local), ("list", .globalImplicit)]
def S__law_right_2 : List (Str × NameKind) := [(".0", .local), ("number", .local), ("_law_take", .globalImplicit), ("pool", .free)]
theorem i__law_take_pool : N__law_take[0]? = some ("pool" : Str) := rfl
theorem k__law_take_pool : List.lookup ("pool" : Str) (defScope s__law_take).names = some .local := by decide +kernel
theorem d_pool : (("pool" : Str) == ("__debug__" : Str)) = false := by decide +kernel
theorem e_pool : (("pool" : Str) == ("__classdict__" : Str)) = false := by decide +kernel
theorem i__law_take_many : N__law_take[1]? = some ("many" : Str) := rfl
theorem k__law_take_many : List.lookup ("many" : Str) (defScope s__law_take).names = some .local := by decide +kernel
theorem d_many : (("many" : Str) == ("__debug__" : Str)) = false := by decide +kernel
theorem e_many : (("many" : Str) == ("__classdict__" : Str)) = false := by decide +kernel
theorem i__law_take_found : N__law_take[2]? = some ("found" : Str) := rfl
theorem k__law_take_found : List.lookup ("found" : Str) (defScope s__law_take).names = some .local := by decide +kernel
theorem d_found : (("found" : Str) == ("__debug__" : Str)) = false := by decide +kernel
theorem e_found : (("found" : Str) == ("__classdict__" : Str)) = false := by decide +kernel
theorem i__law_take_step : N__law_take[3]? = some ("step" : Str) := rfl
theorem k__law_take_step : List.lookup ("step" : Str) (defScope s__law_take).names = some .local := by decide +kernel
theorem d_step : (("step" : Str) == ("__debug__" : Str)) = false := by decide +kernel
theorem e_step : (("step" : Str) == ("__classdict__" : Str)) = false := by decide +kernel
theorem i__law_take_mark : N__law_take[4]? = some ("mark" : Str) := rfl
theorem k__law_take_mark : List.lookup ("mark" : Str) (defScope s__law_take).names = some .local := by decide +kernel
theorem d_mark : (("mark" : Str) == ("__debug__" : Str)) = false := by decide +kernel
theorem e_mark : (("mark" : Str) == ("__classdict__" : Str)) = false := by decide +kernel
theorem i__law_sizes_pool : N__law_sizes[0]? = some ("pool" : Str) := rfl
theorem k__law_sizes_pool : List.lookup ("pool" : Str) (defScope s__law_sizes).names = some .local := by decide +kernel
theorem k__law_sizes__law_take : List.lookup ("_law_take" : Str) (defScope s__law_sizes).names = some .globalImplicit := by decide +kernel
theorem d__law_take : (("_law_take" : Str) == ("__debug__" : Str)) = false := by decide +kernel
theorem i__law_sizes_some : N__law_sizes[1]? = some ("some" : Str) := rfl
theorem k__law_sizes_some : List.lookup ("some" : Str) (defScope s__law_sizes).names = some .local := by decide +kernel
theorem i__law_sizes_r : N__law_sizes[2]? = some ("r" : Str) := rfl
theorem k__law_sizes_r : List.lookup ("r" : Str) (defScope s__law_sizes).names = some .local := by decide +kernel
theorem d_some : (("some" : Str) == ("__debug__" : Str)) = false := by decide +kernel
theorem e_some : (("some" : Str) == ("__classdict__" : Str)) = false := by decide +kernel
theorem d_r : (("r" : Str) == ("__debug__" : Str)) = false := by decide +kernel
theorem e_r : (("r" : Str) == ("__classdict__" : Str)) = false := by decide +kernel
theorem i__law_pool_cell : N__law_pool[2]? = some ("cell" : Str) := rfl
theorem k__law_pool_cell : List.lookup ("cell" : Str) (defScope s__law_pool).names = some .local := by decide +kernel
theorem i__law_pool_k : N__law_pool[1]? = some ("k" : Str) := rfl
theorem k__law_pool_k : List.lookup ("k" : Str) (defScope s__law_pool).names = some .local := by decide +kernel
theorem d_k : (("k" : Str) == ("__debug__" : Str)) = false := by decide +kernel
theorem e_k : (("k" : Str) == ("__classdict__" : Str)) = false := by decide +kernel
theorem i__law_pool_script : N__law_pool[0]? = some ("script" : Str) := rfl
theorem k__law_pool_script : List.lookup ("script" : Str) (defScope s__law_pool).names = some .local := by decide +kernel
theorem d_script : (("script" : Str) == ("__debug__" : Str)) = false := by decide +kernel
theorem e_script : (("script" : Str) == ("__classdict__" : Str)) = false := by decide +kernel
theorem k__law_pool_len : List.lookup ("len" : Str) (defScope s__law_pool).names = some .globalImplicit := by decide +kernel
theorem v_len : bootBuiltins "len" = some (.builtin "len") := rfl
theorem nn_len : ("len" : Str) ≠ "__name__" := by decide +kernel
theorem d_len : (("len" : Str) == ("__debug__" : Str)) = false := by decide +kernel
theorem d_cell : (("cell" : Str) == ("__debug__" : Str)) = false := by decide +kernel
theorem e_cell : (("cell" : Str) == ("__classdict__" : Str)) = false := by decide +kernel
theorem i__law_slab_k : N__law_slab[1]? = some ("k" : Str) := rfl
theorem k__law_slab_k : List.lookup ("k" : Str) (defScope s__law_slab).names = some .local := by decide +kernel
theorem k__law_slab_range : List.lookup ("range" : Str) (defScope s__law_slab).names = some .globalImplicit := by decide +kernel
theorem i__law_slab_x : N__law_slab[6]? = some ("x" : Str) := rfl
theorem k__law_slab_1_x : List.lookup ("x" : Str) S__law_slab_1 = some .local := by decide +kernel
theorem i__law_slab_rows : N__law_slab[2]? = some ("rows" : Str) := rfl
theorem k__law_slab_rows : List.lookup ("rows" : Str) (defScope s__law_slab).names = some .local := by decide +kernel
theorem i__law_slab_script : N__law_slab[0]? = some ("script" : Str) := rfl
theorem k__law_slab_script : List.lookup ("script" : Str) (defScope s__law_slab).names = some .local := by decide +kernel
theorem k__law_slab__law_pool : List.lookup ("_law_pool" : Str) (defScope s__law_slab).names = some .globalImplicit := by decide +kernel
theorem d__law_pool : (("_law_pool" : Str) == ("__debug__" : Str)) = false := by decide +kernel
theorem k__law_slab__law_take : List.lookup ("_law_take" : Str) (defScope s__law_slab).names = some .globalImplicit := by decide +kernel
theorem i__law_slab_column : N__law_slab[3]? = some ("column" : Str) := rfl
theorem k__law_slab_column : List.lookup ("column" : Str) (defScope s__law_slab).names = some .local := by decide +kernel
theorem d_column : (("column" : Str) == ("__debug__" : Str)) = false := by decide +kernel
theorem e_column : (("column" : Str) == ("__classdict__" : Str)) = false := by decide +kernel
theorem i__law_slab_pool : N__law_slab[4]? = some ("pool" : Str) := rfl
theorem k__law_slab_pool : List.lookup ("pool" : Str) (defScope s__law_slab).names = some .local := by decide +kernel
theorem i__law_slab_row : N__law_slab[5]? = some ("row" : Str) := rfl
theorem k__law_slab_row : List.lookup ("row" : Str) (defScope s__law_slab).names = some .local := by decide +kernel
theorem d_row : (("row" : Str) == ("__debug__" : Str)) = false := by decide +kernel
theorem e_row : (("row" : Str) == ("__classdict__" : Str)) = false := by decide +kernel
theorem d_rows : (("rows" : Str) == ("__debug__" : Str)) = false := by decide +kernel
theorem e_rows : (("rows" : Str) == ("__classdict__" : Str)) = false := by decide +kernel
theorem i_turned_over_power : N_turned_over[1]? = some ("power" : Str) := rfl
theorem k_turned_over_power : List.lookup ("power" : Str) (defScope s_turned_over).names = some .local := by decide +kernel
theorem k_turned_over_range : List.lookup ("range" : Str) (defScope s_turned_over).names = some .globalImplicit := by decide +kernel
theorem i_turned_over_one : N_turned_over[2]? = some ("one" : Str) := rfl
theorem k_turned_over_one : List.lookup ("one" : Str) (defScope s_turned_over).names = some .local := by decide +kernel
theorem d_power : (("power" : Str) == ("__debug__" : Str)) = false := by decide +kernel
theorem e_power : (("power" : Str) == ("__classdict__" : Str)) = false := by decide +kernel
theorem i_turned_over_number : N_turned_over[0]? = some ("number" : Str) := rfl
theorem k_turned_over_number : List.lookup ("number" : Str) (defScope s_turned_over).names = some .local := by decide +kernel
theorem d_number : (("number" : Str) == ("__debug__" : Str)) = false := by decide +kernel
theorem e_number : (("number" : Str) == ("__classdict__" : Str)) = false := by decide +kernel
theorem k_turned_over_PRIME : List.lookup ("PRIME" : Str) (defScope s_turned_over).names = some .globalImplicit := by decide +kernel
theorem d_PRIME : (("PRIME" : Str) == ("__debug__" : Str)) = false := by decide +kernel
theorem i_shares_at_found : N_shares_at[2]? = some ("found" : Str) := rfl
theorem k_shares_at_found : List.lookup ("found" : Str) (defScope s_shares_at).names = some .local := by decide +kernel
theorem i_shares_at_places : N_shares_at[0]? = some ("places" : Str) := rfl
theorem k_shares_at_places : List.lookup ("places" : Str) (defScope s_shares_at).names = some .local := by decide +kernel
theorem d_places : (("places" : Str) == ("__debug__" : Str)) = false := by decide +kernel
theorem e_places : (("places" : Str) == ("__classdict__" : Str)) = false := by decide +kernel
theorem i_shares_at_place : N_shares_at[3]? = some ("place" : Str) := rfl
theorem k_shares_at_place : List.lookup ("place" : Str) (defScope s_shares_at).names = some .local := by decide +kernel
theorem i_shares_at_above : N_shares_at[4]? = some ("above" : Str) := rfl
theorem k_shares_at_above : List.lookup ("above" : Str) (defScope s_shares_at).names = some .local := by decide +kernel
theorem i_shares_at_below : N_shares_at[5]? = some ("below" : Str) := rfl
theorem k_shares_at_below : List.lookup ("below" : Str) (defScope s_shares_at).names = some .local := by decide +kernel
theorem i_shares_at_other : N_shares_at[6]? = some ("other" : Str) := rfl
theorem k_shares_at_other : List.lookup ("other" : Str) (defScope s_shares_at).names = some .local := by decide +kernel
theorem d_other : (("other" : Str) == ("__debug__" : Str)) = false := by decide +kernel
theorem e_other : (("other" : Str) == ("__classdict__" : Str)) = false := by decide +kernel
theorem d_place : (("place" : Str) == ("__debug__" : Str)) = false := by decide +kernel
theorem e_place : (("place" : Str) == ("__classdict__" : Str)) = false := by decide +kernel
theorem d_above : (("above" : Str) == ("__debug__" : Str)) = false := by decide +kernel
theorem e_above : (("above" : Str) == ("__classdict__" : Str)) = false := by decide +kernel
theorem i_shares_at_x : N_shares_at[1]? = some ("x" : Str) := rfl
theorem k_shares_at_x : List.lookup ("x" : Str) (defScope s_shares_at).names = some .local := by decide +kernel
theorem d_x : (("x" : Str) == ("__debug__" : Str)) = false := by decide +kernel
theorem e_x : (("x" : Str) == ("__classdict__" : Str)) = false := by decide +kernel
theorem k_shares_at_PRIME : List.lookup ("PRIME" : Str) (defScope s_shares_at).names = some .globalImplicit := by decide +kernel
theorem d_below : (("below" : Str) == ("__debug__" : Str)) = false := by decide +kernel
theorem e_below : (("below" : Str) == ("__classdict__" : Str)) = false := by decide +kernel
theorem k_shares_at_turned_over : List.lookup ("turned_over" : Str) (defScope s_shares_at).names = some .globalImplicit := by decide +kernel
theorem d_turned_over : (("turned_over" : Str) == ("__debug__" : Str)) = false := by decide +kernel
theorem i_row_at_places : N_row_at[1]? = some ("places" : Str) := rfl
theorem k_row_at_places : List.lookup ("places" : Str) (defScope s_row_at).names = some .local := by decide +kernel
theorem i_row_at_x : N_row_at[2]? = some ("x" : Str) := rfl
theorem k_row_at_x : List.lookup ("x" : Str) (defScope s_row_at).names = some .local := by decide +kernel
theorem k_row_at_shares_at : List.lookup ("shares_at" : Str) (defScope s_row_at).names = some .globalImplicit := by decide +kernel
theorem d_shares_at : (("shares_at" : Str) == ("__debug__" : Str)) = false := by decide +kernel
theorem i_row_at_shares : N_row_at[3]? = some ("shares" : Str) := rfl
theorem k_row_at_shares : List.lookup ("shares" : Str) (defScope s_row_at).names = some .local := by decide +kernel
theorem i_row_at_found : N_row_at[4]? = some ("found" : Str) := rfl
theorem k_row_at_found : List.lookup ("found" : Str) (defScope s_row_at).names = some .local := by decide +kernel
theorem i_row_at_rows : N_row_at[0]? = some ("rows" : Str) := rfl
theorem k_row_at_rows : List.lookup ("rows" : Str) (defScope s_row_at).names = some .cell := by decide +kernel
theorem k_row_at_len : List.lookup ("len" : Str) (defScope s_row_at).names = some .globalImplicit := by decide +kernel
theorem k_row_at_range : List.lookup ("range" : Str) (defScope s_row_at).names = some .globalImplicit := by decide +kernel
theorem i_row_at_column : N_row_at[5]? = some ("column" : Str) := rfl
theorem k_row_at_column : List.lookup ("column" : Str) (defScope s_row_at).names = some .cell := by decide +kernel
theorem d_shares : (("shares" : Str) == ("__debug__" : Str)) = false := by decide +kernel
theorem e_shares : (("shares" : Str) == ("__classdict__" : Str)) = false := by decide +kernel
theorem k_row_at_zip : List.lookup ("zip" : Str) (defScope s_row_at).names = some .globalImplicit := by decide +kernel
theorem i_row_at_place : N_row_at[7]? = some ("place" : Str) := rfl
theorem k_row_at_1_place : List.lookup ("place" : Str) S_row_at_1 = some .local := by decide +kernel
theorem i_row_at_share : N_row_at[6]? = some ("share" : Str) := rfl
theorem k_row_at_1_share : List.lookup ("share" : Str) S_row_at_1 = some .local := by decide +kernel
theorem d_share : (("share" : Str) == ("__debug__" : Str)) = false := by decide +kernel
theorem e_share : (("share" : Str) == ("__classdict__" : Str)) = false := by decide +kernel
theorem k_row_at_1_rows : List.lookup ("rows" : Str) S_row_at_1 = some .free := by decide +kernel
theorem k_row_at_1_column : List.lookup ("column" : Str) S_row_at_1 = some .free := by decide +kernel
theorem k_row_at_sum : List.lookup ("sum" : Str) (defScope s_row_at).names = some .globalImplicit := by decide +kernel
theorem v_sum : bootBuiltins "sum" = some (.builtin "sum") := rfl
theorem nn_sum : ("sum" : Str) ≠ "__name__" := by decide +kernel
theorem d_sum : (("sum" : Str) == ("__debug__" : Str)) = false := by decide +kernel
theorem k_row_at_PRIME : List.lookup ("PRIME" : Str) (defScope s_row_at).names = some .globalImplicit := by decide +kernel
theorem i_spares_of_slab : N_spares_of[0]? = some ("slab" : Str) := rfl
theorem k_spares_of_slab : List.lookup ("slab" : Str) (defScope s_spares_of).names = some .cell := by decide +kernel
theorem d_slab : (("slab" : Str) == ("__debug__" : Str)) = false := by decide +kernel
theorem e_slab : (("slab" : Str) == ("__classdict__" : Str)) = false := by decide +kernel
theorem k_spares_of_len : List.lookup ("len" : Str) (defScope s_spares_of).names = some .globalImplicit := by decide +kernel
theorem k_spares_of_list : List.lookup ("list" : Str) (defScope s_spares_of).names = some .globalImplicit := by decide +kernel
theorem k_spares_of_range : List.lookup ("range" : Str) (defScope s_spares_of).names = some .globalImplicit := by decide +kernel
theorem i_spares_of_places : N_spares_of[2]? = some ("places" : Str) := rfl
theorem k_spares_of_places : List.lookup ("places" : Str) (defScope s_spares_of).names = some .cell := by decide +kernel
theorem i_spares_of_r : N_spares_of[1]? = some ("r" : Str) := rfl
theorem k_spares_of_r : List.lookup ("r" : Str) (defScope s_spares_of).names = some .local := by decide +kernel
theorem i_spares_of_one : N_spares_of[3]? = some ("one" : Str) := rfl
theorem k_spares_of_1_one : List.lookup ("one" : Str) S_spares_of_1 = some .local := by decide +kernel
theorem k_spares_of_1_slab : List.lookup ("slab" : Str) S_spares_of_1 = some .free := by decide +kernel
theorem k_spares_of_1_places : List.lookup ("places" : Str) S_spares_of_1 = some .free := by decide +kernel
theorem k_spares_of_1_len : List.lookup ("len" : Str) S_spares_of_1 = some .globalImplicit := by decide +kernel
theorem d_one : (("one" : Str) == ("__debug__" : Str)) = false := by decide +kernel
theorem e_one : (("one" : Str) == ("__classdict__" : Str)) = false := by decide +kernel
theorem k_spares_of_1_row_at : List.lookup ("row_at" : Str) S_spares_of_1 = some .globalImplicit := by decide +kernel
theorem d_row_at : (("row_at" : Str) == ("__debug__" : Str)) = false := by decide +kernel
theorem i_need_rows_rows : N_need_rows[0]? = some ("rows" : Str) := rfl
theorem k_need_rows_rows : List.lookup ("rows" : Str) (defScope s_need_rows).names = some .local := by decide +kernel
theorem i_need_rows_row : N_need_rows[3]? = some ("row" : Str) := rfl
theorem k_need_rows_1_row : List.lookup ("row" : Str) S_need_rows_1 = some .local := by decide +kernel
theorem i_need_rows_there : N_need_rows[2]? = some ("there" : Str) := rfl
theorem k_need_rows_there : List.lookup ("there" : Str) (defScope s_need_rows).names = some .local := by decide +kernel
theorem i_need_rows_k : N_need_rows[1]? = some ("k" : Str) := rfl
theorem k_need_rows_k : List.lookup ("k" : Str) (defScope s_need_rows).names = some .local := by decide +kernel
theorem k_need_rows_MOST_ROWS : List.lookup ("MOST_ROWS" : Str) (defScope s_need_rows).names = some .globalImplicit := by decide +kernel
theorem d_MOST_ROWS : (("MOST_ROWS" : Str) == ("__debug__" : Str)) = false := by decide +kernel
theorem k_need_rows_len : List.lookup ("len" : Str) (defScope s_need_rows).names = some .globalImplicit := by decide +kernel
theorem k_need_rows_MOST_SPARES : List.lookup ("MOST_SPARES" : Str) (defScope s_need_rows).names = some .globalImplicit := by decide +kernel
theorem d_MOST_SPARES : (("MOST_SPARES" : Str) == ("__debug__" : Str)) = false := by decide +kernel
theorem k_need_rows_Broken : List.lookup ("Broken" : Str) (defScope s_need_rows).names = some .globalImplicit := by decide +kernel
theorem d_Broken : (("Broken" : Str) == ("__debug__" : Str)) = false := by decide +kernel
theorem d_there : (("there" : Str) == ("__debug__" : Str)) = false := by decide +kernel
theorem e_there : (("there" : Str) == ("__classdict__" : Str)) = false := by decide +kernel
theorem k_need_rows_row : List.lookup ("row" : Str) (defScope s_need_rows).names = some .local := by decide +kernel
theorem i_need_rows_number : N_need_rows[4]? = some ("number" : Str) := rfl
theorem k_need_rows_number : List.lookup ("number" : Str) (defScope s_need_rows).names = some .local := by decide +kernel
theorem k_need_rows_PRIME : List.lookup ("PRIME" : Str) (defScope s_need_rows).names = some .globalImplicit := by decide +kernel
theorem i_all_by_found : N_all_by[2]? = some ("found" : Str) := rfl
theorem k_all_by_found : List.lookup ("found" : Str) (defScope s_all_by).names = some .local := by decide +kernel
theorem i_all_by_rows : N_all_by[0]? = some ("rows" : Str) := rfl
theorem k_all_by_rows : List.lookup ("rows" : Str) (defScope s_all_by).names = some .local := by decide +kernel
theorem k_all_by_len : List.lookup ("len" : Str) (defScope s_all_by).names = some .globalImplicit := by decide +kernel
theorem k_all_by_range : List.lookup ("range" : Str) (defScope s_all_by).names = some .globalImplicit := by decide +kernel
theorem i_all_by_x : N_all_by[3]? = some ("x" : Str) := rfl
theorem k_all_by_x : List.lookup ("x" : Str) (defScope s_all_by).names = some .local := by decide +kernel
theorem i_all_by_places : N_all_by[1]? = some ("places" : Str) := rfl
theorem k_all_by_places : List.lookup ("places" : Str) (defScope s_all_by).names = some .local := by decide +kernel
theorem k_all_by_list : List.lookup ("list" : Str) (defScope s_all_by).names = some .globalImplicit := by decide +kernel
theorem v_list : bootBuiltins "list" = some (.type "list") := rfl
theorem nn_list : ("list" : Str) ≠ "__name__" := by decide +kernel
theorem d_list : (("list" : Str) == ("__debug__" : Str)) = false := by decide +kernel
theorem k_all_by_row_at : List.lookup ("row_at" : Str) (defScope s_all_by).names = some .globalImplicit := by decide +kernel
theorem i_mend_rows_rows : N_mend_rows[0]? = some ("rows" : Str) := rfl
theorem k_mend_rows_rows : List.lookup ("rows" : Str) (defScope s_mend_rows).names = some .cell := by decide +kernel
theorem i_mend_rows_k : N_mend_rows[1]? = some ("k" : Str) := rfl
theorem k_mend_rows_k : List.lookup ("k" : Str) (defScope s_mend_rows).names = some .local := by decide +kernel
theorem k_mend_rows_need_rows : List.lookup ("need_rows" : Str) (defScope s_mend_rows).names = some .globalImplicit := by decide +kernel
theorem d_need_rows : (("need_rows" : Str) == ("__debug__" : Str)) = false := by decide +kernel
theorem k_mend_rows_len : List.lookup ("len" : Str) (defScope s_mend_rows).names = some .globalImplicit := by decide +kernel
theorem k_mend_rows_range : List.lookup ("range" : Str) (defScope s_mend_rows).names = some .globalImplicit := by decide +kernel
theorem i_mend_rows_x : N_mend_rows[4]? = some ("x" : Str) := rfl
theorem k_mend_rows_1_x : List.lookup ("x" : Str) S_mend_rows_1 = some .local := by decide +kernel
theorem k_mend_rows_1_rows : List.lookup ("rows" : Str) S_mend_rows_1 = some .free := by decide +kernel
theorem i_mend_rows_places : N_mend_rows[2]? = some ("places" : Str) := rfl
theorem k_mend_rows_places : List.lookup ("places" : Str) (defScope s_mend_rows).names = some .local := by decide +kernel
theorem k_mend_rows_Broken : List.lookup ("Broken" : Str) (defScope s_mend_rows).names = some .globalImplicit := by decide +kernel
theorem k_mend_rows_all_by : List.lookup ("all_by" : Str) (defScope s_mend_rows).names = some .globalImplicit := by decide +kernel
theorem d_all_by : (("all_by" : Str) == ("__debug__" : Str)) = false := by decide +kernel
theorem i_mend_rows_found : N_mend_rows[3]? = some ("found" : Str) := rfl
theorem k_mend_rows_found : List.lookup ("found" : Str) (defScope s_mend_rows).names = some .local := by decide +kernel
theorem k_mend_rows_x : List.lookup ("x" : Str) (defScope s_mend_rows).names = some .local := by decide +kernel
theorem k_mend_rows_list : List.lookup ("list" : Str) (defScope s_mend_rows).names = some .globalImplicit := by decide +kernel
theorem i__law_kept_rows : N__law_kept[0]? = some ("rows" : Str) := rfl
theorem k__law_kept_rows : List.lookup ("rows" : Str) (defScope s__law_kept).names = some .local := by decide +kernel
theorem k__law_kept_len : List.lookup ("len" : Str) (defScope s__law_kept).names = some .globalImplicit := by decide +kernel
theorem k__law_kept_list : List.lookup ("list" : Str) (defScope s__law_kept).names = some .globalImplicit := by decide +kernel
theorem k__law_kept_range : List.lookup ("range" : Str) (defScope s__law_kept).names = some .globalImplicit := by decide +kernel
theorem i__law_kept_there : N__law_kept[3]? = some ("there" : Str) := rfl
theorem k__law_kept_there : List.lookup ("there" : Str) (defScope s__law_kept).names = some .local := by decide +kernel
theorem i__law_kept_row : N__law_kept[6]? = some ("row" : Str) := rfl
theorem k__law_kept_1_row : List.lookup ("row" : Str) S__law_kept_1 = some .local := by decide +kernel
theorem k__law_kept_1_list : List.lookup ("list" : Str) S__law_kept_1 = some .globalImplicit := by decide +kernel
theorem i__law_kept_found : N__law_kept[4]? = some ("found" : Str) := rfl
theorem k__law_kept_found : List.lookup ("found" : Str) (defScope s__law_kept).names = some .local := by decide +kernel
theorem i__law_kept_k : N__law_kept[1]? = some ("k" : Str) := rfl
theorem k__law_kept_k : List.lookup ("k" : Str) (defScope s__law_kept).names = some .local := by decide +kernel
theorem i__law_kept_turn : N__law_kept[5]? = some ("turn" : Str) := rfl
theorem k__law_kept_turn : List.lookup ("turn" : Str) (defScope s__law_kept).names = some .local := by decide +kernel
theorem i__law_kept_pool : N__law_kept[2]? = some ("pool" : Str) := rfl
theorem k__law_kept_pool : List.lookup ("pool" : Str) (defScope s__law_kept).names = some .local := by decide +kernel
theorem k__law_kept__law_take : List.lookup ("_law_take" : Str) (defScope s__law_kept).names = some .globalImplicit := by decide +kernel
theorem i_chosen_lists : N_chosen[2]? = some ("lists" : Str) := rfl
theorem k_chosen_lists : List.lookup ("lists" : Str) (defScope s_chosen).names = some .local := by decide +kernel
theorem i_chosen_many : N_chosen[0]? = some ("many" : Str) := rfl
theorem k_chosen_many : List.lookup ("many" : Str) (defScope s_chosen).names = some .local := by decide +kernel
theorem k_chosen_range : List.lookup ("range" : Str) (defScope s_chosen).names = some .globalImplicit := by decide +kernel
theorem i_chosen_one : N_chosen[3]? = some ("one" : Str) := rfl
theorem k_chosen_one : List.lookup ("one" : Str) (defScope s_chosen).names = some .cell := by decide +kernel
theorem d_lists : (("lists" : Str) == ("__debug__" : Str)) = false := by decide +kernel
theorem e_lists : (("lists" : Str) == ("__classdict__" : Str)) = false := by decide +kernel
theorem i_chosen_some : N_chosen[4]? = some ("some" : Str) := rfl
theorem k_chosen_1_some : List.lookup ("some" : Str) S_chosen_1 = some .local := by decide +kernel
theorem k_chosen_1_len : List.lookup ("len" : Str) S_chosen_1 = some .globalImplicit := by decide +kernel
theorem i_chosen_k : N_chosen[1]? = some ("k" : Str) := rfl
theorem k_chosen_1_k : List.lookup ("k" : Str) S_chosen_1 = some .free := by decide +kernel
theorem k_chosen_1_one : List.lookup ("one" : Str) S_chosen_1 = some .free := by decide +kernel
theorem k_chosen_2_some : List.lookup ("some" : Str) S_chosen_2 = some .local := by decide +kernel
theorem k_chosen_2_len : List.lookup ("len" : Str) S_chosen_2 = some .globalImplicit := by decide +kernel
theorem k_chosen_2_k : List.lookup ("k" : Str) S_chosen_2 = some .free := by decide +kernel
theorem i_put_right_rows : N_put_right[0]? = some ("rows" : Str) := rfl
theorem k_put_right_rows : List.lookup ("rows" : Str) (defScope s_put_right).names = some .cell := by decide +kernel
theorem i_put_right_k : N_put_right[1]? = some ("k" : Str) := rfl
theorem k_put_right_k : List.lookup ("k" : Str) (defScope s_put_right).names = some .local := by decide +kernel
theorem k_put_right_need_rows : List.lookup ("need_rows" : Str) (defScope s_put_right).names = some .globalImplicit := by decide +kernel
theorem k_put_right_Broken : List.lookup ("Broken" : Str) (defScope s_put_right).names = some .globalImplicit := by decide +kernel
theorem k_put_right_len : List.lookup ("len" : Str) (defScope s_put_right).names = some .globalImplicit := by decide +kernel
theorem k_put_right_chosen : List.lookup ("chosen" : Str) (defScope s_put_right).names = some .globalImplicit := by decide +kernel
theorem d_chosen : (("chosen" : Str) == ("__debug__" : Str)) = false := by decide +kernel
theorem i_put_right_places : N_put_right[2]? = some ("places" : Str) := rfl
theorem k_put_right_places : List.lookup ("places" : Str) (defScope s_put_right).names = some .local := by decide +kernel
theorem k_put_right_all_by : List.lookup ("all_by" : Str) (defScope s_put_right).names = some .globalImplicit := by decide +kernel
theorem i_put_right_found : N_put_right[3]? = some ("found" : Str) := rfl
theorem k_put_right_found : List.lookup ("found" : Str) (defScope s_put_right).names = some .cell := by decide +kernel
theorem k_put_right_range : List.lookup ("range" : Str) (defScope s_put_right).names = some .globalImplicit := by decide +kernel
theorem i_put_right_x : N_put_right[5]? = some ("x" : Str) := rfl
theorem k_put_right_1_x : List.lookup ("x" : Str) S_put_right_1 = some .local := by decide +kernel
theorem k_put_right_1_found : List.lookup ("found" : Str) S_put_right_1 = some .free := by decide +kernel
theorem k_put_right_1_rows : List.lookup ("rows" : Str) S_put_right_1 = some .free := by decide +kernel
theorem k_put_right_1_list : List.lookup ("list" : Str) S_put_right_1 = some .globalImplicit := by decide +kernel
theorem i_put_right_wrong : N_put_right[4]? = some ("wrong" : Str) := rfl
theorem k_put_right_wrong : List.lookup ("wrong" : Str) (defScope s_put_right).names = some .local := by decide +kernel
theorem d_wrong : (("wrong" : Str) == ("__debug__" : Str)) = false := by decide +kernel
theorem e_wrong : (("wrong" : Str) == ("__classdict__" : Str)) = false := by decide +kernel
theorem i__law_right_rows : N__law_right[0]? = some ("rows" : Str) := rfl
theorem k__law_right_rows : List.lookup ("rows" : Str) (defScope s__law_right).names = some .local := by decide +kernel
theorem i__law_right_row : N__law_right[7]? = some ("row" : Str) := rfl
theorem k__law_right_1_row : List.lookup ("row" : Str) S__law_right_1 = some .local := by decide +kernel
theorem k__law_right_1_list : List.lookup ("list" : Str) S__law_right_1 = some .globalImplicit := by decide +kernel
theorem i__law_right_found : N__law_right[3]? = some ("found" : Str) := rfl
theorem k__law_right_found : List.lookup ("found" : Str) (defScope s__law_right).names = some .local := by decide +kernel
theorem k__law_right_len : List.lookup ("len" : Str) (defScope s__law_right).names = some .globalImplicit := by decide +kernel
theorem k__law_right_list : List.lookup ("list" : Str) (defScope s__law_right).names = some .globalImplicit := by decide +kernel
theorem k__law_right_range : List.lookup ("range" : Str) (defScope s__law_right).names = some .globalImplicit := by decide +kernel
theorem i__law_right_there : N__law_right[4]? = some ("there" : Str) := rfl
theorem k__law_right_there : List.lookup ("there" : Str) (defScope s__law_right).names = some .local := by decide +kernel
theorem i__law_right_k : N__law_right[1]? = some ("k" : Str) := rfl
theorem k__law_right_k : List.lookup ("k" : Str) (defScope s__law_right).names = some .local := by decide +kernel
theorem i__law_right_turn : N__law_right[5]? = some ("turn" : Str) := rfl
theorem k__law_right_turn : List.lookup ("turn" : Str) (defScope s__law_right).names = some .local := by decide +kernel
theorem i__law_right_pool : N__law_right[2]? = some ("pool" : Str) := rfl
theorem k__law_right_pool : List.lookup ("pool" : Str) (defScope s__law_right).names = some .cell := by decide +kernel
theorem k__law_right__law_take : List.lookup ("_law_take" : Str) (defScope s__law_right).names = some .globalImplicit := by decide +kernel
theorem i__law_right_at : N__law_right[6]? = some ("at" : Str) := rfl
theorem k__law_right_at : List.lookup ("at" : Str) (defScope s__law_right).names = some .local := by decide +kernel
theorem d_at : (("at" : Str) == ("__debug__" : Str)) = false := by decide +kernel
theorem e_at : (("at" : Str) == ("__classdict__" : Str)) = false := by decide +kernel
theorem i__law_right_number : N__law_right[8]? = some ("number" : Str) := rfl
theorem k__law_right_2_number : List.lookup ("number" : Str) S__law_right_2 = some .local := by decide +kernel
theorem k__law_right_2_pool : List.lookup ("pool" : Str) S__law_right_2 = some .free := by decide +kernel
theorem k__law_right_2__law_take : List.lookup ("_law_take" : Str) S__law_right_2 = some .globalImplicit := by decide +kernel
theorem k__law_right_put_right : List.lookup ("put_right" : Str) (defScope s__law_right).names = some .globalImplicit := by decide +kernel
theorem d_put_right : (("put_right" : Str) == ("__debug__" : Str)) = false := by decide +kernel
theorem i_law_script : N_law[0]? = some ("script" : Str) := rfl
theorem k_law_script : List.lookup ("script" : Str) (defScope s_law).names = some .local := by decide +kernel
theorem k_law__law_pool : List.lookup ("_law_pool" : Str) (defScope s_law).names = some .globalImplicit := by decide +kernel
theorem k_law__law_sizes : List.lookup ("_law_sizes" : Str) (defScope s_law).names = some .globalImplicit := by decide +kernel
theorem d__law_sizes : (("_law_sizes" : Str) == ("__debug__" : Str)) = false := by decide +kernel
theorem i_law_r : N_law[2]? = some ("r" : Str) := rfl
theorem k_law_r : List.lookup ("r" : Str) (defScope s_law).names = some .local := by decide +kernel
theorem i_law_k : N_law[1]? = some ("k" : Str) := rfl
theorem k_law_k : List.lookup ("k" : Str) (defScope s_law).names = some .local := by decide +kernel
theorem k_law__law_slab : List.lookup ("_law_slab" : Str) (defScope s_law).names = some .globalImplicit := by decide +kernel
theorem d__law_slab : (("_law_slab" : Str) == ("__debug__" : Str)) = false := by decide +kernel
theorem i_law_slab : N_law[3]? = some ("slab" : Str) := rfl
theorem k_law_slab : List.lookup ("slab" : Str) (defScope s_law).names = some .local := by decide +kernel
theorem k_law_spares_of : List.lookup ("spares_of" : Str) (defScope s_law).names = some .globalImplicit := by decide +kernel
theorem d_spares_of : (("spares_of" : Str) == ("__debug__" : Str)) = false := by decide +kernel
theorem i_law_rows : N_law[4]? = some ("rows" : Str) := rfl
theorem k_law_rows : List.lookup ("rows" : Str) (defScope s_law).names = some .local := by decide +kernel
theorem k_law_len : List.lookup ("len" : Str) (defScope s_law).names = some .globalImplicit := by decide +kernel
theorem k_law_min : List.lookup ("min" : Str) (defScope s_law).names = some .globalImplicit := by decide +kernel
theorem v_min : bootBuiltins "min" = some (.builtin "min") := rfl
theorem nn_min : ("min" : Str) ≠ "__name__" := by decide +kernel
theorem d_min : (("min" : Str) == ("__debug__" : Str)) = false := by decide +kernel
theorem k_law_max : List.lookup ("max" : Str) (defScope s_law).names = some .globalImplicit := by decide +kernel
theorem v_max : bootBuiltins "max" = some (.builtin "max") := rfl
theorem nn_max : ("max" : Str) ≠ "__name__" := by decide +kernel
theorem d_max : (("max" : Str) == ("__debug__" : Str)) = false := by decide +kernel
theorem i_law_many : N_law[5]? = some ("many" : Str) := rfl
theorem k_law_many : List.lookup ("many" : Str) (defScope s_law).names = some .local := by decide +kernel
theorem k_law_range : List.lookup ("range" : Str) (defScope s_law).names = some .globalImplicit := by decide +kernel
theorem i_law_at : N_law[6]? = some ("at" : Str) := rfl
theorem k_law_at : List.lookup ("at" : Str) (defScope s_law).names = some .local := by decide +kernel
theorem i_law_pool : N_law[7]? = some ("pool" : Str) := rfl
theorem k_law_pool : List.lookup ("pool" : Str) (defScope s_law).names = some .local := by decide +kernel
theorem k_law__law_kept : List.lookup ("_law_kept" : Str) (defScope s_law).names = some .globalImplicit := by decide +kernel
theorem d__law_kept : (("_law_kept" : Str) == ("__debug__" : Str)) = false := by decide +kernel
theorem k_law_mend_rows : List.lookup ("mend_rows" : Str) (defScope s_law).names = some .globalImplicit := by decide +kernel
theorem d_mend_rows : (("mend_rows" : Str) == ("__debug__" : Str)) = false := by decide +kernel
theorem i_law_told : N_law[8]? = some ("told" : Str) := rfl
theorem k_law_told : List.lookup ("told" : Str) (defScope s_law).names = some .local := by decide +kernel
theorem d_told : (("told" : Str) == ("__debug__" : Str)) = false := by decide +kernel
theorem e_told : (("told" : Str) == ("__classdict__" : Str)) = false := by decide +kernel
theorem k_law__law_right : List.lookup ("_law_right" : Str) (defScope s_law).names = some .globalImplicit := by decide +kernel
theorem d__law_right : (("_law_right" : Str) == ("__debug__" : Str)) = false := by decide +kernel
structure Txt (K : PySem.W.Frag) (mg : Str → Option Value) where
  C_Broken : Addr
  m_Broken : mg "Broken" = some (.ref C_Broken)
  cf_Broken : ClsF K C_Broken
  x_Broken : PySem.W.excIn K C_Broken [.type "ValueError", .type "Exception", .type "BaseException", .type "object"] "ValueError.__new__" = true
  kc_Broken : PySem.W.keepIn K (.ref C_Broken) = true
  tab : AllT K ⟨fun i => match i with | 1 => C_Broken | _ => C_Broken, K⟩ tab
  n_len : mg "len" = none
  n_range : mg "range" = none
  n_sum : mg "sum" = none
  n_zip : mg "zip" = none
  n_list : mg "list" = none
  n_max : mg "max" = none
  n_min : mg "min" = none
  t_PRIME : Tok
  g_PRIME : mg "PRIME" = some (.int 257 t_PRIME)
  t_MOST_ROWS : Tok
  g_MOST_ROWS : mg "MOST_ROWS" = some (.int 64 t_MOST_ROWS)
  t_MOST_SPARES : Tok
  g_MOST_SPARES : mg "MOST_SPARES" = some (.int 16 t_MOST_SPARES)
  a__law_take : Addr
  fd__law_take : FuncData
  F__law_take : Fun K "_law_take" "_law_take" s__law_take a__law_take fd__law_take
  m__law_take : mg "_law_take" = some (.ref a__law_take)
  k__law_take : PySem.W.keepIn K (.ref a__law_take) = true
  b__law_take : Binds K fd__law_take ["pool", "many"] []
  a__law_sizes : Addr
  fd__law_sizes : FuncData
  F__law_sizes : Fun K "_law_sizes" "_law_sizes" s__law_sizes a__law_sizes fd__law_sizes
  m__law_sizes : mg "_law_sizes" = some (.ref a__law_sizes)
  k__law_sizes : PySem.W.keepIn K (.ref a__law_sizes) = true
  b__law_sizes : Binds K fd__law_sizes ["pool"] []
  a__law_pool : Addr
  fd__law_pool : FuncData
  F__law_pool : Fun K "_law_pool" "_law_pool" s__law_pool a__law_pool fd__law_pool
  m__law_pool : mg "_law_pool" = some (.ref a__law_pool)
  k__law_pool : PySem.W.keepIn K (.ref a__law_pool) = true
  b__law_pool : Binds K fd__law_pool ["script", "k"] []
  a__law_slab : Addr
  fd__law_slab : FuncData
  F__law_slab : Fun K "_law_slab" "_law_slab" s__law_slab a__law_slab fd__law_slab
  m__law_slab : mg "_law_slab" = some (.ref a__law_slab)
  k__law_slab : PySem.W.keepIn K (.ref a__law_slab) = true
  b__law_slab : Binds K fd__law_slab ["script", "k"] []
  a_turned_over : Addr
  fd_turned_over : FuncData
  F_turned_over : Fun K "turned_over" "turned_over" s_turned_over a_turned_over fd_turned_over
  m_turned_over : mg "turned_over" = some (.ref a_turned_over)
  k_turned_over : PySem.W.keepIn K (.ref a_turned_over) = true
  b_turned_over : Binds K fd_turned_over ["number"] []
  a_shares_at : Addr
  fd_shares_at : FuncData
  F_shares_at : Fun K "shares_at" "shares_at" s_shares_at a_shares_at fd_shares_at
  m_shares_at : mg "shares_at" = some (.ref a_shares_at)
  k_shares_at : PySem.W.keepIn K (.ref a_shares_at) = true
  b_shares_at : Binds K fd_shares_at ["places", "x"] []
  a_row_at : Addr
  fd_row_at : FuncData
  F_row_at : Fun K "row_at" "row_at" s_row_at a_row_at fd_row_at
  m_row_at : mg "row_at" = some (.ref a_row_at)
  k_row_at : PySem.W.keepIn K (.ref a_row_at) = true
  b_row_at : Binds K fd_row_at ["rows", "places", "x"] []
  a_spares_of : Addr
  fd_spares_of : FuncData
  F_spares_of : Fun K "spares_of" "spares_of" s_spares_of a_spares_of fd_spares_of
  m_spares_of : mg "spares_of" = some (.ref a_spares_of)
  k_spares_of : PySem.W.keepIn K (.ref a_spares_of) = true
  b_spares_of : Binds K fd_spares_of ["slab", "r"] []
  a_need_rows : Addr
  fd_need_rows : FuncData
  F_need_rows : Fun K "need_rows" "need_rows" s_need_rows a_need_rows fd_need_rows
  m_need_rows : mg "need_rows" = some (.ref a_need_rows)
  k_need_rows : PySem.W.keepIn K (.ref a_need_rows) = true
  b_need_rows : Binds K fd_need_rows ["rows", "k"] []
  a_all_by : Addr
  fd_all_by : FuncData
  F_all_by : Fun K "all_by" "all_by" s_all_by a_all_by fd_all_by
  m_all_by : mg "all_by" = some (.ref a_all_by)
  k_all_by : PySem.W.keepIn K (.ref a_all_by) = true
  b_all_by : Binds K fd_all_by ["rows", "places"] []
  a_mend_rows : Addr
  fd_mend_rows : FuncData
  F_mend_rows : Fun K "mend_rows" "mend_rows" s_mend_rows a_mend_rows fd_mend_rows
  m_mend_rows : mg "mend_rows" = some (.ref a_mend_rows)
  k_mend_rows : PySem.W.keepIn K (.ref a_mend_rows) = true
  b_mend_rows : Binds K fd_mend_rows ["rows", "k"] []
  a__law_kept : Addr
  fd__law_kept : FuncData
  F__law_kept : Fun K "_law_kept" "_law_kept" s__law_kept a__law_kept fd__law_kept
  m__law_kept : mg "_law_kept" = some (.ref a__law_kept)
  k__law_kept : PySem.W.keepIn K (.ref a__law_kept) = true
  b__law_kept : Binds K fd__law_kept ["rows", "k", "pool"] []
  a_chosen : Addr
  fd_chosen : FuncData
  F_chosen : Fun K "chosen" "chosen" s_chosen a_chosen fd_chosen
  m_chosen : mg "chosen" = some (.ref a_chosen)
  k_chosen : PySem.W.keepIn K (.ref a_chosen) = true
  b_chosen : Binds K fd_chosen ["many", "k"] []
  a_put_right : Addr
  fd_put_right : FuncData
  F_put_right : Fun K "put_right" "put_right" s_put_right a_put_right fd_put_right
  m_put_right : mg "put_right" = some (.ref a_put_right)
  k_put_right : PySem.W.keepIn K (.ref a_put_right) = true
  b_put_right : Binds K fd_put_right ["rows", "k"] []
  a__law_right : Addr
  fd__law_right : FuncData
  F__law_right : Fun K "_law_right" "_law_right" s__law_right a__law_right fd__law_right
  m__law_right : mg "_law_right" = some (.ref a__law_right)
  k__law_right : PySem.W.keepIn K (.ref a__law_right) = true
  b__law_right : Binds K fd__law_right ["rows", "k", "pool"] []
  a_law : Addr
  fd_law : FuncData
  F_law : Fun K "law" "law" s_law a_law fd_law
  m_law : mg "law" = some (.ref a_law)
  k_law : PySem.W.keepIn K (.ref a_law) = true
  b_law : Binds K fd_law ["script"] []
section
variable {P : Program} {w : World} {K : PySem.W.Frag} {mg : Str → Option Value} {base : Heap}
abbrev Txt.G (T : Txt K mg) : GX := ⟨fun i => match i with | 1 => T.C_Broken | _ => T.C_Broken, K⟩
theorem ok__law_take (T : Txt K mg) : FnOk P w K mg base (L2.CX P w) 1 T.a__law_take T.fd__law_take ["pool", "many"] (spQ T.G 0 1 F__law_take) := by
  have ND := sc__law_take.nd
  exact fnQ2 (N := N__law_take) (ps := ["pool", "many"]) (q := 0) (n := 1) (G := T.G) (k := 0) (fb := f__law_take) T.F__law_take sc__law_take rfl fun cdv A outer s H E C hr hp =>
  (vss_cons (vs_if (vt_cmp (os_eq hr.units) (ve_ix rfl (ve_var i__law_take_pool (.inl k__law_take_pool) d_pool e_pool) ve_int (fun _ _ => rfl)) ve_int (nomark _)) (vss_cons (vs_set ND i__law_take_found (.inl k__law_take_found) (pinQ hp 2 (by decide)) (ve_bin os_mod (ve_ix rfl (ve_var i__law_take_pool (.inl k__law_take_pool) d_pool e_pool) ve_int (fun _ _ => rfl)) (ve_var i__law_take_many (.inl k__law_take_many) d_many e_many)))
  (vss_cons (vs_setIx i__law_take_pool (.inl k__law_take_pool) d_pool e_pool ve_int (ve_bin os_div (ve_ix rfl (ve_var i__law_take_pool (.inl k__law_take_pool) d_pool e_pool) ve_int (fun _ _ => rfl)) (ve_var i__law_take_many (.inl k__law_take_many) d_many e_many)))
  (vss_one (vs_ret (ve_var i__law_take_found (.inl k__law_take_found) d_found e_found))))) vss_nil)
  (vss_cons (vs_setIx i__law_take_pool (.inl k__law_take_pool) d_pool e_pool ve_int (ve_bin os_add (ve_ix rfl (ve_var i__law_take_pool (.inl k__law_take_pool) d_pool e_pool) ve_int (fun _ _ => rfl)) ve_int))
  (vss_cons (vs_set ND i__law_take_step (.inl k__law_take_step) (pinQ hp 3 (by decide)) (ve_ix rfl (ve_var i__law_take_pool (.inl k__law_take_pool) d_pool e_pool) ve_int (fun _ _ => rfl)))
  (vss_cons (vs_set ND i__law_take_mark (.inl k__law_take_mark) (pinQ hp 4 (by decide)) (ve_bin os_mul (ve_bin os_add (ve_bin os_mod (ve_ix rfl (ve_var i__law_take_pool (.inl k__law_take_pool) d_pool e_pool) ve_int (fun _ _ => rfl)) ve_int) ve_int) (ve_bin os_add (ve_bin os_mul ve_int (ve_var i__law_take_step (.inl k__law_take_step) d_step e_step)) ve_int)))
  (vss_cons (vs_set ND i__law_take_mark (.inl k__law_take_mark) (pinQ hp 4 (by decide)) (ve_bin os_add (ve_var i__law_take_mark (.inl k__law_take_mark) d_mark e_mark) (ve_bin os_mul (ve_bin os_mul ve_int (ve_var i__law_take_step (.inl k__law_take_step) d_step e_step)) (ve_var i__law_take_step (.inl k__law_take_step) d_step e_step))))
  (vss_cons (vs_set ND i__law_take_mark (.inl k__law_take_mark) (pinQ hp 4 (by decide)) (ve_bin os_mod (ve_bin os_mul (ve_var i__law_take_mark (.inl k__law_take_mark) d_mark e_mark) (ve_var i__law_take_mark (.inl k__law_take_mark) d_mark e_mark)) ve_int))
  (vss_one (vs_ret (ve_bin os_mod (ve_bin os_div (ve_bin os_mod (ve_bin os_mul (ve_var i__law_take_mark (.inl k__law_take_mark) d_mark e_mark) (ve_bin os_add (ve_var i__law_take_mark (.inl k__law_take_mark) d_mark e_mark) ve_int)) ve_int) ve_int) (ve_var i__law_take_many (.inl k__law_take_many) d_many e_many))))))))))
theorem ok__law_sizes (T : Txt K mg) : FnOk P w K mg base (L2.CX P w) 2 T.a__law_sizes T.fd__law_sizes ["pool"] (spQ T.G 0 0 F__law_sizes) := by
  have ND := sc__law_sizes.nd
  exact fnQ2 (N := N__law_sizes) (ps := ["pool"]) (q := 0) (n := 0) (G := T.G) (k := 1) (fb := f__law_sizes) T.F__law_sizes sc__law_sizes rfl fun cdv A outer s H E C hr hp =>
  (vss_cons (vs_set ND i__law_sizes_some (.inl k__law_sizes_some) (pinQ hp 1 (by decide)) (ve_lst (va_cons (ve_set (ve_callQ (takes_of rfl rfl rfl rfl) (ok__law_take T) (by decide) (hr.mono (by decide)) k__law_sizes__law_take T.m__law_take T.k__law_take T.b__law_take (va_cons (ve_var i__law_sizes_pool (.inl k__law_sizes_pool) d_pool e_pool) (va_cons (ve_set ve_int) va_nil)) d__law_take)) (va_cons (ve_set (ve_callQ (takes_of rfl rfl rfl rfl) (ok__law_take T) (by decide) (hr.mono (by decide)) k__law_sizes__law_take T.m__law_take T.k__law_take T.b__law_take (va_cons (ve_var i__law_sizes_pool (.inl k__law_sizes_pool) d_pool e_pool) (va_cons (ve_set ve_int) va_nil)) d__law_take)) (va_cons (ve_set (ve_callQ (takes_of rfl rfl rfl rfl) (ok__law_take T) (by decide) (hr.mono (by decide)) k__law_sizes__law_take T.m__law_take T.k__law_take T.b__law_take (va_cons (ve_var i__law_sizes_pool (.inl k__law_sizes_pool) d_pool e_pool) (va_cons (ve_set ve_int) va_nil)) d__law_take)) va_nil)))))
  (vss_cons (vs_set ND i__law_sizes_r (.inl k__law_sizes_r) (pinQ hp 2 (by decide)) (ve_ix rfl (ve_lst (va_cons (ve_set (ve_callQ (takes_of rfl rfl rfl rfl) (ok__law_take T) (by decide) (hr.mono (by decide)) k__law_sizes__law_take T.m__law_take T.k__law_take T.b__law_take (va_cons (ve_var i__law_sizes_pool (.inl k__law_sizes_pool) d_pool e_pool) (va_cons (ve_set ve_int) va_nil)) d__law_take)) (va_cons (ve_set (ve_callQ (takes_of rfl rfl rfl rfl) (ok__law_take T) (by decide) (hr.mono (by decide)) k__law_sizes__law_take T.m__law_take T.k__law_take T.b__law_take (va_cons (ve_var i__law_sizes_pool (.inl k__law_sizes_pool) d_pool e_pool) (va_cons (ve_set ve_int) va_nil)) d__law_take)) va_nil))) (ve_callQ (takes_of rfl rfl rfl rfl) (ok__law_take T) (by decide) (hr.mono (by decide)) k__law_sizes__law_take T.m__law_take T.k__law_take T.b__law_take (va_cons (ve_var i__law_sizes_pool (.inl k__law_sizes_pool) d_pool e_pool) (va_cons (ve_set ve_int) va_nil)) d__law_take) (fun _ _ => rfl)))
  (vss_one (vs_ret (ve_tup (va_cons (ve_set (ve_bin os_add ve_int (ve_ix rfl (ve_var i__law_sizes_some (.inl k__law_sizes_some) d_some e_some) (ve_ix rfl (ve_lst (va_cons (ve_set ve_int) (va_cons (ve_set ve_int) (va_cons (ve_set ve_int) (va_cons (ve_set ve_int) (va_cons (ve_set ve_int) (va_cons (ve_set ve_int) (va_cons (ve_set ve_int) (va_cons (ve_set ve_int) va_nil))))))))) (ve_callQ (takes_of rfl rfl rfl rfl) (ok__law_take T) (by decide) (hr.mono (by decide)) k__law_sizes__law_take T.m__law_take T.k__law_take T.b__law_take (va_cons (ve_var i__law_sizes_pool (.inl k__law_sizes_pool) d_pool e_pool) (va_cons (ve_set ve_int) va_nil)) d__law_take) (fun _ _ => rfl)) (fun _ _ => rfl)))) (va_cons (ve_set (ve_var i__law_sizes_r (.inl k__law_sizes_r) d_r e_r)) va_nil)))))))
theorem ok__law_pool (T : Txt K mg) : FnOk P w K mg base (L2.CX P w) 1 T.a__law_pool T.fd__law_pool ["script", "k"] (spV T.G 2 F__law_pool) := by
  have ND := sc__law_pool.nd
  exact fnV2 (N := N__law_pool) (ps := ["script", "k"]) (G := T.G) (k := 0) (fb := f__law_pool) T.F__law_pool sc__law_pool fun cdv A outer s H E C hr hp =>
  (vss_cons (vs_set ND i__law_pool_cell (.inl k__law_pool_cell) (pinV hp 2) ve_int)
  (vss_cons (vs_if (vt_cmp os_lt (ve_var i__law_pool_k (.inl k__law_pool_k) d_k e_k) (ve_callB rfl cs_len k__law_pool_len T.n_len v_len (va_cons (ve_var i__law_pool_script (.inl k__law_pool_script) d_script e_script) va_nil) nn_len d_len) (nomark _)) (vss_one (vs_set ND i__law_pool_cell (.inl k__law_pool_cell) (pinV hp 2) (ve_ix rfl (ve_var i__law_pool_script (.inl k__law_pool_script) d_script e_script) (ve_var i__law_pool_k (.inl k__law_pool_k) d_k e_k) (fun _ _ => rfl)))) vss_nil)
  (vss_one (vs_ret (ve_lst (va_cons (ve_set (ve_bin os_div (ve_var i__law_pool_cell (.inl k__law_pool_cell) d_cell e_cell) ve_int)) (va_cons (ve_set (ve_bin os_mod (ve_var i__law_pool_cell (.inl k__law_pool_cell) d_cell e_cell) ve_int)) (va_cons (ve_set (ve_bin os_mul ve_int (ve_var i__law_pool_k (.inl k__law_pool_k) d_k e_k))) va_nil))))))))
theorem ok__law_slab (T : Txt K mg) : FnOk P w K mg base (L2.CX P w) 2 T.a__law_slab T.fd__law_slab ["script", "k"] (spV T.G 2 F__law_slab) := by
  have ND := sc__law_slab.nd
  exact fnV2 (N := N__law_slab) (ps := ["script", "k"]) (G := T.G) (k := 1) (fb := f__law_slab) T.F__law_slab sc__law_slab fun cdv A outer s H E C hr hp =>
  (vss_cons (vs_setLc rfl ND i__law_slab_rows k__law_slab_rows (pinV hp 2) (sw_true sc__law_slab.kind k__law_slab_rows rfl (by decide +kernel)) (own := [("x", 6)]) (vi_range1 k__law_slab_range T.n_range (va_cons (ve_var i__law_slab_k (.inl k__law_slab_k) d_k e_k) va_nil)) (show BlkOk N__law_slab (defScope s__law_slab) _ _ from blkOk_by (by decide +kernel)) (pinVo hp [6]) (by decide) (fun _ _ _ _ _ => (vg_name ND i__law_slab_x (.inl (cv_own k__law_slab_1_x)) (pinV hp 6))) (fun _ _ _ _ _ => vts_nil) (fun _ _ _ _ _ => (ve_lst va_nil)))
  (vss_cons (vs_for (passes_of rfl) rfl (vi_range1 k__law_slab_range T.n_range (va_cons (ve_callQ (takes_of rfl rfl rfl rfl) (ok__law_take T) (by decide) (hr.mono (by decide)) k__law_slab__law_take T.m__law_take T.k__law_take T.b__law_take (va_cons (ve_call (takes_of rfl rfl rfl rfl) (ok__law_pool T) (hr.mono (by decide)) k__law_slab__law_pool T.m__law_pool T.k__law_pool T.b__law_pool (va_cons (ve_var i__law_slab_script (.inl k__law_slab_script) d_script e_script) (va_cons ve_int va_nil)) d__law_pool) (va_cons (ve_set ve_int) va_nil)) d__law_take) va_nil)) (vg_name ND i__law_slab_column (.inl k__law_slab_column) (pinV hp 3)) (vss_cons (vs_set ND i__law_slab_pool (.inl k__law_slab_pool) (pinV hp 4) (ve_call (takes_of rfl rfl rfl rfl) (ok__law_pool T) (hr.mono (by decide)) k__law_slab__law_pool T.m__law_pool T.k__law_pool T.b__law_pool (va_cons (ve_var i__law_slab_script (.inl k__law_slab_script) d_script e_script) (va_cons (ve_bin os_add ve_int (ve_var i__law_slab_column (.inl k__law_slab_column) d_column e_column)) va_nil)) d__law_pool))
  (vss_one (vs_forM (passes_of rfl) rfl ND (by decide) i__law_slab_rows (.inl k__law_slab_rows) d_rows e_rows i__law_slab_row (.inl k__law_slab_row) (pinV hp 5) (fun _ eC1 => (vss_one (vs_expr (ve_app i__law_slab_row (.inl k__law_slab_row) d_row e_row (ve_callQ (takes_of rfl rfl rfl rfl) (ok__law_take T) (by decide) (hr.mono (by decide)) k__law_slab__law_take T.m__law_take T.k__law_take T.b__law_take (va_cons (ve_var i__law_slab_pool (.inl k__law_slab_pool) d_pool e_pool) (va_cons (ve_set ve_int) va_nil)) d__law_take)))))))))
  (vss_one (vs_ret (ve_var i__law_slab_rows (.inl k__law_slab_rows) d_rows e_rows)))))
theorem ok_turned_over (T : Txt K mg) : FnOk P w K mg base (L2.CX P w) 1 T.a_turned_over T.fd_turned_over ["number"] (spV T.G 1 F_turned_over) := by
  have ND := sc_turned_over.nd
  exact fnV2 (N := N_turned_over) (ps := ["number"]) (G := T.G) (k := 0) (fb := f_turned_over) T.F_turned_over sc_turned_over fun cdv A outer s H E C hr hp =>
  (vss_cons (vs_set ND i_turned_over_power (.inl k_turned_over_power) (pinV hp 1) ve_int)
  (vss_cons (vs_for (passes_of rfl) rfl (vi_range1 k_turned_over_range T.n_range (va_cons ve_int va_nil)) (vg_name ND i_turned_over_one (.inl k_turned_over_one) (pinV hp 2)) (vss_one (vs_set ND i_turned_over_power (.inl k_turned_over_power) (pinV hp 1) (ve_bin os_mod (ve_bin os_mul (ve_bin os_mul (ve_var i_turned_over_power (.inl k_turned_over_power) d_power e_power) (ve_var i_turned_over_power (.inl k_turned_over_power) d_power e_power)) (ve_var i_turned_over_number (.inl k_turned_over_number) d_number e_number)) (ve_gint k_turned_over_PRIME T.g_PRIME d_PRIME)))))
  (vss_one (vs_ret (ve_var i_turned_over_power (.inl k_turned_over_power) d_power e_power)))))
theorem ok_shares_at (T : Txt K mg) : FnOk P w K mg base (L2.CX P w) 2 T.a_shares_at T.fd_shares_at ["places", "x"] (spV T.G 2 F_shares_at) := by
  have ND := sc_shares_at.nd
  exact fnV2 (N := N_shares_at) (ps := ["places", "x"]) (G := T.G) (k := 1) (fb := f_shares_at) T.F_shares_at sc_shares_at fun cdv A outer s H E C hr hp =>
  (vss_cons (vs_set ND i_shares_at_found (.inl k_shares_at_found) (pinV hp 2) (ve_lst va_nil))
  (vss_cons (vs_for (passes_of rfl) rfl (vi_list rfl (ve_var i_shares_at_places (.inl k_shares_at_places) d_places e_places)) (vg_name ND i_shares_at_place (.inl k_shares_at_place) (pinV hp 3)) (vss_cons (vs_set ND i_shares_at_above (.inl k_shares_at_above) (pinV hp 4) ve_int)
  (vss_cons (vs_set ND i_shares_at_below (.inl k_shares_at_below) (pinV hp 5) ve_int)
  (vss_cons (vs_for (passes_of rfl) rfl (vi_list rfl (ve_var i_shares_at_places (.inl k_shares_at_places) d_places e_places)) (vg_name ND i_shares_at_other (.inl k_shares_at_other) (pinV hp 6)) (vss_one (vs_if (vt_cmp (os_ne hr.units) (ve_var i_shares_at_other (.inl k_shares_at_other) d_other e_other) (ve_var i_shares_at_place (.inl k_shares_at_place) d_place e_place) (nomark _)) (vss_cons (vs_set ND i_shares_at_above (.inl k_shares_at_above) (pinV hp 4) (ve_bin os_mod (ve_bin os_mul (ve_var i_shares_at_above (.inl k_shares_at_above) d_above e_above) (ve_bin os_sub (ve_var i_shares_at_x (.inl k_shares_at_x) d_x e_x) (ve_var i_shares_at_other (.inl k_shares_at_other) d_other e_other))) (ve_gint k_shares_at_PRIME T.g_PRIME d_PRIME)))
  (vss_one (vs_set ND i_shares_at_below (.inl k_shares_at_below) (pinV hp 5) (ve_bin os_mod (ve_bin os_mul (ve_var i_shares_at_below (.inl k_shares_at_below) d_below e_below) (ve_bin os_sub (ve_var i_shares_at_place (.inl k_shares_at_place) d_place e_place) (ve_var i_shares_at_other (.inl k_shares_at_other) d_other e_other))) (ve_gint k_shares_at_PRIME T.g_PRIME d_PRIME))))) vss_nil)))
  (vss_one (vs_expr (ve_app i_shares_at_found (.inl k_shares_at_found) d_found e_found (ve_bin os_mod (ve_bin os_mul (ve_var i_shares_at_above (.inl k_shares_at_above) d_above e_above) (ve_call (takes_of rfl rfl rfl rfl) (ok_turned_over T) (hr.mono (by decide)) k_shares_at_turned_over T.m_turned_over T.k_turned_over T.b_turned_over (va_cons (ve_var i_shares_at_below (.inl k_shares_at_below) d_below e_below) va_nil) d_turned_over)) (ve_gint k_shares_at_PRIME T.g_PRIME d_PRIME)))))))))
  (vss_one (vs_ret (ve_var i_shares_at_found (.inl k_shares_at_found) d_found e_found)))))
theorem ok_row_at (T : Txt K mg) : FnOk P w K mg base (L2.CX P w) 3 T.a_row_at T.fd_row_at ["rows", "places", "x"] (spV T.G 3 F_row_at) := by
  have ND := sc_row_at.nd
  exact fnV2 (N := N_row_at) (ps := ["rows", "places", "x"]) (G := T.G) (k := 2) (fb := f_row_at) T.F_row_at sc_row_at fun cdv A outer s H E C hr hp =>
  (vss_cons (vs_set ND i_row_at_shares (.inl k_row_at_shares) (pinV hp 3) (ve_call (takes_of rfl rfl rfl rfl) (ok_shares_at T) (hr.mono (by decide)) k_row_at_shares_at T.m_shares_at T.k_shares_at T.b_shares_at (va_cons (ve_var i_row_at_places (.inl k_row_at_places) d_places e_places) (va_cons (ve_var i_row_at_x (.inl k_row_at_x) d_x e_x) va_nil)) d_shares_at))
  (vss_cons (vs_set ND i_row_at_found (.inl k_row_at_found) (pinV hp 4) (ve_lst va_nil))
  (vss_cons (vs_for (passes_of rfl) rfl (vi_range1 k_row_at_range T.n_range (va_cons (ve_callB rfl cs_len k_row_at_len T.n_len v_len (va_cons (ve_ix rfl (ve_var i_row_at_rows (.inr (.inl k_row_at_rows)) d_rows e_rows) (ve_ix rfl (ve_var i_row_at_places (.inl k_row_at_places) d_places e_places) ve_int (fun _ _ => rfl)) (fun _ _ => rfl)) va_nil) nn_len d_len) va_nil)) (vg_name ND i_row_at_column (.inr k_row_at_column) (pinV hp 5)) (vss_one (vs_expr (ve_app i_row_at_found (.inl k_row_at_found) d_found e_found (ve_bin os_mod (ve_callB rfl (cs_sum rfl) k_row_at_sum T.n_sum v_sum (va_cons (ve_lc rfl ND (own := [("share", 6), ("place", 7)]) (vi_zip k_row_at_zip T.n_zip (va_cons (ve_set (ve_var i_row_at_shares (.inl k_row_at_shares) d_shares e_shares)) (va_cons (ve_set (ve_var i_row_at_places (.inl k_row_at_places) d_places e_places)) va_nil))) (show BlkOk N_row_at (defScope s_row_at) _ _ from blkOk_by (by decide +kernel)) (pinVo hp [6, 7]) (by decide) (fun _ _ _ _ _ => (vg_tup rfl (vgs_cons ND i_row_at_share (.inl (cv_own k_row_at_1_share)) (pinV hp 6) (vgs_cons ND i_row_at_place (.inl (cv_own k_row_at_1_place)) (pinV hp 7) vgs_nil)))) (fun _ _ _ _ _ => vts_nil) (fun _ _ _ _ _ => (ve_bin os_mul (ve_var i_row_at_share (.inl (cv_own k_row_at_1_share)) d_share e_share) (ve_ix rfl (ve_ix rfl (ve_var i_row_at_rows (cv_free k_row_at_1_rows) d_rows e_rows) (ve_var i_row_at_place (.inl (cv_own k_row_at_1_place)) d_place e_place) (fun _ _ => rfl)) (ve_var i_row_at_column (cv_free k_row_at_1_column) d_column e_column) (fun _ _ => rfl))))) va_nil) nn_sum d_sum) (ve_gint k_row_at_PRIME T.g_PRIME d_PRIME))))))
  (vss_one (vs_ret (ve_var i_row_at_found (.inl k_row_at_found) d_found e_found))))))
theorem ok_spares_of (T : Txt K mg) : FnOk P w K mg base (L2.CX P w) 4 T.a_spares_of T.fd_spares_of ["slab", "r"] (spV T.G 2 F_spares_of) := by
  have ND := sc_spares_of.nd
  exact fnV2 (N := N_spares_of) (ps := ["slab", "r"]) (G := T.G) (k := 3) (fb := f_spares_of) T.F_spares_of sc_spares_of fun cdv A outer s H E C hr hp =>
  (vss_cons (vs_set ND i_spares_of_places (.inr k_spares_of_places) (pinV hp 2) (ve_listRg1 rfl k_spares_of_list T.n_list k_spares_of_range T.n_range (ve_callB rfl cs_len k_spares_of_len T.n_len v_len (va_cons (ve_var i_spares_of_slab (.inr (.inl k_spares_of_slab)) d_slab e_slab) va_nil) nn_len d_len)))
  (vss_one (vs_ret (ve_lc rfl ND (own := [("one", 3)]) (vi_range1 k_spares_of_range T.n_range (va_cons (ve_var i_spares_of_r (.inl k_spares_of_r) d_r e_r) va_nil)) (show BlkOk N_spares_of (defScope s_spares_of) _ _ from blkOk_by (by decide +kernel)) (pinVo hp [3]) (by decide) (fun _ _ _ _ _ => (vg_name ND i_spares_of_one (.inl (cv_own k_spares_of_1_one)) (pinV hp 3))) (fun _ _ _ _ _ => vts_nil) (fun _ _ _ _ _ => (ve_call takes0 (ok_row_at T) (hr.mono (by decide)) (cv_gl k_spares_of_1_row_at) T.m_row_at T.k_row_at T.b_row_at (va_cons (ve_var i_spares_of_slab (cv_free k_spares_of_1_slab) d_slab e_slab) (va_cons (ve_var i_spares_of_places (cv_free k_spares_of_1_places) d_places e_places) (va_cons (ve_bin os_add (ve_callB rfl cs_len (cv_gl k_spares_of_1_len) T.n_len v_len (va_cons (ve_var i_spares_of_slab (cv_free k_spares_of_1_slab) d_slab e_slab) va_nil) nn_len d_len) (ve_var i_spares_of_one (.inl (cv_own k_spares_of_1_one)) d_one e_one)) va_nil))) d_row_at))))))
theorem ok_need_rows (T : Txt K mg) : FnOk P w K mg base (L2.CX P w) 1 T.a_need_rows T.fd_need_rows ["rows", "k"] (spV T.G 2 F_need_rows) := by
  have ND := sc_need_rows.nd
  exact fnV2 (N := N_need_rows) (ps := ["rows", "k"]) (G := T.G) (k := 0) (fb := f_need_rows) T.F_need_rows sc_need_rows fun cdv A outer s H E C hr hp =>
  (vss_cons (vs_setLc rfl ND i_need_rows_there k_need_rows_there (pinV hp 2) (sw_true sc_need_rows.kind k_need_rows_there rfl (by decide +kernel)) (own := [("row", 3)]) (vi_list rfl (ve_var i_need_rows_rows (.inl k_need_rows_rows) d_rows e_rows)) (show BlkOk N_need_rows (defScope s_need_rows) _ _ from blkOk_by (by decide +kernel)) (pinVo hp [3]) (by decide) (fun _ _ _ _ _ => (vg_name ND i_need_rows_row (.inl (cv_own k_need_rows_1_row)) (pinV hp 3))) (fun _ _ _ _ _ => (vts_one (vt_cmp os_isnot (ve_var i_need_rows_row (.inl (cv_own k_need_rows_1_row)) d_row e_row) ve_non (nomark _)))) (fun _ _ _ _ _ => (ve_var i_need_rows_row (.inl (cv_own k_need_rows_1_row)) d_row e_row)))
  (vss_cons (vs_if (VW.pt (vw_or (vt_not (vt_chain op_le op_le ve_int (ve_var i_need_rows_k (.inl k_need_rows_k) d_k e_k) (ve_gint k_need_rows_MOST_ROWS T.g_MOST_ROWS d_MOST_ROWS))) (vw_or1 (vt_not (vt_chain op_le op_le (ve_var i_need_rows_k (.inl k_need_rows_k) d_k e_k) (ve_callB rfl cs_len k_need_rows_len T.n_len v_len (va_cons (ve_var i_need_rows_rows (.inl k_need_rows_rows) d_rows e_rows) va_nil) nn_len d_len) (ve_bin os_add (ve_var i_need_rows_k (.inl k_need_rows_k) d_k e_k) (ve_gint k_need_rows_MOST_SPARES T.g_MOST_SPARES d_MOST_SPARES))))))) (vss_one (vs_raise (c := 1) rfl (takes_of rfl rfl rfl rfl) T.x_Broken T.m_Broken T.kc_Broken (raises_own T.cf_Broken.bc T.cf_Broken.tc) k_need_rows_Broken d_Broken)) vss_nil)
  (vss_one (vs_for (passes_of rfl) rfl (vi_list rfl (ve_var i_need_rows_there (.inl k_need_rows_there) d_there e_there)) (vg_name ND i_need_rows_row (.inl k_need_rows_row) (pinV hp 3)) (vss_cons (vs_if (vt_cmp (os_ne hr.units) (ve_callB rfl cs_len k_need_rows_len T.n_len v_len (va_cons (ve_var i_need_rows_row (.inl k_need_rows_row) d_row e_row) va_nil) nn_len d_len) (ve_callB rfl cs_len k_need_rows_len T.n_len v_len (va_cons (ve_ix rfl (ve_var i_need_rows_there (.inl k_need_rows_there) d_there e_there) ve_int (fun _ _ => rfl)) va_nil) nn_len d_len) (nomark _)) (vss_one (vs_raise (c := 1) rfl (takes_of rfl rfl rfl rfl) T.x_Broken T.m_Broken T.kc_Broken (raises_own T.cf_Broken.bc T.cf_Broken.tc) k_need_rows_Broken d_Broken)) vss_nil)
  (vss_one (vs_for (passes_of rfl) rfl (vi_list rfl (ve_var i_need_rows_row (.inl k_need_rows_row) d_row e_row)) (vg_name ND i_need_rows_number (.inl k_need_rows_number) (pinV hp 4)) (vss_one (vs_if (VW.pt (vw_or (vt_cmp os_lt (ve_var i_need_rows_number (.inl k_need_rows_number) d_number e_number) ve_int (nomark _)) (vw_or1 (vt_cmp os_ge (ve_var i_need_rows_number (.inl k_need_rows_number) d_number e_number) (ve_gint k_need_rows_PRIME T.g_PRIME d_PRIME) (nomark _))))) (vss_one (vs_raise (c := 1) rfl (takes_of rfl rfl rfl rfl) T.x_Broken T.m_Broken T.kc_Broken (raises_own T.cf_Broken.bc T.cf_Broken.tc) k_need_rows_Broken d_Broken)) vss_nil)))))))))
theorem ok_all_by (T : Txt K mg) : FnOk P w K mg base (L2.CX P w) 4 T.a_all_by T.fd_all_by ["rows", "places"] (spV T.G 2 F_all_by) := by
  have ND := sc_all_by.nd
  exact fnV2 (N := N_all_by) (ps := ["rows", "places"]) (G := T.G) (k := 3) (fb := f_all_by) T.F_all_by sc_all_by fun cdv A outer s H E C hr hp =>
  (vss_cons (vs_set ND i_all_by_found (.inl k_all_by_found) (pinV hp 2) (ve_lst va_nil))
  (vss_cons (vs_for (passes_of rfl) rfl (vi_range1 k_all_by_range T.n_range (va_cons (ve_callB rfl cs_len k_all_by_len T.n_len v_len (va_cons (ve_var i_all_by_rows (.inl k_all_by_rows) d_rows e_rows) va_nil) nn_len d_len) va_nil)) (vg_name ND i_all_by_x (.inl k_all_by_x) (pinV hp 3)) (vss_one (vs_if (vt_cmp (os_in (units65 hr)) (ve_var i_all_by_x (.inl k_all_by_x) d_x e_x) (ve_var i_all_by_places (.inl k_all_by_places) d_places e_places) (by with_unfolding_all rfl)) (vss_one (vs_expr (ve_app i_all_by_found (.inl k_all_by_found) d_found e_found (ve_callTy rfl cs_list k_all_by_list T.n_list v_list (va_cons (ve_ix rfl (ve_var i_all_by_rows (.inl k_all_by_rows) d_rows e_rows) (ve_var i_all_by_x (.inl k_all_by_x) d_x e_x) (fun _ _ => rfl)) va_nil) nn_list d_list)))) (vss_one (vs_expr (ve_app i_all_by_found (.inl k_all_by_found) d_found e_found (ve_call (takes_of rfl rfl rfl rfl) (ok_row_at T) (hr.mono (by decide)) k_all_by_row_at T.m_row_at T.k_row_at T.b_row_at (va_cons (ve_var i_all_by_rows (.inl k_all_by_rows) d_rows e_rows) (va_cons (ve_var i_all_by_places (.inl k_all_by_places) d_places e_places) (va_cons (ve_var i_all_by_x (.inl k_all_by_x) d_x e_x) va_nil))) d_row_at)))))))
  (vss_one (vs_ret (ve_var i_all_by_found (.inl k_all_by_found) d_found e_found)))))
theorem ok_mend_rows (T : Txt K mg) : FnOk P w K mg base (L2.CX P w) 5 T.a_mend_rows T.fd_mend_rows ["rows", "k"] (spV T.G 2 F_mend_rows) := by
  have ND := sc_mend_rows.nd
  exact fnV2 (N := N_mend_rows) (ps := ["rows", "k"]) (G := T.G) (k := 4) (fb := f_mend_rows) T.F_mend_rows sc_mend_rows fun cdv A outer s H E C hr hp =>
  (vss_cons (vs_expr (ve_call (takes_of rfl rfl rfl rfl) (ok_need_rows T) (hr.mono (by decide)) k_mend_rows_need_rows T.m_need_rows T.k_need_rows T.b_need_rows (va_cons (ve_var i_mend_rows_rows (.inr (.inl k_mend_rows_rows)) d_rows e_rows) (va_cons (ve_var i_mend_rows_k (.inl k_mend_rows_k) d_k e_k) va_nil)) d_need_rows))
  (vss_cons (vs_setLc rfl ND i_mend_rows_places k_mend_rows_places (pinV hp 2) (sw_true sc_mend_rows.kind k_mend_rows_places rfl (by decide +kernel)) (own := [("x", 4)]) (vi_range1 k_mend_rows_range T.n_range (va_cons (ve_callB rfl cs_len k_mend_rows_len T.n_len v_len (va_cons (ve_var i_mend_rows_rows (.inr (.inl k_mend_rows_rows)) d_rows e_rows) va_nil) nn_len d_len) va_nil)) (show BlkOk N_mend_rows (defScope s_mend_rows) _ _ from blkOk_by (by decide +kernel)) (pinVo hp [4]) (by decide) (fun _ _ _ _ _ => (vg_name ND i_mend_rows_x (.inl (cv_own k_mend_rows_1_x)) (pinV hp 4))) (fun _ _ _ _ _ => (vts_one (vt_cmp os_isnot (ve_ix rfl (ve_var i_mend_rows_rows (cv_free k_mend_rows_1_rows) d_rows e_rows) (ve_var i_mend_rows_x (.inl (cv_own k_mend_rows_1_x)) d_x e_x) (fun _ _ => rfl)) ve_non (nomark _)))) (fun _ _ _ _ _ => (ve_var i_mend_rows_x (.inl (cv_own k_mend_rows_1_x)) d_x e_x)))
  (vss_cons (vs_if (vt_cmp os_lt (ve_callB rfl cs_len k_mend_rows_len T.n_len v_len (va_cons (ve_var i_mend_rows_places (.inl k_mend_rows_places) d_places e_places) va_nil) nn_len d_len) (ve_var i_mend_rows_k (.inl k_mend_rows_k) d_k e_k) (nomark _)) (vss_one (vs_raise (c := 1) rfl (takes_of rfl rfl rfl rfl) T.x_Broken T.m_Broken T.kc_Broken (raises_own T.cf_Broken.bc T.cf_Broken.tc) k_mend_rows_Broken d_Broken)) vss_nil)
  (vss_cons (vs_set ND i_mend_rows_found (.inl k_mend_rows_found) (pinV hp 3) (ve_call (takes_of rfl rfl rfl rfl) (ok_all_by T) (hr.mono (by decide)) k_mend_rows_all_by T.m_all_by T.k_all_by T.b_all_by (va_cons (ve_var i_mend_rows_rows (.inr (.inl k_mend_rows_rows)) d_rows e_rows) (va_cons (ve_slice rfl (ve_var i_mend_rows_places (.inl k_mend_rows_places) d_places e_places) vo_none (vo_some (ve_var i_mend_rows_k (.inl k_mend_rows_k) d_k e_k))) va_nil)) d_all_by))
  (vss_cons (vs_for (passes_of rfl) rfl (vi_list rfl (ve_slice rfl (ve_var i_mend_rows_places (.inl k_mend_rows_places) d_places e_places) (vo_some (ve_var i_mend_rows_k (.inl k_mend_rows_k) d_k e_k)) vo_none)) (vg_name ND i_mend_rows_x (.inl k_mend_rows_x) (pinV hp 4)) (vss_one (vs_if (vt_pure (fun _ eC2 => vt_cmp (os_ne hr.units) (ve_ix rfl (ve_var i_mend_rows_found (.inl k_mend_rows_found) d_found e_found) (ve_var i_mend_rows_x (.inl k_mend_rows_x) d_x e_x) (fun _ _ => rfl)) (ve_callTy rfl cs_list k_mend_rows_list T.n_list v_list (va_cons (ve_ix rfl (ve_var i_mend_rows_rows (.inr (.inl k_mend_rows_rows)) d_rows e_rows) (ve_var i_mend_rows_x (.inl k_mend_rows_x) d_x e_x) (fun _ _ => rfl)) va_nil) nn_list d_list) (nomark _))) (vss_one (vs_raise (c := 1) rfl (takes_of rfl rfl rfl rfl) T.x_Broken T.m_Broken T.kc_Broken (raises_own T.cf_Broken.bc T.cf_Broken.tc) k_mend_rows_Broken d_Broken)) vss_nil)))
  (vss_one (vs_ret (ve_var i_mend_rows_found (.inl k_mend_rows_found) d_found e_found))))))))
theorem ok__law_kept (T : Txt K mg) : FnOk P w K mg base (L2.CX P w) 2 T.a__law_kept T.fd__law_kept ["rows", "k", "pool"] (spQ T.G 2 2 F__law_kept) := by
  have ND := sc__law_kept.nd
  exact fnQ2 (N := N__law_kept) (ps := ["rows", "k", "pool"]) (q := 2) (n := 2) (G := T.G) (k := 1) (fb := f__law_kept) T.F__law_kept sc__law_kept rfl fun cdv A outer s H E C hr hp =>
  (vss_cons (vs_set ND i__law_kept_there (.inl k__law_kept_there) (pinQ hp 3 (by decide)) (ve_listRg1 rfl k__law_kept_list T.n_list k__law_kept_range T.n_range (ve_callB rfl cs_len k__law_kept_len T.n_len v_len (va_cons (ve_var i__law_kept_rows (.inl k__law_kept_rows) d_rows e_rows) va_nil) nn_len d_len)))
  (vss_cons (vs_setLc rfl ND i__law_kept_found k__law_kept_found (pinQ hp 4 (by decide)) (sw_true sc__law_kept.kind k__law_kept_found rfl (by decide +kernel)) (own := [("row", 6)]) (vi_list rfl (ve_var i__law_kept_rows (.inl k__law_kept_rows) d_rows e_rows)) (show BlkOk N__law_kept (defScope s__law_kept) _ _ from blkOk_by (by decide +kernel)) (pinQo hp [6] (by decide)) (by decide) (fun _ _ _ _ _ => (vg_name ND i__law_kept_row (.inl (cv_own k__law_kept_1_row)) (pinQ hp 6 (by decide)))) (fun _ _ _ _ _ => vts_nil) (fun _ _ _ _ _ => (ve_callTy rfl cs_list (cv_gl k__law_kept_1_list) T.n_list v_list (va_cons (ve_var i__law_kept_row (.inl (cv_own k__law_kept_1_row)) d_row e_row) va_nil) nn_list d_list)))
  (vss_cons (vs_for (passes_of rfl) rfl (vi_range1 k__law_kept_range T.n_range (va_cons (ve_bin os_sub (ve_callB rfl cs_len k__law_kept_len T.n_len v_len (va_cons (ve_var i__law_kept_rows (.inl k__law_kept_rows) d_rows e_rows) va_nil) nn_len d_len) (ve_var i__law_kept_k (.inl k__law_kept_k) d_k e_k)) va_nil)) (vg_name ND i__law_kept_turn (.inl k__law_kept_turn) (pinQ hp 5 (by decide))) (vss_one (vs_setIx i__law_kept_found (.inl k__law_kept_found) d_found e_found (ve_popI i__law_kept_there (.inl k__law_kept_there) d_there e_there (ve_callQ (takes_of rfl rfl rfl rfl) (ok__law_take T) (by decide) (hr.mono (by decide)) k__law_kept__law_take T.m__law_take T.k__law_take T.b__law_take (va_cons (ve_var i__law_kept_pool (.inl k__law_kept_pool) d_pool e_pool) (va_cons (ve_set (ve_callB rfl cs_len k__law_kept_len T.n_len v_len (va_cons (ve_var i__law_kept_there (.inl k__law_kept_there) d_there e_there) va_nil) nn_len d_len)) va_nil)) d__law_take)) ve_non)))
  (vss_one (vs_ret (ve_var i__law_kept_found (.inl k__law_kept_found) d_found e_found))))))
theorem ok_chosen (T : Txt K mg) : FnOk P w K mg base (L2.CX P w) 1 T.a_chosen T.fd_chosen ["many", "k"] (spV T.G 2 F_chosen) := by
  have ND := sc_chosen.nd
  exact fnV2 (N := N_chosen) (ps := ["many", "k"]) (G := T.G) (k := 0) (fb := f_chosen) T.F_chosen sc_chosen fun cdv A outer s H E C hr hp =>
  (vss_cons (vs_set ND i_chosen_lists (.inl k_chosen_lists) (pinV hp 2) (ve_lst (va_cons (ve_set (ve_lst va_nil)) va_nil)))
  (vss_cons (vs_for (passes_of rfl) rfl (vi_range1 k_chosen_range T.n_range (va_cons (ve_var i_chosen_many (.inl k_chosen_many) d_many e_many) va_nil)) (vg_name ND i_chosen_one (.inr k_chosen_one) (pinV hp 3)) (vss_one (vs_set ND i_chosen_lists (.inl k_chosen_lists) (pinV hp 2) (ve_bin os_add (ve_var i_chosen_lists (.inl k_chosen_lists) d_lists e_lists) (ve_lc rfl ND (own := [("some", 4)]) (vi_list rfl (ve_var i_chosen_lists (.inl k_chosen_lists) d_lists e_lists)) (show BlkOk N_chosen (defScope s_chosen) _ _ from blkOk_by (by decide +kernel)) (pinVo hp [4]) (by decide) (fun _ _ _ _ _ => (vg_name ND i_chosen_some (.inl (cv_own k_chosen_1_some)) (pinV hp 4))) (fun _ _ _ _ _ => (vts_one (vt_cmp os_lt (ve_callB rfl cs_len (cv_gl k_chosen_1_len) T.n_len v_len (va_cons (ve_var i_chosen_some (.inl (cv_own k_chosen_1_some)) d_some e_some) va_nil) nn_len d_len) (ve_var i_chosen_k (cv_free k_chosen_1_k) d_k e_k) (nomark _)))) (fun _ _ _ _ _ => (ve_bin os_add (ve_var i_chosen_some (.inl (cv_own k_chosen_1_some)) d_some e_some) (ve_lst (va_cons (ve_set (ve_var i_chosen_one (cv_free k_chosen_1_one) d_one e_one)) va_nil)))))))))
  (vss_one (vs_ret (ve_lc rfl ND (own := [("some", 4)]) (vi_list rfl (ve_var i_chosen_lists (.inl k_chosen_lists) d_lists e_lists)) (show BlkOk N_chosen (defScope s_chosen) _ _ from blkOk_by (by decide +kernel)) (pinVo hp [4]) (by decide) (fun _ _ _ _ _ => (vg_name ND i_chosen_some (.inl (cv_own k_chosen_2_some)) (pinV hp 4))) (fun _ _ _ _ _ => (vts_one (vt_cmp (os_eq hr.units) (ve_callB rfl cs_len (cv_gl k_chosen_2_len) T.n_len v_len (va_cons (ve_var i_chosen_some (.inl (cv_own k_chosen_2_some)) d_some e_some) va_nil) nn_len d_len) (ve_var i_chosen_k (cv_free k_chosen_2_k) d_k e_k) (nomark _)))) (fun _ _ _ _ _ => (ve_var i_chosen_some (.inl (cv_own k_chosen_2_some)) d_some e_some)))))))
theorem ok_put_right (T : Txt K mg) : FnOk P w K mg base (L2.CX P w) 5 T.a_put_right T.fd_put_right ["rows", "k"] (spV T.G 2 F_put_right) := by
  have ND := sc_put_right.nd
  exact fnV2 (N := N_put_right) (ps := ["rows", "k"]) (G := T.G) (k := 4) (fb := f_put_right) T.F_put_right sc_put_right fun cdv A outer s H E C hr hp =>
  (vss_cons (vs_expr (ve_call (takes_of rfl rfl rfl rfl) (ok_need_rows T) (hr.mono (by decide)) k_put_right_need_rows T.m_need_rows T.k_need_rows T.b_need_rows (va_cons (ve_var i_put_right_rows (.inr (.inl k_put_right_rows)) d_rows e_rows) (va_cons (ve_var i_put_right_k (.inl k_put_right_k) d_k e_k) va_nil)) d_need_rows))
  (vss_cons (vs_if (vt_cmp (os_in (units65 hr)) ve_non (ve_var i_put_right_rows (.inr (.inl k_put_right_rows)) d_rows e_rows) (by with_unfolding_all rfl)) (vss_one (vs_raise (c := 1) rfl (takes_of rfl rfl rfl rfl) T.x_Broken T.m_Broken T.kc_Broken (raises_own T.cf_Broken.bc T.cf_Broken.tc) k_put_right_Broken d_Broken)) vss_nil)
  (vss_cons (vs_for (passes_of rfl) rfl (vi_list rfl (ve_call (takes_of rfl rfl rfl rfl) (ok_chosen T) (hr.mono (by decide)) k_put_right_chosen T.m_chosen T.k_chosen T.b_chosen (va_cons (ve_callB rfl cs_len k_put_right_len T.n_len v_len (va_cons (ve_var i_put_right_rows (.inr (.inl k_put_right_rows)) d_rows e_rows) va_nil) nn_len d_len) (va_cons (ve_var i_put_right_k (.inl k_put_right_k) d_k e_k) va_nil)) d_chosen)) (vg_name ND i_put_right_places (.inl k_put_right_places) (pinV hp 2)) (vss_cons (vs_set ND i_put_right_found (.inr k_put_right_found) (pinV hp 3) (ve_call (takes_of rfl rfl rfl rfl) (ok_all_by T) (hr.mono (by decide)) k_put_right_all_by T.m_all_by T.k_all_by T.b_all_by (va_cons (ve_var i_put_right_rows (.inr (.inl k_put_right_rows)) d_rows e_rows) (va_cons (ve_var i_put_right_places (.inl k_put_right_places) d_places e_places) va_nil)) d_all_by))
  (vss_cons (vs_setLcP (pinV hp 4) (fun _ eC3 => ps_setLcR rfl ND i_put_right_wrong k_put_right_wrong (sw_true sc_put_right.kind k_put_right_wrong rfl (by decide +kernel)) (own := [("x", 5)]) (vi_range1 k_put_right_range T.n_range (va_cons (ve_callB rfl cs_len k_put_right_len T.n_len v_len (va_cons (ve_var i_put_right_rows (.inr (.inl k_put_right_rows)) d_rows e_rows) va_nil) nn_len d_len) va_nil)) (show BlkOk N_put_right (defScope s_put_right) _ _ from blkOk_by (by decide +kernel)) (pinPo (pinVo hp [5]) eC3) (by decide) (fun _ _ _ _ _ => (vg_name ND i_put_right_x (.inl (cv_own k_put_right_1_x)) (pinP (pinV hp 5) eC3))) (fun _ _ _ _ _ => (vts_one (vt_cmp (os_ne hr.units) (ve_ix rfl (ve_var i_put_right_found (cv_free k_put_right_1_found) d_found e_found) (ve_var i_put_right_x (.inl (cv_own k_put_right_1_x)) d_x e_x) (fun _ _ => rfl)) (ve_callTy rfl cs_list (cv_gl k_put_right_1_list) T.n_list v_list (va_cons (ve_ix rfl (ve_var i_put_right_rows (cv_free k_put_right_1_rows) d_rows e_rows) (ve_var i_put_right_x (.inl (cv_own k_put_right_1_x)) d_x e_x) (fun _ _ => rfl)) va_nil) nn_list d_list) (nomark _)))) (fun _ _ _ _ _ => (ve_var i_put_right_x (.inl (cv_own k_put_right_1_x)) d_x e_x))))
  (vss_one (vs_if (vt_cmp os_le (ve_callB rfl cs_len k_put_right_len T.n_len v_len (va_cons (ve_var i_put_right_wrong (.inl k_put_right_wrong) d_wrong e_wrong) va_nil) nn_len d_len) (ve_bin os_div (ve_bin os_sub (ve_callB rfl cs_len k_put_right_len T.n_len v_len (va_cons (ve_var i_put_right_rows (.inr (.inl k_put_right_rows)) d_rows e_rows) va_nil) nn_len d_len) (ve_var i_put_right_k (.inl k_put_right_k) d_k e_k)) ve_int) (nomark _)) (vss_one (vs_ret (ve_var i_put_right_found (.inr (.inl k_put_right_found)) d_found e_found))) vss_nil)))))
  (vss_one (vs_raise (c := 1) rfl (takes_of rfl rfl rfl rfl) T.x_Broken T.m_Broken T.kc_Broken (raises_own T.cf_Broken.bc T.cf_Broken.tc) k_put_right_Broken d_Broken)))))
theorem ok__law_right (T : Txt K mg) : FnOk P w K mg base (L2.CX P w) 6 T.a__law_right T.fd__law_right ["rows", "k", "pool"] (spQ T.G 2 2 F__law_right) := by
  have ND := sc__law_right.nd
  exact fnQ2 (N := N__law_right) (ps := ["rows", "k", "pool"]) (q := 2) (n := 2) (G := T.G) (k := 5) (fb := f__law_right) T.F__law_right sc__law_right rfl fun cdv A outer s H E C hr hp =>
  (vss_cons (vs_setLc rfl ND i__law_right_found k__law_right_found (pinQ hp 3 (by decide)) (sw_true sc__law_right.kind k__law_right_found rfl (by decide +kernel)) (own := [("row", 7)]) (vi_list rfl (ve_var i__law_right_rows (.inl k__law_right_rows) d_rows e_rows)) (show BlkOk N__law_right (defScope s__law_right) _ _ from blkOk_by (by decide +kernel)) (pinQo hp [7] (by decide)) (by decide) (fun _ _ _ _ _ => (vg_name ND i__law_right_row (.inl (cv_own k__law_right_1_row)) (pinQ hp 7 (by decide)))) (fun _ _ _ _ _ => vts_nil) (fun _ _ _ _ _ => (ve_callTy rfl cs_list (cv_gl k__law_right_1_list) T.n_list v_list (va_cons (ve_var i__law_right_row (.inl (cv_own k__law_right_1_row)) d_row e_row) va_nil) nn_list d_list)))
  (vss_cons (vs_set ND i__law_right_there (.inl k__law_right_there) (pinQ hp 4 (by decide)) (ve_listRg1 rfl k__law_right_list T.n_list k__law_right_range T.n_range (ve_callB rfl cs_len k__law_right_len T.n_len v_len (va_cons (ve_var i__law_right_rows (.inl k__law_right_rows) d_rows e_rows) va_nil) nn_len d_len)))
  (vss_cons (vs_for (passes_of rfl) rfl (vi_range1 k__law_right_range T.n_range (va_cons (ve_bin os_div (ve_bin os_sub (ve_callB rfl cs_len k__law_right_len T.n_len v_len (va_cons (ve_var i__law_right_rows (.inl k__law_right_rows) d_rows e_rows) va_nil) nn_len d_len) (ve_var i__law_right_k (.inl k__law_right_k) d_k e_k)) ve_int) va_nil)) (vg_name ND i__law_right_turn (.inl k__law_right_turn) (pinQ hp 5 (by decide))) (vss_cons (vs_set ND i__law_right_at (.inl k__law_right_at) (pinQ hp 6 (by decide)) (ve_popI i__law_right_there (.inl k__law_right_there) d_there e_there (ve_callQ (takes_of rfl rfl rfl rfl) (ok__law_take T) (by decide) (hr.mono (by decide)) k__law_right__law_take T.m__law_take T.k__law_take T.b__law_take (va_cons (ve_var i__law_right_pool (.inr (.inl k__law_right_pool)) d_pool e_pool) (va_cons (ve_set (ve_callB rfl cs_len k__law_right_len T.n_len v_len (va_cons (ve_var i__law_right_there (.inl k__law_right_there) d_there e_there) va_nil) nn_len d_len)) va_nil)) d__law_take)))
  (vss_one (vs_setIx i__law_right_found (.inl k__law_right_found) d_found e_found (ve_var i__law_right_at (.inl k__law_right_at) d_at e_at) (ve_lc rfl ND (own := [("number", 8)]) (vi_list rfl (ve_moveIx i__law_right_found (.inl k__law_right_found) d_found e_found (ve_var i__law_right_at (.inl k__law_right_at) d_at e_at) (fun _ _ => rfl))) (show BlkOk N__law_right (defScope s__law_right) _ _ from blkOk_by (by decide +kernel)) (pinQo hp [8] (by decide)) (by decide) (fun _ _ _ _ _ => (vg_name ND i__law_right_number (.inl (cv_own k__law_right_2_number)) (pinQ hp 8 (by decide)))) (fun _ _ _ _ _ => vts_nil) (fun _ _ _ _ _ => (ve_bin os_mod (ve_bin os_add (ve_bin os_add (ve_var i__law_right_number (.inl (cv_own k__law_right_2_number)) d_number e_number) ve_int) (ve_callQ takes0 (ok__law_take T) (by decide) (hr.mono (by decide)) (cv_gl k__law_right_2__law_take) T.m__law_take T.k__law_take T.b__law_take (va_cons (ve_var i__law_right_pool (cv_free k__law_right_2_pool) d_pool e_pool) (va_cons (ve_set ve_int) va_nil)) d__law_take)) ve_int)))))))
  (vss_one (vs_ret (ve_cmp (os_eq hr.units) (ve_call (takes_of rfl rfl rfl rfl) (ok_put_right T) (hr.mono (by decide)) k__law_right_put_right T.m_put_right T.k_put_right T.b_put_right (va_cons (ve_var i__law_right_found (.inl k__law_right_found) d_found e_found) (va_cons (ve_var i__law_right_k (.inl k__law_right_k) d_k e_k) va_nil)) d_put_right) (ve_var i__law_right_rows (.inl k__law_right_rows) d_rows e_rows) (nomark _)))))))
theorem ok_law (T : Txt K mg) : FnOk P w K mg base (L2.CX P w) 7 T.a_law T.fd_law ["script"] (spV T.G 1 F_law) := by
  have ND := sc_law.nd
  exact fnV2 (N := N_law) (ps := ["script"]) (G := T.G) (k := 6) (fb := f_law) T.F_law sc_law fun cdv A outer s H E C hr hp =>
  (vss_cons (vs_asg (ve_callQ (takes_of rfl rfl rfl rfl) (ok__law_sizes T) (by decide) (hr.mono (by decide)) k_law__law_sizes T.m__law_sizes T.k__law_sizes T.b__law_sizes (va_cons (ve_call (takes_of rfl rfl rfl rfl) (ok__law_pool T) (hr.mono (by decide)) k_law__law_pool T.m__law_pool T.k__law_pool T.b__law_pool (va_cons (ve_var i_law_script (.inl k_law_script) d_script e_script) (va_cons ve_int va_nil)) d__law_pool) va_nil) d__law_sizes) (vg_tup rfl (vgs_cons ND i_law_k (.inl k_law_k) (pinV hp 1) (vgs_cons ND i_law_r (.inl k_law_r) (pinV hp 2) vgs_nil))))
  (vss_cons (vs_set ND i_law_slab (.inl k_law_slab) (pinV hp 3) (ve_call (takes_of rfl rfl rfl rfl) (ok__law_slab T) (hr.mono (by decide)) k_law__law_slab T.m__law_slab T.k__law_slab T.b__law_slab (va_cons (ve_var i_law_script (.inl k_law_script) d_script e_script) (va_cons (ve_var i_law_k (.inl k_law_k) d_k e_k) va_nil)) d__law_slab))
  (vss_cons (vs_set ND i_law_rows (.inl k_law_rows) (pinV hp 4) (ve_bin os_add (ve_var i_law_slab (.inl k_law_slab) d_slab e_slab) (ve_call (takes_of rfl rfl rfl rfl) (ok_spares_of T) (hr.mono (by decide)) k_law_spares_of T.m_spares_of T.k_spares_of T.b_spares_of (va_cons (ve_var i_law_slab (.inl k_law_slab) d_slab e_slab) (va_cons (ve_var i_law_r (.inl k_law_r) d_r e_r) va_nil)) d_spares_of)))
  (vss_cons (vs_set ND i_law_many (.inl k_law_many) (pinV hp 5) (ve_callB rfl (cs_max2 rfl) k_law_max T.n_max v_max (va_cons ve_int (va_cons (ve_callB rfl (cs_min2 rfl) k_law_min T.n_min v_min (va_cons ve_int (va_cons (ve_callB rfl cs_len k_law_len T.n_len v_len (va_cons (ve_var i_law_script (.inl k_law_script) d_script e_script) va_nil) nn_len d_len) va_nil)) nn_min d_min) va_nil)) nn_max d_max))
  (vss_cons (vs_if (vt_cmp os_gt (ve_var i_law_k (.inl k_law_k) d_k e_k) ve_int (nomark _)) (vss_one (vs_set ND i_law_many (.inl k_law_many) (pinV hp 5) ve_int)) vss_nil)
  (vss_cons (vs_for (passes_of rfl) rfl (vi_range2 k_law_range T.n_range (va_cons ve_int (va_cons (ve_var i_law_many (.inl k_law_many) d_many e_many) va_nil))) (vg_name ND i_law_at (.inl k_law_at) (pinV hp 6)) (vss_cons (vs_set ND i_law_pool (.inl k_law_pool) (pinV hp 7) (ve_call (takes_of rfl rfl rfl rfl) (ok__law_pool T) (hr.mono (by decide)) k_law__law_pool T.m__law_pool T.k__law_pool T.b__law_pool (va_cons (ve_var i_law_script (.inl k_law_script) d_script e_script) (va_cons (ve_var i_law_at (.inl k_law_at) d_at e_at) va_nil)) d__law_pool))
  (vss_cons (vs_set ND i_law_told (.inl k_law_told) (pinV hp 8) (ve_call (takes_of rfl rfl rfl rfl) (ok_mend_rows T) (hr.mono (by decide)) k_law_mend_rows T.m_mend_rows T.k_mend_rows T.b_mend_rows (va_cons (ve_callQ (takes_of rfl rfl rfl rfl) (ok__law_kept T) (by decide) (hr.mono (by decide)) k_law__law_kept T.m__law_kept T.k__law_kept T.b__law_kept (va_cons (ve_set (ve_var i_law_rows (.inl k_law_rows) d_rows e_rows)) (va_cons (ve_set (ve_var i_law_k (.inl k_law_k) d_k e_k)) (va_cons (ve_var i_law_pool (.inl k_law_pool) d_pool e_pool) va_nil))) d__law_kept) (va_cons (ve_var i_law_k (.inl k_law_k) d_k e_k) va_nil)) d_mend_rows))
  (vss_cons (vs_if (VW.pt (vw_or (vt_cmp (os_ne hr.units) (ve_var i_law_told (.inl k_law_told) d_told e_told) (ve_var i_law_rows (.inl k_law_rows) d_rows e_rows) (nomark _)) (vw_or1 (vt_cmp (os_ne hr.units) (ve_call (takes_of rfl rfl rfl rfl) (ok_spares_of T) (hr.mono (by decide)) k_law_spares_of T.m_spares_of T.k_spares_of T.b_spares_of (va_cons (ve_slice rfl (ve_var i_law_told (.inl k_law_told) d_told e_told) vo_none (vo_some (ve_var i_law_k (.inl k_law_k) d_k e_k))) (va_cons (ve_var i_law_r (.inl k_law_r) d_r e_r) va_nil)) d_spares_of) (ve_slice rfl (ve_var i_law_told (.inl k_law_told) d_told e_told) (vo_some (ve_var i_law_k (.inl k_law_k) d_k e_k)) vo_none) (nomark _))))) (vss_one (vs_ret ve_bl)) vss_nil)
  (vss_one (vs_if (VW.pt (vw_and (vt_cmp os_lt (ve_callB rfl cs_len k_law_len T.n_len v_len (va_cons (ve_var i_law_rows (.inl k_law_rows) d_rows e_rows) va_nil) nn_len d_len) ve_int (nomark _)) (vw_and1 (vt_not (vt_val (ve_callQ (takes_of rfl rfl rfl rfl) (ok__law_right T) (by decide) (hr.mono (by decide)) k_law__law_right T.m__law_right T.k__law_right T.b__law_right (va_cons (ve_set (ve_var i_law_rows (.inl k_law_rows) d_rows e_rows)) (va_cons (ve_set (ve_var i_law_k (.inl k_law_k) d_k e_k)) (va_cons (ve_var i_law_pool (.inl k_law_pool) d_pool e_pool) va_nil))) d__law_right) (fun _ => rfl)))))) (vss_one (vs_ret ve_bl)) vss_nil))))))
  (vss_one (vs_ret ve_bl))))))))
end
def txt_mk {K : PySem.W.Frag} {h : Heap} {mg : Str → Option Value} {C_Broken a__law_take a__law_sizes a__law_pool a__law_slab a_turned_over a_shares_at a_row_at a_spares_of a_need_rows a_all_by a_mend_rows a__law_kept a_chosen a_put_right a__law_right a_law : Addr} (X : K.In h) (G : h.Ns mainGlobals mg)
    {od0 an0 od1 an1 od2 an2 od3 an3 od4 an4 od5 an5 od6 an6 od7 an7 od8 an8 od9 an9 od10 an10 od11 an11 od12 an12 od13 an13 od14 an14 od15 an15 : Option Addr} {sl0 sl1 sl2 sl3 sl4 sl5 sl6 sl7 sl8 sl9 sl10 sl11 sl12 sl13 sl14 sl15 : Array (Option Value)} {tk_PRIME tk_MOST_ROWS tk_MOST_SPARES : Tok} {oc0 kV0 dc0 pm0 cd0 ct0 oc1 kV1 dc1 pm1 cd1 ct1 oc2 kV2 dc2 pm2 cd2 ct2 oc3 kV3 dc3 pm3 cd3 ct3 oc4 kV4 dc4 pm4 cd4 ct4 oc5 kV5 dc5 pm5 cd5 ct5 oc6 kV6 dc6 pm6 cd6 ct6 oc7 kV7 dc7 pm7 cd7 ct7 oc8 kV8 dc8 pm8 cd8 ct8 oc9 kV9 dc9 pm9 cd9 ct9 oc10 kV10 dc10 pm10 cd10 ct10 oc11 kV11 dc11 pm11 cd11 ct11 oc12 kV12 dc12 pm12 cd12 ct12 oc13 kV13 dc13 pm13 cd13 ct13 oc14 kV14 dc14 pm14 cd14 ct14 oc15 kV15 dc15 pm15 cd15 ct15 : Value}
    (aC_Broken : PySem.W.nsIn K mainGlobals "Broken" = some (some (.ref C_Broken)))
    (ic_Broken : PySem.W.isClsIn K C_Broken = true)
    (tc_Broken : PySem.W.typeIn K (.ref C_Broken) = some (.type "type"))
    (bc_Broken : PySem.W.subIn K (.ref C_Broken) (.type "BaseException") = some true)
    (x_Broken : PySem.W.excIn K C_Broken [.type "ValueError", .type "Exception", .type "BaseException", .type "object"] "ValueError.__new__" = true)
    (kc_Broken : PySem.W.keepIn K (.ref C_Broken) = true)
    (hg_Broken : PySem.W.findIn K (.ref C_Broken) "__getattribute__" = some (some (.builtin "BaseException.__getattribute__")))
    (hk_Broken : PySem.W.findIn K (.ref C_Broken) "__getattr__" = some none)
    (hd_Broken : PySem.W.hasDictIn K C_Broken = true)
    (ha_Broken : PySem.W.findIn K (.ref C_Broken) "__class__" = some (some (.builtin "object.__class__")))
    (hm_Broken : PySem.W.mroIn K C_Broken (.type "object") = some true)
    (se_Broken : PySem.W.subIn K (.ref C_Broken) (.ref C_Broken) = some true)
    (hn : PySem.W.specialIn K (.builtin "object.__class__") "__get__" = some (some (.builtin "getset_descriptor.__get__")))
    (ht : PySem.W.takesIn K (.builtin "object.__class__") = some true)
    (z_len : PySem.W.nsIn K mainGlobals "len" = some none)
    (z_range : PySem.W.nsIn K mainGlobals "range" = some none)
    (z_sum : PySem.W.nsIn K mainGlobals "sum" = some none)
    (z_zip : PySem.W.nsIn K mainGlobals "zip" = some none)
    (z_list : PySem.W.nsIn K mainGlobals "list" = some none)
    (z_max : PySem.W.nsIn K mainGlobals "max" = some none)
    (z_min : PySem.W.nsIn K mainGlobals "min" = some none)
    (z_PRIME : PySem.W.nsIn K mainGlobals "PRIME" = some (some (.int 257 tk_PRIME)))
    (z_MOST_ROWS : PySem.W.nsIn K mainGlobals "MOST_ROWS" = some (some (.int 64 tk_MOST_ROWS)))
    (z_MOST_SPARES : PySem.W.nsIn K mainGlobals "MOST_SPARES" = some (some (.int 16 tk_MOST_SPARES)))
    (aF__law_take : PySem.W.nsIn K mainGlobals "_law_take" = some (some (.ref a__law_take)))
    (l__law_take : K.lookup a__law_take = some ⟨oc0, od0, .func (PySem.W.fnOf "_law_take" "_law_take" (defArgs s__law_take) (defBody s__law_take) (defScope s__law_take) .none kV0 dc0 pm0 an0 cd0 ct0), sl0⟩)
    (c__law_take : PySem.W.codeIn K cd0 "_law_take" = true)
    (k__law_take : PySem.W.keepIn K (.ref a__law_take) = true)
    (aF__law_sizes : PySem.W.nsIn K mainGlobals "_law_sizes" = some (some (.ref a__law_sizes)))
    (l__law_sizes : K.lookup a__law_sizes = some ⟨oc1, od1, .func (PySem.W.fnOf "_law_sizes" "_law_sizes" (defArgs s__law_sizes) (defBody s__law_sizes) (defScope s__law_sizes) .none kV1 dc1 pm1 an1 cd1 ct1), sl1⟩)
    (c__law_sizes : PySem.W.codeIn K cd1 "_law_sizes" = true)
    (k__law_sizes : PySem.W.keepIn K (.ref a__law_sizes) = true)
    (aF__law_pool : PySem.W.nsIn K mainGlobals "_law_pool" = some (some (.ref a__law_pool)))
    (l__law_pool : K.lookup a__law_pool = some ⟨oc2, od2, .func (PySem.W.fnOf "_law_pool" "_law_pool" (defArgs s__law_pool) (defBody s__law_pool) (defScope s__law_pool) .none kV2 dc2 pm2 an2 cd2 ct2), sl2⟩)
    (c__law_pool : PySem.W.codeIn K cd2 "_law_pool" = true)
    (k__law_pool : PySem.W.keepIn K (.ref a__law_pool) = true)
    (aF__law_slab : PySem.W.nsIn K mainGlobals "_law_slab" = some (some (.ref a__law_slab)))
    (l__law_slab : K.lookup a__law_slab = some ⟨oc3, od3, .func (PySem.W.fnOf "_law_slab" "_law_slab" (defArgs s__law_slab) (defBody s__law_slab) (defScope s__law_slab) .none kV3 dc3 pm3 an3 cd3 ct3), sl3⟩)
    (c__law_slab : PySem.W.codeIn K cd3 "_law_slab" = true)
    (k__law_slab : PySem.W.keepIn K (.ref a__law_slab) = true)
    (aF_turned_over : PySem.W.nsIn K mainGlobals "turned_over" = some (some (.ref a_turned_over)))
    (l_turned_over : K.lookup a_turned_over = some ⟨oc4, od4, .func (PySem.W.fnOf "turned_over" "turned_over" (defArgs s_turned_over) (defBody s_turned_over) (defScope s_turned_over) .none kV4 dc4 pm4 an4 cd4 ct4), sl4⟩)
    (c_turned_over : PySem.W.codeIn K cd4 "turned_over" = true)
    (k_turned_over : PySem.W.keepIn K (.ref a_turned_over) = true)
    (aF_shares_at : PySem.W.nsIn K mainGlobals "shares_at" = some (some (.ref a_shares_at)))
    (l_shares_at : K.lookup a_shares_at = some ⟨oc5, od5, .func (PySem.W.fnOf "shares_at" "shares_at" (defArgs s_shares_at) (defBody s_shares_at) (defScope s_shares_at) .none kV5 dc5 pm5 an5 cd5 ct5), sl5⟩)
    (c_shares_at : PySem.W.codeIn K cd5 "shares_at" = true)
    (k_shares_at : PySem.W.keepIn K (.ref a_shares_at) = true)
    (aF_row_at : PySem.W.nsIn K mainGlobals "row_at" = some (some (.ref a_row_at)))
    (l_row_at : K.lookup a_row_at = some ⟨oc6, od6, .func (PySem.W.fnOf "row_at" "row_at" (defArgs s_row_at) (defBody s_row_at) (defScope s_row_at) .none kV6 dc6 pm6 an6 cd6 ct6), sl6⟩)
    (c_row_at : PySem.W.codeIn K cd6 "row_at" = true)
    (k_row_at : PySem.W.keepIn K (.ref a_row_at) = true)
    (aF_spares_of : PySem.W.nsIn K mainGlobals "spares_of" = some (some (.ref a_spares_of)))
    (l_spares_of : K.lookup a_spares_of = some ⟨oc7, od7, .func (PySem.W.fnOf "spares_of" "spares_of" (defArgs s_spares_of) (defBody s_spares_of) (defScope s_spares_of) .none kV7 dc7 pm7 an7 cd7 ct7), sl7⟩)
    (c_spares_of : PySem.W.codeIn K cd7 "spares_of" = true)
    (k_spares_of : PySem.W.keepIn K (.ref a_spares_of) = true)
    (aF_need_rows : PySem.W.nsIn K mainGlobals "need_rows" = some (some (.ref a_need_rows)))
    (l_need_rows : K.lookup a_need_rows = some ⟨oc8, od8, .func (PySem.W.fnOf "need_rows" "need_rows" (defArgs s_need_rows) (defBody s_need_rows) (defScope s_need_rows) .none kV8 dc8 pm8 an8 cd8 ct8), sl8⟩)
    (c_need_rows : PySem.W.codeIn K cd8 "need_rows" = true)
    (k_need_rows : PySem.W.keepIn K (.ref a_need_rows) = true)
    (aF_all_by : PySem.W.nsIn K mainGlobals "all_by" = some (some (.ref a_all_by)))
    (l_all_by : K.lookup a_all_by = some ⟨oc9, od9, .func (PySem.W.fnOf "all_by" "all_by" (defArgs s_all_by) (defBody s_all_by) (defScope s_all_by) .none kV9 dc9 pm9 an9 cd9 ct9), sl9⟩)
    (c_all_by : PySem.W.codeIn K cd9 "all_by" = true)
    (k_all_by : PySem.W.keepIn K (.ref a_all_by) = true)
    (aF_mend_rows : PySem.W.nsIn K mainGlobals "mend_rows" = some (some (.ref a_mend_rows)))
    (l_mend_rows : K.lookup a_mend_rows = some ⟨oc10, od10, .func (PySem.W.fnOf "mend_rows" "mend_rows" (defArgs s_mend_rows) (defBody s_mend_rows) (defScope s_mend_rows) .none kV10 dc10 pm10 an10 cd10 ct10), sl10⟩)
    (c_mend_rows : PySem.W.codeIn K cd10 "mend_rows" = true)
    (k_mend_rows : PySem.W.keepIn K (.ref a_mend_rows) = true)
    (aF__law_kept : PySem.W.nsIn K mainGlobals "_law_kept" = some (some (.ref a__law_kept)))
    (l__law_kept : K.lookup a__law_kept = some ⟨oc11, od11, .func (PySem.W.fnOf "_law_kept" "_law_kept" (defArgs s__law_kept) (defBody s__law_kept) (defScope s__law_kept) .none kV11 dc11 pm11 an11 cd11 ct11), sl11⟩)
    (c__law_kept : PySem.W.codeIn K cd11 "_law_kept" = true)
    (k__law_kept : PySem.W.keepIn K (.ref a__law_kept) = true)
    (aF_chosen : PySem.W.nsIn K mainGlobals "chosen" = some (some (.ref a_chosen)))
    (l_chosen : K.lookup a_chosen = some ⟨oc12, od12, .func (PySem.W.fnOf "chosen" "chosen" (defArgs s_chosen) (defBody s_chosen) (defScope s_chosen) .none kV12 dc12 pm12 an12 cd12 ct12), sl12⟩)
    (c_chosen : PySem.W.codeIn K cd12 "chosen" = true)
    (k_chosen : PySem.W.keepIn K (.ref a_chosen) = true)
    (aF_put_right : PySem.W.nsIn K mainGlobals "put_right" = some (some (.ref a_put_right)))
    (l_put_right : K.lookup a_put_right = some ⟨oc13, od13, .func (PySem.W.fnOf "put_right" "put_right" (defArgs s_put_right) (defBody s_put_right) (defScope s_put_right) .none kV13 dc13 pm13 an13 cd13 ct13), sl13⟩)
    (c_put_right : PySem.W.codeIn K cd13 "put_right" = true)
    (k_put_right : PySem.W.keepIn K (.ref a_put_right) = true)
    (aF__law_right : PySem.W.nsIn K mainGlobals "_law_right" = some (some (.ref a__law_right)))
    (l__law_right : K.lookup a__law_right = some ⟨oc14, od14, .func (PySem.W.fnOf "_law_right" "_law_right" (defArgs s__law_right) (defBody s__law_right) (defScope s__law_right) .none kV14 dc14 pm14 an14 cd14 ct14), sl14⟩)
    (c__law_right : PySem.W.codeIn K cd14 "_law_right" = true)
    (k__law_right : PySem.W.keepIn K (.ref a__law_right) = true)
    (aF_law : PySem.W.nsIn K mainGlobals "law" = some (some (.ref a_law)))
    (l_law : K.lookup a_law = some ⟨oc15, od15, .func (PySem.W.fnOf "law" "law" (defArgs s_law) (defBody s_law) (defScope s_law) .none kV15 dc15 pm15 an15 cd15 ct15), sl15⟩)
    (c_law : PySem.W.codeIn K cd15 "law" = true)
    (k_law : PySem.W.keepIn K (.ref a_law) = true)
    : Txt K mg where
  C_Broken := C_Broken
  m_Broken := PySem.W.mg_of X G aC_Broken
  cf_Broken := ⟨ic_Broken, tc_Broken, bc_Broken⟩
  x_Broken := x_Broken
  kc_Broken := kc_Broken
  tab := trivial
  n_len := PySem.W.mg_none_of X G z_len
  n_range := PySem.W.mg_none_of X G z_range
  n_sum := PySem.W.mg_none_of X G z_sum
  n_zip := PySem.W.mg_none_of X G z_zip
  n_list := PySem.W.mg_none_of X G z_list
  n_max := PySem.W.mg_none_of X G z_max
  n_min := PySem.W.mg_none_of X G z_min
  t_PRIME := tk_PRIME
  g_PRIME := PySem.W.mg_of X G z_PRIME
  t_MOST_ROWS := tk_MOST_ROWS
  g_MOST_ROWS := PySem.W.mg_of X G z_MOST_ROWS
  t_MOST_SPARES := tk_MOST_SPARES
  g_MOST_SPARES := PySem.W.mg_of X G z_MOST_SPARES
  a__law_take := a__law_take
  fd__law_take := _
  F__law_take := fun_mk (st := s__law_take) l__law_take c__law_take k__law_take
  m__law_take := PySem.W.mg_of X G aF__law_take
  k__law_take := k__law_take
  b__law_take := (fun_mk (st := s__law_take) l__law_take c__law_take k__law_take).binds fun _ _ _ _ _ _ us hl => match us, hl with | [_, _], _ => rfl
  a__law_sizes := a__law_sizes
  fd__law_sizes := _
  F__law_sizes := fun_mk (st := s__law_sizes) l__law_sizes c__law_sizes k__law_sizes
  m__law_sizes := PySem.W.mg_of X G aF__law_sizes
  k__law_sizes := k__law_sizes
  b__law_sizes := (fun_mk (st := s__law_sizes) l__law_sizes c__law_sizes k__law_sizes).binds fun _ _ _ _ _ _ us hl => match us, hl with | [_], _ => rfl
  a__law_pool := a__law_pool
  fd__law_pool := _
  F__law_pool := fun_mk (st := s__law_pool) l__law_pool c__law_pool k__law_pool
  m__law_pool := PySem.W.mg_of X G aF__law_pool
  k__law_pool := k__law_pool
  b__law_pool := (fun_mk (st := s__law_pool) l__law_pool c__law_pool k__law_pool).binds fun _ _ _ _ _ _ us hl => match us, hl with | [_, _], _ => rfl
  a__law_slab := a__law_slab
  fd__law_slab := _
  F__law_slab := fun_mk (st := s__law_slab) l__law_slab c__law_slab k__law_slab
  m__law_slab := PySem.W.mg_of X G aF__law_slab
  k__law_slab := k__law_slab
  b__law_slab := (fun_mk (st := s__law_slab) l__law_slab c__law_slab k__law_slab).binds fun _ _ _ _ _ _ us hl => match us, hl with | [_, _], _ => rfl
  a_turned_over := a_turned_over
  fd_turned_over := _
  F_turned_over := fun_mk (st := s_turned_over) l_turned_over c_turned_over k_turned_over
  m_turned_over := PySem.W.mg_of X G aF_turned_over
  k_turned_over := k_turned_over
  b_turned_over := (fun_mk (st := s_turned_over) l_turned_over c_turned_over k_turned_over).binds fun _ _ _ _ _ _ us hl => match us, hl with | [_], _ => rfl
  a_shares_at := a_shares_at
  fd_shares_at := _
  F_shares_at := fun_mk (st := s_shares_at) l_shares_at c_shares_at k_shares_at
  m_shares_at := PySem.W.mg_of X G aF_shares_at
  k_shares_at := k_shares_at
  b_shares_at := (fun_mk (st := s_shares_at) l_shares_at c_shares_at k_shares_at).binds fun _ _ _ _ _ _ us hl => match us, hl with | [_, _], _ => rfl
  a_row_at := a_row_at
  fd_row_at := _
  F_row_at := fun_mk (st := s_row_at) l_row_at c_row_at k_row_at
  m_row_at := PySem.W.mg_of X G aF_row_at
  k_row_at := k_row_at
  b_row_at := (fun_mk (st := s_row_at) l_row_at c_row_at k_row_at).binds fun _ _ _ _ _ _ us hl => match us, hl with | [_, _, _], _ => rfl
  a_spares_of := a_spares_of
  fd_spares_of := _
  F_spares_of := fun_mk (st := s_spares_of) l_spares_of c_spares_of k_spares_of
  m_spares_of := PySem.W.mg_of X G aF_spares_of
  k_spares_of := k_spares_of
  b_spares_of := (fun_mk (st := s_spares_of) l_spares_of c_spares_of k_spares_of).binds fun _ _ _ _ _ _ us hl => match us, hl with | [_, _], _ => rfl
  a_need_rows := a_need_rows
  fd_need_rows := _
  F_need_rows := fun_mk (st := s_need_rows) l_need_rows c_need_rows k_need_rows
  m_need_rows := PySem.W.mg_of X G aF_need_rows
  k_need_rows := k_need_rows
  b_need_rows := (fun_mk (st := s_need_rows) l_need_rows c_need_rows k_need_rows).binds fun _ _ _ _ _ _ us hl => match us, hl with | [_, _], _ => rfl
  a_all_by := a_all_by
  fd_all_by := _
  F_all_by := fun_mk (st := s_all_by) l_all_by c_all_by k_all_by
  m_all_by := PySem.W.mg_of X G aF_all_by
  k_all_by := k_all_by
  b_all_by := (fun_mk (st := s_all_by) l_all_by c_all_by k_all_by).binds fun _ _ _ _ _ _ us hl => match us, hl with | [_, _], _ => rfl
  a_mend_rows := a_mend_rows
  fd_mend_rows := _
  F_mend_rows := fun_mk (st := s_mend_rows) l_mend_rows c_mend_rows k_mend_rows
  m_mend_rows := PySem.W.mg_of X G aF_mend_rows
  k_mend_rows := k_mend_rows
  b_mend_rows := (fun_mk (st := s_mend_rows) l_mend_rows c_mend_rows k_mend_rows).binds fun _ _ _ _ _ _ us hl => match us, hl with | [_, _], _ => rfl
  a__law_kept := a__law_kept
  fd__law_kept := _
  F__law_kept := fun_mk (st := s__law_kept) l__law_kept c__law_kept k__law_kept
  m__law_kept := PySem.W.mg_of X G aF__law_kept
  k__law_kept := k__law_kept
  b__law_kept := (fun_mk (st := s__law_kept) l__law_kept c__law_kept k__law_kept).binds fun _ _ _ _ _ _ us hl => match us, hl with | [_, _, _], _ => rfl
  a_chosen := a_chosen
  fd_chosen := _
  F_chosen := fun_mk (st := s_chosen) l_chosen c_chosen k_chosen
  m_chosen := PySem.W.mg_of X G aF_chosen
  k_chosen := k_chosen
  b_chosen := (fun_mk (st := s_chosen) l_chosen c_chosen k_chosen).binds fun _ _ _ _ _ _ us hl => match us, hl with | [_, _], _ => rfl
  a_put_right := a_put_right
  fd_put_right := _
  F_put_right := fun_mk (st := s_put_right) l_put_right c_put_right k_put_right
  m_put_right := PySem.W.mg_of X G aF_put_right
  k_put_right := k_put_right
  b_put_right := (fun_mk (st := s_put_right) l_put_right c_put_right k_put_right).binds fun _ _ _ _ _ _ us hl => match us, hl with | [_, _], _ => rfl
  a__law_right := a__law_right
  fd__law_right := _
  F__law_right := fun_mk (st := s__law_right) l__law_right c__law_right k__law_right
  m__law_right := PySem.W.mg_of X G aF__law_right
  k__law_right := k__law_right
  b__law_right := (fun_mk (st := s__law_right) l__law_right c__law_right k__law_right).binds fun _ _ _ _ _ _ us hl => match us, hl with | [_, _, _], _ => rfl
  a_law := a_law
  fd_law := _
  F_law := fun_mk (st := s_law) l_law c_law k_law
  m_law := PySem.W.mg_of X G aF_law
  k_law := k_law
  b_law := (fun_mk (st := s_law) l_law c_law k_law).binds fun _ _ _ _ _ _ us hl => match us, hl with | [_], _ => rfl
end K79

namespace K79
open PySem PySem.Spec PyProof.Rows L2 VL
theorem all_mk {P : Program} {w : World} {K : PySem.W.Frag} {h : Heap} {mg : Str → Option Value} {fa C_Broken a__law_take a__law_sizes a__law_pool a__law_slab a_turned_over a_shares_at a_row_at a_spares_of a_need_rows a_all_by a_mend_rows a__law_kept a_chosen a_put_right a__law_right a_law : Addr} (X : K.In h) (G : h.Ns mainGlobals mg) (hfa : mg "law" = some (.ref fa))
    {od0 an0 od1 an1 od2 an2 od3 an3 od4 an4 od5 an5 od6 an6 od7 an7 od8 an8 od9 an9 od10 an10 od11 an11 od12 an12 od13 an13 od14 an14 od15 an15 : Option Addr} {sl0 sl1 sl2 sl3 sl4 sl5 sl6 sl7 sl8 sl9 sl10 sl11 sl12 sl13 sl14 sl15 : Array (Option Value)} {tk_PRIME tk_MOST_ROWS tk_MOST_SPARES : Tok} {oc0 kV0 dc0 pm0 cd0 ct0 oc1 kV1 dc1 pm1 cd1 ct1 oc2 kV2 dc2 pm2 cd2 ct2 oc3 kV3 dc3 pm3 cd3 ct3 oc4 kV4 dc4 pm4 cd4 ct4 oc5 kV5 dc5 pm5 cd5 ct5 oc6 kV6 dc6 pm6 cd6 ct6 oc7 kV7 dc7 pm7 cd7 ct7 oc8 kV8 dc8 pm8 cd8 ct8 oc9 kV9 dc9 pm9 cd9 ct9 oc10 kV10 dc10 pm10 cd10 ct10 oc11 kV11 dc11 pm11 cd11 ct11 oc12 kV12 dc12 pm12 cd12 ct12 oc13 kV13 dc13 pm13 cd13 ct13 oc14 kV14 dc14 pm14 cd14 ct14 oc15 kV15 dc15 pm15 cd15 ct15 : Value}
    (aC_Broken : PySem.W.nsIn K mainGlobals "Broken" = some (some (.ref C_Broken)))
    (ic_Broken : PySem.W.isClsIn K C_Broken = true)
    (tc_Broken : PySem.W.typeIn K (.ref C_Broken) = some (.type "type"))
    (bc_Broken : PySem.W.subIn K (.ref C_Broken) (.type "BaseException") = some true)
    (x_Broken : PySem.W.excIn K C_Broken [.type "ValueError", .type "Exception", .type "BaseException", .type "object"] "ValueError.__new__" = true)
    (kc_Broken : PySem.W.keepIn K (.ref C_Broken) = true)
    (hg_Broken : PySem.W.findIn K (.ref C_Broken) "__getattribute__" = some (some (.builtin "BaseException.__getattribute__")))
    (hk_Broken : PySem.W.findIn K (.ref C_Broken) "__getattr__" = some none)
    (hd_Broken : PySem.W.hasDictIn K C_Broken = true)
    (ha_Broken : PySem.W.findIn K (.ref C_Broken) "__class__" = some (some (.builtin "object.__class__")))
    (hm_Broken : PySem.W.mroIn K C_Broken (.type "object") = some true)
    (se_Broken : PySem.W.subIn K (.ref C_Broken) (.ref C_Broken) = some true)
    (hn : PySem.W.specialIn K (.builtin "object.__class__") "__get__" = some (some (.builtin "getset_descriptor.__get__")))
    (ht : PySem.W.takesIn K (.builtin "object.__class__") = some true)
    (z_len : PySem.W.nsIn K mainGlobals "len" = some none)
    (z_range : PySem.W.nsIn K mainGlobals "range" = some none)
    (z_sum : PySem.W.nsIn K mainGlobals "sum" = some none)
    (z_zip : PySem.W.nsIn K mainGlobals "zip" = some none)
    (z_list : PySem.W.nsIn K mainGlobals "list" = some none)
    (z_max : PySem.W.nsIn K mainGlobals "max" = some none)
    (z_min : PySem.W.nsIn K mainGlobals "min" = some none)
    (z_PRIME : PySem.W.nsIn K mainGlobals "PRIME" = some (some (.int 257 tk_PRIME)))
    (z_MOST_ROWS : PySem.W.nsIn K mainGlobals "MOST_ROWS" = some (some (.int 64 tk_MOST_ROWS)))
    (z_MOST_SPARES : PySem.W.nsIn K mainGlobals "MOST_SPARES" = some (some (.int 16 tk_MOST_SPARES)))
    (aF__law_take : PySem.W.nsIn K mainGlobals "_law_take" = some (some (.ref a__law_take)))
    (l__law_take : K.lookup a__law_take = some ⟨oc0, od0, .func (PySem.W.fnOf "_law_take" "_law_take" (defArgs s__law_take) (defBody s__law_take) (defScope s__law_take) .none kV0 dc0 pm0 an0 cd0 ct0), sl0⟩)
    (c__law_take : PySem.W.codeIn K cd0 "_law_take" = true)
    (k__law_take : PySem.W.keepIn K (.ref a__law_take) = true)
    (aF__law_sizes : PySem.W.nsIn K mainGlobals "_law_sizes" = some (some (.ref a__law_sizes)))
    (l__law_sizes : K.lookup a__law_sizes = some ⟨oc1, od1, .func (PySem.W.fnOf "_law_sizes" "_law_sizes" (defArgs s__law_sizes) (defBody s__law_sizes) (defScope s__law_sizes) .none kV1 dc1 pm1 an1 cd1 ct1), sl1⟩)
    (c__law_sizes : PySem.W.codeIn K cd1 "_law_sizes" = true)
    (k__law_sizes : PySem.W.keepIn K (.ref a__law_sizes) = true)
    (aF__law_pool : PySem.W.nsIn K mainGlobals "_law_pool" = some (some (.ref a__law_pool)))
    (l__law_pool : K.lookup a__law_pool = some ⟨oc2, od2, .func (PySem.W.fnOf "_law_pool" "_law_pool" (defArgs s__law_pool) (defBody s__law_pool) (defScope s__law_pool) .none kV2 dc2 pm2 an2 cd2 ct2), sl2⟩)
    (c__law_pool : PySem.W.codeIn K cd2 "_law_pool" = true)
    (k__law_pool : PySem.W.keepIn K (.ref a__law_pool) = true)
    (aF__law_slab : PySem.W.nsIn K mainGlobals "_law_slab" = some (some (.ref a__law_slab)))
    (l__law_slab : K.lookup a__law_slab = some ⟨oc3, od3, .func (PySem.W.fnOf "_law_slab" "_law_slab" (defArgs s__law_slab) (defBody s__law_slab) (defScope s__law_slab) .none kV3 dc3 pm3 an3 cd3 ct3), sl3⟩)
    (c__law_slab : PySem.W.codeIn K cd3 "_law_slab" = true)
    (k__law_slab : PySem.W.keepIn K (.ref a__law_slab) = true)
    (aF_turned_over : PySem.W.nsIn K mainGlobals "turned_over" = some (some (.ref a_turned_over)))
    (l_turned_over : K.lookup a_turned_over = some ⟨oc4, od4, .func (PySem.W.fnOf "turned_over" "turned_over" (defArgs s_turned_over) (defBody s_turned_over) (defScope s_turned_over) .none kV4 dc4 pm4 an4 cd4 ct4), sl4⟩)
    (c_turned_over : PySem.W.codeIn K cd4 "turned_over" = true)
    (k_turned_over : PySem.W.keepIn K (.ref a_turned_over) = true)
    (aF_shares_at : PySem.W.nsIn K mainGlobals "shares_at" = some (some (.ref a_shares_at)))
    (l_shares_at : K.lookup a_shares_at = some ⟨oc5, od5, .func (PySem.W.fnOf "shares_at" "shares_at" (defArgs s_shares_at) (defBody s_shares_at) (defScope s_shares_at) .none kV5 dc5 pm5 an5 cd5 ct5), sl5⟩)
    (c_shares_at : PySem.W.codeIn K cd5 "shares_at" = true)
    (k_shares_at : PySem.W.keepIn K (.ref a_shares_at) = true)
    (aF_row_at : PySem.W.nsIn K mainGlobals "row_at" = some (some (.ref a_row_at)))
    (l_row_at : K.lookup a_row_at = some ⟨oc6, od6, .func (PySem.W.fnOf "row_at" "row_at" (defArgs s_row_at) (defBody s_row_at) (defScope s_row_at) .none kV6 dc6 pm6 an6 cd6 ct6), sl6⟩)
    (c_row_at : PySem.W.codeIn K cd6 "row_at" = true)
    (k_row_at : PySem.W.keepIn K (.ref a_row_at) = true)
    (aF_spares_of : PySem.W.nsIn K mainGlobals "spares_of" = some (some (.ref a_spares_of)))
    (l_spares_of : K.lookup a_spares_of = some ⟨oc7, od7, .func (PySem.W.fnOf "spares_of" "spares_of" (defArgs s_spares_of) (defBody s_spares_of) (defScope s_spares_of) .none kV7 dc7 pm7 an7 cd7 ct7), sl7⟩)
    (c_spares_of : PySem.W.codeIn K cd7 "spares_of" = true)
    (k_spares_of : PySem.W.keepIn K (.ref a_spares_of) = true)
    (aF_need_rows : PySem.W.nsIn K mainGlobals "need_rows" = some (some (.ref a_need_rows)))
    (l_need_rows : K.lookup a_need_rows = some ⟨oc8, od8, .func (PySem.W.fnOf "need_rows" "need_rows" (defArgs s_need_rows) (defBody s_need_rows) (defScope s_need_rows) .none kV8 dc8 pm8 an8 cd8 ct8), sl8⟩)
    (c_need_rows : PySem.W.codeIn K cd8 "need_rows" = true)
    (k_need_rows : PySem.W.keepIn K (.ref a_need_rows) = true)
    (aF_all_by : PySem.W.nsIn K mainGlobals "all_by" = some (some (.ref a_all_by)))
    (l_all_by : K.lookup a_all_by = some ⟨oc9, od9, .func (PySem.W.fnOf "all_by" "all_by" (defArgs s_all_by) (defBody s_all_by) (defScope s_all_by) .none kV9 dc9 pm9 an9 cd9 ct9), sl9⟩)
    (c_all_by : PySem.W.codeIn K cd9 "all_by" = true)
    (k_all_by : PySem.W.keepIn K (.ref a_all_by) = true)
    (aF_mend_rows : PySem.W.nsIn K mainGlobals "mend_rows" = some (some (.ref a_mend_rows)))
    (l_mend_rows : K.lookup a_mend_rows = some ⟨oc10, od10, .func (PySem.W.fnOf "mend_rows" "mend_rows" (defArgs s_mend_rows) (defBody s_mend_rows) (defScope s_mend_rows) .none kV10 dc10 pm10 an10 cd10 ct10), sl10⟩)
    (c_mend_rows : PySem.W.codeIn K cd10 "mend_rows" = true)
    (k_mend_rows : PySem.W.keepIn K (.ref a_mend_rows) = true)
    (aF__law_kept : PySem.W.nsIn K mainGlobals "_law_kept" = some (some (.ref a__law_kept)))
    (l__law_kept : K.lookup a__law_kept = some ⟨oc11, od11, .func (PySem.W.fnOf "_law_kept" "_law_kept" (defArgs s__law_kept) (defBody s__law_kept) (defScope s__law_kept) .none kV11 dc11 pm11 an11 cd11 ct11), sl11⟩)
    (c__law_kept : PySem.W.codeIn K cd11 "_law_kept" = true)
    (k__law_kept : PySem.W.keepIn K (.ref a__law_kept) = true)
    (aF_chosen : PySem.W.nsIn K mainGlobals "chosen" = some (some (.ref a_chosen)))
    (l_chosen : K.lookup a_chosen = some ⟨oc12, od12, .func (PySem.W.fnOf "chosen" "chosen" (defArgs s_chosen) (defBody s_chosen) (defScope s_chosen) .none kV12 dc12 pm12 an12 cd12 ct12), sl12⟩)
    (c_chosen : PySem.W.codeIn K cd12 "chosen" = true)
    (k_chosen : PySem.W.keepIn K (.ref a_chosen) = true)
    (aF_put_right : PySem.W.nsIn K mainGlobals "put_right" = some (some (.ref a_put_right)))
    (l_put_right : K.lookup a_put_right = some ⟨oc13, od13, .func (PySem.W.fnOf "put_right" "put_right" (defArgs s_put_right) (defBody s_put_right) (defScope s_put_right) .none kV13 dc13 pm13 an13 cd13 ct13), sl13⟩)
    (c_put_right : PySem.W.codeIn K cd13 "put_right" = true)
    (k_put_right : PySem.W.keepIn K (.ref a_put_right) = true)
    (aF__law_right : PySem.W.nsIn K mainGlobals "_law_right" = some (some (.ref a__law_right)))
    (l__law_right : K.lookup a__law_right = some ⟨oc14, od14, .func (PySem.W.fnOf "_law_right" "_law_right" (defArgs s__law_right) (defBody s__law_right) (defScope s__law_right) .none kV14 dc14 pm14 an14 cd14 ct14), sl14⟩)
    (c__law_right : PySem.W.codeIn K cd14 "_law_right" = true)
    (k__law_right : PySem.W.keepIn K (.ref a__law_right) = true)
    (aF_law : PySem.W.nsIn K mainGlobals "law" = some (some (.ref a_law)))
    (l_law : K.lookup a_law = some ⟨oc15, od15, .func (PySem.W.fnOf "law" "law" (defArgs s_law) (defBody s_law) (defScope s_law) .none kV15 dc15 pm15 an15 cd15 ct15), sl15⟩)
    (c_law : PySem.W.codeIn K cd15 "law" = true)
    (k_law : PySem.W.keepIn K (.ref a_law) = true)
    : ∃ fd : FuncData, (∀ (s : Shared) (u : Value), BindsTo s fd ⟨[u], []⟩ [("script", u)]) ∧ ∀ base : Heap, K.In base → base.Ns mainGlobals mg → FnOk P w K mg base (L2.CX P w) 7 fa fd ["script"] (spLaw K) := by
  have T : Txt K mg := txt_mk X G aC_Broken ic_Broken tc_Broken bc_Broken x_Broken kc_Broken hg_Broken hk_Broken hd_Broken ha_Broken hm_Broken se_Broken hn ht z_len z_range z_sum z_zip z_list z_max z_min z_PRIME z_MOST_ROWS z_MOST_SPARES aF__law_take l__law_take c__law_take k__law_take aF__law_sizes l__law_sizes c__law_sizes k__law_sizes aF__law_pool l__law_pool c__law_pool k__law_pool aF__law_slab l__law_slab c__law_slab k__law_slab aF_turned_over l_turned_over c_turned_over k_turned_over aF_shares_at l_shares_at c_shares_at k_shares_at aF_row_at l_row_at c_row_at k_row_at aF_spares_of l_spares_of c_spares_of k_spares_of aF_need_rows l_need_rows c_need_rows k_need_rows aF_all_by l_all_by c_all_by k_all_by aF_mend_rows l_mend_rows c_mend_rows k_mend_rows aF__law_kept l__law_kept c__law_kept k__law_kept aF_chosen l_chosen c_chosen k_chosen aF_put_right l_put_right c_put_right k_put_right aF__law_right l__law_right c__law_right k__law_right aF_law l_law c_law k_law
  have e := hfa.symm.trans (PySem.W.mg_of X G aF_law)
  cases e
  exact ⟨PySem.W.fnOf "law" "law" (defArgs s_law) (defBody s_law) (defScope s_law) .none kV15 dc15 pm15 an15 cd15 ct15, fun s u => .of_eq rfl, fun base _ _ => (ok_law (txt_mk X G aC_Broken ic_Broken tc_Broken bc_Broken x_Broken kc_Broken hg_Broken hk_Broken hd_Broken ha_Broken hm_Broken se_Broken hn ht z_len z_range z_sum z_zip z_list z_max z_min z_PRIME z_MOST_ROWS z_MOST_SPARES aF__law_take l__law_take c__law_take k__law_take aF__law_sizes l__law_sizes c__law_sizes k__law_sizes aF__law_pool l__law_pool c__law_pool k__law_pool aF__law_slab l__law_slab c__law_slab k__law_slab aF_turned_over l_turned_over c_turned_over k_turned_over aF_shares_at l_shares_at c_shares_at k_shares_at aF_row_at l_row_at c_row_at k_row_at aF_spares_of l_spares_of c_spares_of k_spares_of aF_need_rows l_need_rows c_need_rows k_need_rows aF_all_by l_all_by c_all_by k_all_by aF_mend_rows l_mend_rows c_mend_rows k_mend_rows aF__law_kept l__law_kept c__law_kept k__law_kept aF_chosen l_chosen c_chosen k_chosen aF_put_right l_put_right c_put_right k_put_right aF__law_right l__law_right c__law_right k__law_right aF_law l_law c_law k_law)).imp fun vs H Q E q => law_imp (G := (txt_mk X G aC_Broken ic_Broken tc_Broken bc_Broken x_Broken kc_Broken hg_Broken hk_Broken hd_Broken ha_Broken hm_Broken se_Broken hn ht z_len z_range z_sum z_zip z_list z_max z_min z_PRIME z_MOST_ROWS z_MOST_SPARES aF__law_take l__law_take c__law_take k__law_take aF__law_sizes l__law_sizes c__law_sizes k__law_sizes aF__law_pool l__law_pool c__law_pool k__law_pool aF__law_slab l__law_slab c__law_slab k__law_slab aF_turned_over l_turned_over c_turned_over k_turned_over aF_shares_at l_shares_at c_shares_at k_shares_at aF_row_at l_row_at c_row_at k_row_at aF_spares_of l_spares_of c_spares_of k_spares_of aF_need_rows l_need_rows c_need_rows k_need_rows aF_all_by l_all_by c_all_by k_all_by aF_mend_rows l_mend_rows c_mend_rows k_mend_rows aF__law_kept l__law_kept c__law_kept k__law_kept aF_chosen l_chosen c_chosen k_chosen aF_put_right l_put_right c_put_right k_put_right aF__law_right l__law_right c__law_right k__law_right aF_law l_law c_law k_law).G) rfl law_plain q⟩
end K79
open PySem PySem.W PyProof.Rows
theorem PySem.Challenge.cw_packhall_k79_whole_any_so_many_holds : PySem.Challenge.rw_packhall_k79_whole_any_so_many.Holds := by
  w_on; o_law; k_head; (case hw => w_witness2)
  k_fill
  refine VL.walk_lawV (k := 7) (l := PySem.Challenge.rw_packhall_k79_whole_any_so_many) rfl rfl ⟨rfl, by decide, by decide⟩ (fun w h Y => PySem.W.kIn_of Y) ?F
  case F =>
    intro w mg fa h KX G hmg
    refine' K79.all_mk KX G hmg ?aC_Broken ?ic_Broken ?tc_Broken ?bc_Broken ?x_Broken ?kc_Broken ?hg_Broken ?hk_Broken ?hd_Broken ?ha_Broken ?hm_Broken ?se_Broken ?hn ?ht ?z_len ?z_range ?z_sum ?z_zip ?z_list ?z_max ?z_min ?z_PRIME ?z_MOST_ROWS ?z_MOST_SPARES ?aF__law_take ?l__law_take ?c__law_take ?k__law_take ?aF__law_sizes ?l__law_sizes ?c__law_sizes ?k__law_sizes ?aF__law_pool ?l__law_pool ?c__law_pool ?k__law_pool ?aF__law_slab ?l__law_slab ?c__law_slab ?k__law_slab ?aF_turned_over ?l_turned_over ?c_turned_over ?k_turned_over ?aF_shares_at ?l_shares_at ?c_shares_at ?k_shares_at ?aF_row_at ?l_row_at ?c_row_at ?k_row_at ?aF_spares_of ?l_spares_of ?c_spares_of ?k_spares_of ?aF_need_rows ?l_need_rows ?c_need_rows ?k_need_rows ?aF_all_by ?l_all_by ?c_all_by ?k_all_by ?aF_mend_rows ?l_mend_rows ?c_mend_rows ?k_mend_rows ?aF__law_kept ?l__law_kept ?c__law_kept ?k__law_kept ?aF_chosen ?l_chosen ?c_chosen ?k_chosen ?aF_put_right ?l_put_right ?c_put_right ?k_put_right ?aF__law_right ?l__law_right ?c__law_right ?k__law_right ?aF_law ?l_law ?c_law ?k_law
    (case aC_Broken => k_is)
    (case ic_Broken => k_is)
    (case tc_Broken => k_is)
    (case bc_Broken => k_is)
    (case x_Broken => k_exc)
    (case kc_Broken => k_is)
    (case hg_Broken => k_is)
    (case hk_Broken => k_is)
    (case hd_Broken => k_is)
    (case ha_Broken => k_is)
    (case hm_Broken => k_is)
    (case se_Broken => first | rfl | k_is)
    (case hn => k_is)
    (case ht => k_is)
    (case z_len => k_is)
    (case z_range => k_is)
    (case z_sum => k_is)
    (case z_zip => k_is)
    (case z_list => k_is)
    (case z_max => k_is)
    (case z_min => k_is)
    (case z_PRIME => k_is)
    (case z_MOST_ROWS => k_is)
    (case z_MOST_SPARES => k_is)
    (case aF__law_take => k_is)
    (case l__law_take => k_is)
    (case c__law_take => k_is)
    (case k__law_take => k_is)
    (case aF__law_sizes => k_is)
    (case l__law_sizes => k_is)
    (case c__law_sizes => k_is)
    (case k__law_sizes => k_is)
    (case aF__law_pool => k_is)
    (case l__law_pool => k_is)
    (case c__law_pool => k_is)
    (case k__law_pool => k_is)
    (case aF__law_slab => k_is)
    (case l__law_slab => k_is)
    (case c__law_slab => k_is)
    (case k__law_slab => k_is)
    (case aF_turned_over => k_is)
    (case l_turned_over => k_is)
    (case c_turned_over => k_is)
    (case k_turned_over => k_is)
    (case aF_shares_at => k_is)
    (case l_shares_at => k_is)
    (case c_shares_at => k_is)
    (case k_shares_at => k_is)
    (case aF_row_at => k_is)
    (case l_row_at => k_is)
    (case c_row_at => k_is)
    (case k_row_at => k_is)
    (case aF_spares_of => k_is)
    (case l_spares_of => k_is)
    (case c_spares_of => k_is)
    (case k_spares_of => k_is)
    (case aF_need_rows => k_is)
    (case l_need_rows => k_is)
    (case c_need_rows => k_is)
    (case k_need_rows => k_is)
    (case aF_all_by => k_is)
    (case l_all_by => k_is)
    (case c_all_by => k_is)
    (case k_all_by => k_is)
    (case aF_mend_rows => k_is)
    (case l_mend_rows => k_is)
    (case c_mend_rows => k_is)
    (case k_mend_rows => k_is)
    (case aF__law_kept => k_is)
    (case l__law_kept => k_is)
    (case c__law_kept => k_is)
    (case k__law_kept => k_is)
    (case aF_chosen => k_is)
    (case l_chosen => k_is)
    (case c_chosen => k_is)
    (case k_chosen => k_is)
    (case aF_put_right => k_is)
    (case l_put_right => k_is)
    (case c_put_right => k_is)
    (case k_put_right => k_is)
    (case aF__law_right => k_is)
    (case l__law_right => k_is)
    (case c__law_right => k_is)
    (case k__law_right => k_is)
    (case aF_law => k_is)
    (case l_law => k_is)
    (case c_law => k_is)
    (case k_law => k_is)
#print axioms PySem.Challenge.cw_packhall_k79_whole_any_so_many_holds

