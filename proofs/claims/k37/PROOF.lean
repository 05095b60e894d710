import PyProof.Rows.All
import Wide.All
import OpenK.AllK
import Wide.FinOn
import HandS.ForMost
import HandS.ForExc
import HandS.ExcIs
import HandS.Wide
import HandS.WideBits
import HandS.Deep
import HandS.TupAny
import HandS.IsInst
import HandS.Ends
import HandS.Style
import HandS.EndBits
import HandS.Conv
import HandS.SetFor
import HandS.SortInts
import HandS.More
import HandS.NoneIn
import HandS.DictTup
import HandS.SortRule
import HandS.NamedTupSort
import KE.LtSeq
import HandS.Rev
import PySem.Challenge.RW_packhall_k37_grammars_put_in
set_option Elab.async false
set_option linter.all false
set_option maxRecDepth 100000
set_option maxHeartbeats 4000000
/-! VL: values as trees. A tree's list, dict or instance is either one's own (o = true: it may be changed, nothing else reaches it) or shared and never changed again. -/
namespace VL
open PySem PySem.Spec PyProof.Rows L2

inductive Kd where
  | lst | tup | rd | dK (ks : List Key) | dT (ks : List (List Key)) | ins (c : Nat) (fs : List Str)
inductive D where
  | any | non | bl (b : Bool) | int (i : Int) | str (s : Str) | exc (c : Nat) | ty (n : String) | cls (c : Nat)
  | node (k : Kd) (o : Bool) (xs : List D)

inductive Bs where
  | sl (i : Nat) | tm (j : Nat) | fo
  deriving DecidableEq
structure Loc where
  b : Bs
  p : List Nat
  deriving DecidableEq
def Loc.sub (l : Loc) (i : Nat) : Loc := ⟨l.b, l.p ++ [i]⟩
def Loc.app (l : Loc) (q : List Nat) : Loc := ⟨l.b, l.p ++ q⟩
theorem Loc.sub_app (l : Loc) (i : Nat) (q : List Nat) : (l.sub i).app q = l.app (i :: q) := by
  unfold Loc.sub Loc.app; simp
theorem Loc.app_nil (l : Loc) : l.app [] = l := by
  unfold Loc.app; simp
abbrev Ow := Addr → Option Loc

/-- an exception object of the class cls at a, kept as a value -/
def ExT (cls : Value) (a : Addr) : HO := .ext fun h => ∃ (oe : Obj) (vs : Array Value), h.get? a = some oe ∧ Zc cls none oe ∧ oe.data = .fields vs
/-- what may be owned -/
def OwnO : Option HO → Prop
  | some (.lst _) => True
  | some (.dK _) => True
  | some (.dT _) => True
  | some (.ins _ _ _) => True
  | _ => False
def OwnAt (k : Kd) (o : Bool) (l : Loc) (x : Option Loc) : Prop := match k with
  | .rd => True
  | _ => x = if o = true then some l else none
theorem OwnAt.cases {k : Kd} {o : Bool} {l : Loc} {x : Option Loc} (h : OwnAt k o l x) : k = .rd ∨ x = if o = true then some l else none := by
  cases k <;> first | exact .inl rfl | exact .inr h
theorem OwnAt.mk {k : Kd} {o : Bool} {l : Loc} {x : Option Loc} (h : x = if o = true then some l else none) : OwnAt k o l x := by
  cases k <;> first | exact h | exact trivial
/-- the text's classes by number, and the written part -/
structure GX where
  ad : Nat → Addr
  K : PySem.W.Frag
instance : CoeFun GX (fun _ => Nat → Addr) := ⟨GX.ad⟩
def Holds (G : GX) (H : Hp) (a : Addr) : Kd → List V → Prop
  | .lst, vs => H a = some (.lst vs)
  | .tup, vs => H a = some (.tup vs)
  | .rd, vs => (∃ o, H a = some (.frz o (.lst vs))) ∨ ∃ (o : Obj) (its : Array Value) (n : Nat), G.K.lookup a = some o ∧ o.cls = .type "list" ∧ o.dict = none ∧ o.data = .seq its n ∧ its.size ≤ sizeLine ∧ Vals vs its.toList
  | .dK ks, vs => H a = some (.dK (ks.zip vs)) ∧ ks.length = vs.length
  | .dT ks, vs => H a = some (.dT (ks.zip vs)) ∧ ks.length = vs.length
  | .ins c fs, vs => (∃ dx, H a = some (.ins (G c) dx (fs.zip vs))) ∧ fs.length = vs.length
theorem Holds.there {G : GX} {H : Hp} {a : Addr} {k : Kd} {vs : List V} (h : Holds G H a k vs) (n : k ≠ .rd) : ∃ o, H a = some o := by
  cases k with
  | lst => exact ⟨_, h⟩
  | tup => exact ⟨_, h⟩
  | rd => exact absurd rfl n
  | dK ks => exact ⟨_, h.1⟩
  | dT ks => exact ⟨_, h.1⟩
  | ins c fs => obtain ⟨⟨dx, h⟩, _⟩ := h; exact ⟨_, h⟩
theorem Holds.seq {G : GX} {H : Hp} {a : Addr} {vs : List V} (h : Holds G H a .rd vs) : SqL G.K H a vs := by
  rcases h with ⟨o, h⟩ | h
  · exact .inl (.inr ⟨o, h⟩)
  · exact .inr h
theorem Holds.keep {G : GX} {H H' : Hp} {a : Addr} {k : Kd} {vs : List V} (h : Holds G H a k vs) (e : ∀ o, H a = some o → H' a = some o) : Holds G H' a k vs := by
  cases k with
  | lst => exact e _ h
  | tup => exact e _ h
  | rd =>
    rcases h with ⟨o, h⟩ | h
    · exact .inl ⟨o, e _ h⟩
    · exact .inr h
  | dK ks => exact ⟨e _ h.1, h.2⟩
  | dT ks => exact ⟨e _ h.1, h.2⟩
  | ins c fs => obtain ⟨⟨dx, h⟩, z⟩ := h; exact ⟨⟨dx, e _ h⟩, z⟩

mutual
def Rep (G : GX) (ow : Ow) (H : Hp) : D → Loc → V → Prop
  | .any, _, _ => True
  | .non, _, v => v = .non
  | .bl b, _, v => v = .bl b
  | .int i, _, v => v = .int i
  | .str s, _, v => v = .str s
  | .exc c, _, v => ∃ a, v = .ref a ∧ H a = some (ExT (.ref (G c)) a)
  | .ty n, _, v => v = .ty n
  | .cls c, _, v => v = .ref (G c)
  | .node k o xs, l, v => ∃ a vs, v = .ref a ∧ Holds G H a k vs ∧ OwnAt k o l (ow a) ∧ Reps G ow H xs l 0 vs
def Reps (G : GX) (ow : Ow) (H : Hp) : List D → Loc → Nat → List V → Prop
  | [], _, _, vs => vs = []
  | d :: ds, l, i, vs => ∃ v ws, vs = v :: ws ∧ Rep G ow H d (l.sub i) v ∧ Reps G ow H ds l (i + 1) ws
end

mutual
def frz : D → D
  | .any => .any
  | .non => .non
  | .bl b => .bl b
  | .int i => .int i
  | .str s => .str s
  | .exc c => .exc c
  | .ty n => .ty n
  | .cls c => .cls c
  | .node k _ xs => .node k false (frzs xs)
def frzs : List D → List D
  | [] => []
  | d :: ds => frz d :: frzs ds
end
theorem frzs_map : ∀ xs : List D, frzs xs = xs.map frz
  | [] => by simp [frzs]
  | d :: ds => by simp [frzs, frzs_map ds]
mutual
theorem frz_frz : ∀ d : D, frz (frz d) = frz d
  | .any => rfl
  | .non => rfl
  | .bl _ => rfl
  | .int _ => rfl
  | .str _ => rfl
  | .exc _ => rfl
  | .ty _ => rfl
  | .cls _ => rfl
  | .node k o xs => by simp only [frz, frzs_frzs xs]
theorem frzs_frzs : ∀ ds : List D, frzs (frzs ds) = frzs ds
  | [] => by simp only [frzs]
  | d :: ds => by simp only [frzs, frz_frz d, frzs_frzs ds]
end
/-- only what lies beneath is frozen -/
def frzB : D → D
  | .node k o xs => .node k o (frzs xs)
  | d => d

section
variable {G : GX} {ow ow' : Ow} {H H' : Hp}
mutual
/-- the one rule of change: objects that the tree leans on stay, and who owns them is told anew -/
theorem Rep.mono : ∀ (d : D) {l l' : Loc} {v : V}, (∀ a o, H a = some o → (ow a = none ∨ ∃ q, ow a = some (l.app q)) → H' a = some o) → (∀ a o, H a = some o → ¬ OwnO (some o) → H' a = some o) → (∀ a o, H a = some o → ow a = none → ow' a = none) →
    (∀ a o q, H a = some o → ow a = some (l.app q) → ow' a = some (l'.app q)) → Rep G ow H d l v → Rep G ow' H' d l' v
  | .any, _, _, _, _, _, _, _, _ => trivial
  | .non, _, _, _, _, _, _, _, h => h
  | .bl _, _, _, _, _, _, _, _, h => h
  | .int _, _, _, _, _, _, _, _, h => h
  | .str _, _, _, _, _, _, _, _, h => h
  | .ty _, _, _, _, _, _, _, _, h => h
  | .cls _, _, _, _, _, _, _, _, h => h
  | .exc _, _, _, _, _, hE, _, _, h => by
    obtain ⟨a, e, h⟩ := h
    exact ⟨a, e, hE a _ h (fun z => z)⟩
  | .node k o xs, l, l', v, hA, hE, hB, hC, h => by
    obtain ⟨a, vs, e, h1, h2, h3⟩ := h
    rcases h2.cases with hk | h2
    · subst hk
      refine ⟨a, vs, e, ?_, trivial, Reps.mono xs hA hE hB hC h3⟩
      rcases h1 with ⟨o', h1⟩ | h1
      · exact .inl ⟨o', hE a _ h1 (fun z => z)⟩
      · exact .inr h1
    by_cases hk : k = .rd
    · subst hk
      refine ⟨a, vs, e, ?_, trivial, Reps.mono xs hA hE hB hC h3⟩
      rcases h1 with ⟨o', h1⟩ | h1
      · exact .inl ⟨o', hE a _ h1 (fun z => z)⟩
      · exact .inr h1
    obtain ⟨ob, hob⟩ := h1.there hk
    refine ⟨a, vs, e, h1.keep fun o' z => hA a o' z ?_, .mk ?_, Reps.mono xs hA hE hB hC h3⟩
    · cases o with
      | true => exact .inr ⟨[], by rw [Loc.app_nil]; simpa using h2⟩
      | false => exact .inl (by simpa using h2)
    · cases o with
      | true =>
        have z := hC a ob [] hob (by rw [Loc.app_nil]; simpa using h2)
        rw [Loc.app_nil] at z
        simpa using z
      | false => simpa using hB a ob hob (by simpa using h2)
theorem Reps.mono : ∀ (ds : List D) {l l' : Loc} {i : Nat} {vs : List V}, (∀ a o, H a = some o → (ow a = none ∨ ∃ q, ow a = some (l.app q)) → H' a = some o) → (∀ a o, H a = some o → ¬ OwnO (some o) → H' a = some o) → (∀ a o, H a = some o → ow a = none → ow' a = none) →
    (∀ a o q, H a = some o → ow a = some (l.app q) → ow' a = some (l'.app q)) → Reps G ow H ds l i vs → Reps G ow' H' ds l' i vs
  | [], _, _, _, _, _, _, _, _, h => h
  | d :: ds, l, l', i, vs, hA, hE, hB, hC, h => by
    obtain ⟨v, ws, e, h1, h2⟩ := h
    refine ⟨v, ws, e, Rep.mono d (fun a o z q => hA a o z ?_) hE hB (fun a o q z r => ?_) h1, Reps.mono ds hA hE hB hC h2⟩
    · rcases q with q | ⟨q, r⟩
      · exact .inl q
      · exact .inr ⟨i :: q, by rw [r, Loc.sub_app]⟩
    · rw [Loc.sub_app] at r ⊢
      exact hC a o (i :: q) z r
end
mutual
/-- frozen: all that it owned is nobody's -/
theorem Rep.frz : ∀ (d : D) {l l' : Loc} {v : V}, (∀ a o, H a = some o → (ow a = none ∨ ∃ q, ow a = some (l.app q)) → H' a = some o ∧ ow' a = none) → (∀ a o, H a = some o → ¬ OwnO (some o) → H' a = some o) →
    Rep G ow H d l v → Rep G ow' H' (VL.frz d) l' v
  | .any, _, _, _, _, _, _ => trivial
  | .non, _, _, _, _, _, h => h
  | .bl _, _, _, _, _, _, h => h
  | .int _, _, _, _, _, _, h => h
  | .str _, _, _, _, _, _, h => h
  | .ty _, _, _, _, _, _, h => h
  | .cls _, _, _, _, _, _, h => h
  | .exc _, _, _, _, _, hE, h => by
    obtain ⟨a, e, h⟩ := h
    exact ⟨a, e, hE a _ h (fun z => z)⟩
  | .node k o xs, l, l', v, hA, hE, h => by
    obtain ⟨a, vs, e, h1, h2, h3⟩ := h
    by_cases hk : k = .rd
    · subst hk
      refine ⟨a, vs, e, ?_, trivial, Reps.frz xs hA hE h3⟩
      rcases h1 with ⟨o', h1⟩ | h1
      · exact .inl ⟨o', hE a _ h1 (fun z => z)⟩
      · exact .inr h1
    have h2 := h2.cases.resolve_left hk
    obtain ⟨ob, hob⟩ := h1.there hk
    have own : ow a = none ∨ ∃ q, ow a = some (l.app q) := by
      cases o with
      | true => exact .inr ⟨[], by rw [Loc.app_nil]; simpa using h2⟩
      | false => exact .inl (by simpa using h2)
    show ∃ a vs, v = .ref a ∧ Holds G H' a k vs ∧ OwnAt k false l' (ow' a) ∧ Reps G ow' H' (VL.frzs xs) l' 0 vs
    exact ⟨a, vs, e, h1.keep fun o' z => (hA a o' z own).1, .mk (by simpa using (hA a ob hob own).2), Reps.frz xs hA hE h3⟩
theorem Reps.frz : ∀ (ds : List D) {l l' : Loc} {i j : Nat} {vs : List V}, (∀ a o, H a = some o → (ow a = none ∨ ∃ q, ow a = some (l.app q)) → H' a = some o ∧ ow' a = none) → (∀ a o, H a = some o → ¬ OwnO (some o) → H' a = some o) →
    Reps G ow H ds l i vs → Reps G ow' H' (VL.frzs ds) l' j vs
  | [], _, _, _, _, _, _, _, h => h
  | d :: ds, l, l', i, j, vs, hA, hE, h => by
    obtain ⟨v, ws, e, h1, h2⟩ := h
    show ∃ v ws, vs = v :: ws ∧ Rep G ow' H' (VL.frz d) (l'.sub j) v ∧ Reps G ow' H' (VL.frzs ds) l' (j + 1) ws
    refine ⟨v, ws, e, Rep.frz d (fun a o z q => hA a o z ?_) hE h1, Reps.frz ds hA hE h2⟩
    rcases q with q | ⟨q, r⟩
    · exact .inl q
    · exact .inr ⟨i :: q, by rw [r, Loc.sub_app]⟩
end
end

/-! ### places of a list of trees -/
theorem Reps.length {G : GX} {ow : Ow} {H : Hp} : ∀ {ds : List D} {l : Loc} {i : Nat} {vs : List V}, Reps G ow H ds l i vs → ds.length = vs.length
  | [], _, _, _, h => by
    have e : _ = [] := h
    subst e; rfl
  | d :: ds, l, i, vs, h => by
    obtain ⟨v, ws, e, _, h2⟩ := h
    subst e
    simp [Reps.length h2]
theorem Reps.get {G : GX} {ow : Ow} {H : Hp} : ∀ {ds : List D} {l : Loc} {i : Nat} {vs : List V}, Reps G ow H ds l i vs → ∀ (j : Nat) (d : D), ds[j]? = some d → ∃ v, vs[j]? = some v ∧ Rep G ow H d (l.sub (i + j)) v
  | [], _, _, _, _, j, d, e => by simp at e
  | d :: ds, l, i, vs, h, 0, d', e => by
    obtain ⟨v, ws, ev, h1, _⟩ := h
    subst ev
    simp at e; subst e
    exact ⟨v, rfl, h1⟩
  | d :: ds, l, i, vs, h, j + 1, d', e => by
    obtain ⟨v, ws, ev, _, h2⟩ := h
    subst ev
    obtain ⟨u, e1, e2⟩ := Reps.get h2 j d' (by simpa using e)
    refine ⟨u, by simpa using e1, ?_⟩
    rw [show i + (j + 1) = i + 1 + j by omega]
    exact e2
theorem Reps.of_get {G : GX} {ow : Ow} {H : Hp} : ∀ {ds : List D} {l : Loc} {i : Nat} {vs : List V}, ds.length = vs.length → (∀ (j : Nat) (d : D) (v : V), ds[j]? = some d → vs[j]? = some v → Rep G ow H d (l.sub (i + j)) v) → Reps G ow H ds l i vs
  | [], _, _, vs, hl, _ => by
    have : vs = [] := by simpa using hl.symm
    exact this
  | d :: ds, l, i, [], hl, _ => by simp at hl
  | d :: ds, l, i, v :: vs, hl, h => by
    refine ⟨v, vs, rfl, h 0 d v rfl rfl, Reps.of_get (by simpa using hl) fun j d' v' e1 e2 => ?_⟩
    have z := h (j + 1) d' v' (by simpa using e1) (by simpa using e2)
    rw [show i + 1 + j = i + (j + 1) by omega]
    exact z
end VL

namespace VL
open PySem PySem.Spec PyProof.Rows L2

/-- the frame of a def: the heap at its entry, the cells that it may change though they stood there, the slots that keep their value -/
structure Fc where
  H0 : Hp
  io : Addr → Prop
  fo : Addr → Prop
  pin : List (Nat × V)
abbrev Rho := List (Option D)
structure StW (G : GX) (C : Fc) (ow : Ow) (r : Rho) (T : List (D × V)) (s : L2.St) (H : Hp) : Prop where
  len : r.length = s.length
  sl : ∀ (i : Nat) (d : D), r[i]? = some (some d) → ∃ v, s[i]? = some (some v) ∧ Rep G ow H d ⟨.sl i, []⟩ v
  tm : ∀ (j : Nat) (d : D) (v : V), T[j]? = some (d, v) → Rep G ow H d ⟨.tm j, []⟩ v
  old : ∀ a o, ¬ C.io a → C.H0 a = some o → H a = some o
  own : ∀ a l, ow a = some l → l.b = .fo ∨ C.H0 a = none ∨ C.io a
  fo : ∀ a, C.fo a → ow a = some ⟨.fo, []⟩
  mu : ∀ a l, ow a = some l → OwnO (H a)
  pin : ∀ p ∈ C.pin, s[p.1]? = some (some p.2)
theorem OwnO.mut {o : Option HO} (h : OwnO o) : Mut o := by
  cases o with
  | none => exact h
  | some u => cases u <;> first | exact trivial | exact h.elim
def StOk (G : GX) (C : Fc) (r : Rho) (T : List (D × V)) (s : L2.St) (H : Hp) : Prop := ∃ ow, StW G C ow r T s H
def Ext (H H' : Hp) : Prop := ∀ a o, H a = some o → H' a = some o
theorem Ext.refl {H : Hp} : Ext H H := fun _ _ h => h
theorem Ext.trans {H H' H'' : Hp} (h : Ext H H') (h' : Ext H' H'') : Ext H H'' := fun a o e => h' a o (h a o e)
theorem Ext.new {H : Hp} {p : Addr} {o : HO} (h : H p = none) : Ext H (upd H p o) := fun a u e => by
  rw [upd_ne (ne_of_none e h)]; exact e

/-- a thing without parts -/
def atom : D → Bool
  | .node _ _ _ => false
  | _ => true
theorem frz_atom {d : D} (h : atom d = true) : frz d = d := by
  cases d with
  | node k o xs => cases h
  | _ => rfl

section
variable {G : GX} {C : Fc} {ow ow' : Ow} {r : Rho} {T T1 T2 : List (D × V)} {s : L2.St} {H H' : Hp}
/-- a tree without own parts stands at any place, for whoever -/
theorem Rep.move {d : D} {l l' : Loc} {v : V} (e : VL.frz d = d) (hA : ∀ a o, H a = some o → (ow a = none ∨ ∃ q, ow a = some (l.app q)) → H' a = some o ∧ ow' a = none) (hE : ∀ a o, H a = some o → ¬ OwnO (some o) → H' a = some o) (h : Rep G ow H d l v) : Rep G ow' H' d l' v := by
  have z := Rep.frz (l' := l') d hA hE h
  rw [e] at z
  exact z
mutual
/-- .. the tree frozen: only unowned cells count -/
theorem Rep.moveF : ∀ (d : D) {l l' : Loc} {v : V}, VL.frz d = d → (∀ a o, H a = some o → ow a = none → H' a = some o ∧ ow' a = none) → (∀ a o, H a = some o → ¬ OwnO (some o) → H' a = some o) → Rep G ow H d l v → Rep G ow' H' d l' v
  | .any, _, _, _, _, _, _, _ => trivial
  | .non, _, _, _, _, _, _, h => h
  | .bl _, _, _, _, _, _, _, h => h
  | .int _, _, _, _, _, _, _, h => h
  | .str _, _, _, _, _, _, _, h => h
  | .ty _, _, _, _, _, _, _, h => h
  | .cls _, _, _, _, _, _, _, h => h
  | .exc _, _, _, _, _, _, hE, h => by
    obtain ⟨a, e, h⟩ := h
    exact ⟨a, e, hE a _ h (fun z => z)⟩
  | .node k o xs, l, l', v, e, hA, hE, h => by
    have e' : D.node k false (VL.frzs xs) = .node k o xs := e
    injection e' with _ e1 e2
    subst e1
    obtain ⟨a, vs, ev, h1, h2, h3⟩ := h
    by_cases hk : k = .rd
    · subst hk
      refine ⟨a, vs, ev, ?_, trivial, Reps.moveF xs e2 hA hE h3⟩
      rcases h1 with ⟨o', h1⟩ | h1
      · exact .inl ⟨o', hE a _ h1 (fun z => z)⟩
      · exact .inr h1
    have h2 := h2.cases.resolve_left hk
    obtain ⟨ob, hob⟩ := h1.there hk
    have n : ow a = none := by simpa using h2
    exact ⟨a, vs, ev, h1.keep fun o' z => (hA a o' z n).1, .mk (by simpa using (hA a ob hob n).2), Reps.moveF xs e2 hA hE h3⟩
theorem Reps.moveF : ∀ (ds : List D) {l l' : Loc} {i j : Nat} {vs : List V}, VL.frzs ds = ds → (∀ a o, H a = some o → ow a = none → H' a = some o ∧ ow' a = none) → (∀ a o, H a = some o → ¬ OwnO (some o) → H' a = some o) → Reps G ow H ds l i vs → Reps G ow' H' ds l' j vs
  | [], _, _, _, _, _, _, _, _, h => h
  | d :: ds, l, l', i, j, vs, e, hA, hE, h => by
    have e' : VL.frz d :: VL.frzs ds = d :: ds := e
    injection e' with e1 e2
    obtain ⟨v, ws, ev, h1, h2⟩ := h
    exact ⟨v, ws, ev, Rep.moveF d e1 hA hE h1, Reps.moveF ds e2 hA hE h2⟩
end

theorem StW.ext (S : StW G C ow r T s H) (e : Ext H H') : StW G C ow r T s H' where
  len := S.len
  sl := fun i d q => by
    obtain ⟨v, h1, h2⟩ := S.sl i d q
    exact ⟨v, h1, h2.mono d (fun a o z _ => e a o z) (fun a o z _ => e a o z) (fun _ _ _ z => z) fun _ _ _ _ z => z⟩
  tm := fun j d v q => (S.tm j d v q).mono d (fun a o z _ => e a o z) (fun a o z _ => e a o z) (fun _ _ _ z => z) fun _ _ _ _ z => z
  old := fun a o n q => e a o (S.old a o n q)
  own := S.own
  fo := S.fo
  mu := fun a l q => by
    have m := S.mu a l q
    cases z : H a with
    | none => rw [z] at m; exact m.elim
    | some o => rw [z] at m; rw [e a o z]; exact m
  pin := S.pin
theorem StOk.ext (S : StOk G C r T s H) (e : Ext H H') : StOk G C r T s H' := let ⟨ow, W⟩ := S; ⟨ow, W.ext e⟩
/-- fewer temporaries -/
theorem StW.drop (S : StW G C ow r (T ++ T2) s H) : StW G C ow r T s H :=
  ⟨S.len, S.sl, fun j d v q => S.tm j d v (by
    have hj : j < T.length := (List.getElem?_eq_some_iff.mp q).1
    rw [List.getElem?_append_left hj]; exact q), S.old, S.own, S.fo, S.mu, S.pin⟩
theorem StOk.drop (S : StOk G C r (T ++ T2) s H) : StOk G C r T s H := let ⟨ow, W⟩ := S; ⟨ow, W.drop⟩
/-- the last temporary -/
theorem StW.last {d : D} {v : V} (S : StW G C ow r (T ++ [(d, v)]) s H) : Rep G ow H d ⟨.tm T.length, []⟩ v := S.tm T.length d v (by simp)
/-- one more that owns nothing -/
theorem StW.push {d : D} {v : V} (S : StW G C ow r T s H) (h : Rep G ow H d ⟨.tm T.length, []⟩ v) : StW G C ow r (T ++ [(d, v)]) s H :=
  ⟨S.len, S.sl, fun j d' v' q => by
    by_cases hj : j < T.length
    · rw [List.getElem?_append_left hj] at q
      exact S.tm j d' v' q
    · rw [List.getElem?_append_right (by omega)] at q
      have e : j = T.length := by
        have := (List.getElem?_eq_some_iff.mp q).1
        simp at this; omega
      subst e
      simp at q
      obtain ⟨e1, e2⟩ := q
      subst e1; subst e2
      exact h, S.old, S.own, S.fo, S.mu, S.pin⟩
theorem Rep.of_atom {d : D} {l l' : Loc} {v : V} (a : atom d = true) (h : Rep G ow H d l v) : Rep G ow' H d l' v := by
  cases d with
  | node k o xs => cases a
  | _ => exact h
theorem StOk.pushA {d : D} {v : V} (S : StOk G C r T s H) (a : atom d = true) (h : ∀ ow l, Rep G ow H d l v) : StOk G C r (T ++ [(d, v)]) s H := let ⟨ow, W⟩ := S; ⟨ow, W.push (h _ _)⟩
theorem StOk.pushI (i : Int) (S : StOk G C r T s H) : StOk G C r (T ++ [(.int i, .int i)]) s H := S.pushA rfl fun _ _ => rfl
theorem StOk.pushB (b : Bool) (S : StOk G C r T s H) : StOk G C r (T ++ [(.bl b, .bl b)]) s H := S.pushA rfl fun _ _ => rfl
theorem StOk.pushN (S : StOk G C r T s H) : StOk G C r (T ++ [(.non, .non)]) s H := S.pushA rfl fun _ _ => rfl
theorem StOk.pushS (x : Str) (S : StOk G C r T s H) : StOk G C r (T ++ [(.str x, .str x)]) s H := S.pushA rfl fun _ _ => rfl

/-- freed: what base b owned is nobody's -/
def free (ow : Ow) (b : Bs) : Ow := fun a => match ow a with
  | some l => if l.b = b then none else some l
  | none => none
theorem free_none {b : Bs} {a : Addr} (h : ow a = none) : free ow b a = none := by unfold free; rw [h]
theorem free_at {b : Bs} {a : Addr} {l : Loc} (h : ow a = some l) (e : l.b = b) : free ow b a = none := by unfold free; rw [h]; simp [e]
theorem free_else {b : Bs} {a : Addr} {l : Loc} (h : ow a = some l) (e : l.b ≠ b) : free ow b a = some l := by unfold free; rw [h]; simp [e]
theorem of_free {b : Bs} {a : Addr} {l : Loc} (h : free ow b a = some l) : ow a = some l ∧ l.b ≠ b := by
  unfold free at h
  split at h
  · rename_i l' e
    split at h
    · cases h
    · rename_i n
      cases h
      exact ⟨e, n⟩
  · cases h
theorem app_b (l : Loc) (q : List Nat) : (l.app q).b = l.b := rfl
theorem Rep.free {d : D} {l : Loc} {v : V} {b : Bs} (h : Rep G ow H d l v) (n : l.b ≠ b) : Rep G (VL.free ow b) H d l v :=
  h.mono d (fun _ _ z _ => z) (fun _ _ z _ => z) (fun _ _ _ z => free_none z) fun a o q _ z => free_else z (by rw [app_b]; exact n)
theorem Rep.freeze {d : D} {l l' : Loc} {v : V} (h : Rep G ow H d l v) : Rep G (VL.free ow l.b) H (VL.frz d) l' v :=
  Rep.frz d (fun a o z q => ⟨z, by
    rcases q with q | ⟨q, e⟩
    · exact free_none q
    · exact free_at e (app_b l q)⟩) (fun _ _ z _ => z) h
/-- the slot j's tree is frozen -/
theorem StW.frzSl {j : Nat} {d : D} (S : StW G C ow r T s H) (e : r[j]? = some (some d)) : StW G C (free ow (.sl j)) (r.set j (some (frz d))) T s H where
  len := by simpa using S.len
  sl := fun i d' q => by
    by_cases hi : i = j
    · subst hi
      have hlt : i < r.length := (List.getElem?_eq_some_iff.mp e).1
      rw [List.getElem?_set_self hlt] at q
      cases q
      obtain ⟨v, h1, h2⟩ := S.sl i d e
      exact ⟨v, h1, h2.freeze⟩
    · rw [List.getElem?_set_ne (Ne.symm hi)] at q
      obtain ⟨v, h1, h2⟩ := S.sl i d' q
      exact ⟨v, h1, h2.free (fun z => hi (by injection z))⟩
  tm := fun k d' v q => (S.tm k d' v q).free (fun z => nomatch z)
  old := S.old
  own := fun a l q => S.own a l (of_free q).1
  fo := fun a q => free_else (S.fo a q) (fun z => nomatch z)
  mu := fun a l q => S.mu a l (of_free q).1
  pin := S.pin
theorem set_self {r : Rho} {j : Nat} {x : Option D} (h : r[j]? = some x) : r.set j x = r := by
  apply List.ext_getElem?
  intro i
  by_cases hi : i = j
  · subst hi
    rw [List.getElem?_set_self (List.getElem?_eq_some_iff.mp h).1, h]
  · rw [List.getElem?_set_ne (Ne.symm hi)]
/-- a frozen slot's value, once more -/
theorem StW.copy {j : Nat} {d : D} {v : V} (S : StW G C ow r T s H) (e : r[j]? = some (some d)) (f : frz d = d) (hv : s[j]? = some (some v)) : StW G C ow r (T ++ [(d, v)]) s H := by
  obtain ⟨v', h1, h2⟩ := S.sl j d e
  rw [hv] at h1
  cases h1
  exact S.push (Rep.moveF d f (fun a o z q => ⟨z, q⟩) (fun _ _ z _ => z) h2)
/-- the temporary k is frozen -/
theorem StW.frzTm {d : D} {v : V} (S : StW G C ow r (T1 ++ (d, v) :: T2) s H) : StW G C (VL.free ow (.tm T1.length)) r (T1 ++ (frz d, v) :: T2) s H where
  len := S.len
  sl := fun i d' q => by
    obtain ⟨v', h1, h2⟩ := S.sl i d' q
    exact ⟨v', h1, h2.free (fun z => nomatch z)⟩
  tm := fun k d' v' q => by
    by_cases hk : k = T1.length
    · subst hk
      have z : (T1 ++ (frz d, v) :: T2)[T1.length]? = some (frz d, v) := by simp
      rw [z] at q
      cases q
      exact Rep.freeze (l := ⟨.tm T1.length, []⟩) (S.tm T1.length d v (by simp))
    · refine (S.tm k d' v' ?_).free (fun z => hk (by injection z))
      by_cases hlt : k < T1.length
      · rw [List.getElem?_append_left hlt] at q ⊢; exact q
      · rw [List.getElem?_append_right (by omega)] at q ⊢
        obtain ⟨m, hm⟩ : ∃ m, k - T1.length = m + 1 := ⟨k - T1.length - 1, by omega⟩
        rw [hm] at q ⊢
        simpa using q
  old := S.old
  own := fun a l q => S.own a l (of_free q).1
  fo := fun a q => free_else (S.fo a q) (fun z => nomatch z)
  mu := fun a l q => S.mu a l (of_free q).1
  pin := S.pin

/-- the base b becomes the place l; what lay at the base l.b (if another) is dropped -/
def moved (ow : Ow) (b : Bs) (l : Loc) : Ow := fun a => match ow a with
  | some m => if m.b = b then some (l.app m.p) else some m
  | none => none
theorem moved_none {b : Bs} {l : Loc} {a : Addr} (h : ow a = none) : moved ow b l a = none := by unfold moved; rw [h]
theorem moved_at {b : Bs} {l m : Loc} {a : Addr} (h : ow a = some m) (e : m.b = b) : moved ow b l a = some (l.app m.p) := by unfold moved; rw [h]; simp [e]
theorem moved_else {b : Bs} {l m : Loc} {a : Addr} (h : ow a = some m) (e : m.b ≠ b) : moved ow b l a = some m := by unfold moved; rw [h]; simp [e]
theorem moved_some {b : Bs} {l m : Loc} {a : Addr} (h : moved ow b l a = some m) : ∃ m', ow a = some m' ∧ (m.b = l.b ∨ m.b = m'.b) := by
  unfold moved at h
  split at h
  · rename_i m' e
    refine ⟨m', e, ?_⟩
    split at h
    · cases h; exact .inl rfl
    · cases h; exact .inr rfl
  · cases h
theorem Rep.moved {d : D} {b : Bs} {l : Loc} {v : V} (h : Rep G ow H d ⟨b, []⟩ v) : Rep G (VL.moved ow b l) H d l v :=
  h.mono d (fun _ _ z _ => z) (fun _ _ z _ => z) (fun _ _ _ z => moved_none z) fun a o q _ z => by
    refine (moved_at z rfl).trans ?_
    simp [Loc.app]
theorem Rep.unmoved {d : D} {b : Bs} {l m : Loc} {v : V} (h : Rep G ow H d m v) (n : m.b ≠ b) : Rep G (VL.moved ow b l) H d m v :=
  h.mono d (fun _ _ z _ => z) (fun _ _ z _ => z) (fun _ _ _ z => moved_none z) fun a o q _ z => moved_else z (by rw [app_b]; exact n)
/-- a name is given the last temporary -/
theorem StW.set {i : Nat} {d : D} {v : V} (S : StW G C ow r (T ++ [(d, v)]) s H) (hp : ∀ p ∈ C.pin, p.1 ≠ i) : StW G C (VL.moved (free ow (.sl i)) (.tm T.length) ⟨.sl i, []⟩) (r.set i (some d)) T (s.set i (some v)) H where
  len := by simpa using S.len
  sl := fun j d' q => by
    by_cases hj : j = i
    · subst hj
      have hlt : j < r.length := by
        have := (List.getElem?_eq_some_iff.mp q).1
        simpa using this
      rw [List.getElem?_set_self hlt] at q
      cases q
      refine ⟨v, by rw [List.getElem?_set_self (by rw [← S.len]; exact hlt)], ?_⟩
      exact Rep.moved (Rep.free (b := .sl j) S.last (fun z => nomatch z))
    · rw [List.getElem?_set_ne (Ne.symm hj)] at q
      obtain ⟨v', h1, h2⟩ := S.sl j d' q
      refine ⟨v', by rw [List.getElem?_set_ne (Ne.symm hj)]; exact h1, ?_⟩
      exact Rep.unmoved (Rep.free (b := .sl i) h2 (fun z => hj (by injection z))) (fun z => nomatch z)
  tm := fun k d' v' q => by
    have hk : k < T.length := (List.getElem?_eq_some_iff.mp q).1
    have z := S.tm k d' v' (by rw [List.getElem?_append_left hk]; exact q)
    exact Rep.unmoved (b := .tm T.length) (Rep.free (b := .sl i) z (fun z => nomatch z)) (fun z => by injection z with z; omega)
  old := S.old
  own := fun a l q => by
    obtain ⟨m, z, e⟩ := moved_some q
    rcases S.own a m (of_free z).1 with h | h
    · unfold VL.moved at q
      rw [z] at q
      have n : m.b ≠ .tm T.length := by rw [h]; exact fun z => nomatch z
      simp only [if_neg n] at q
      cases q
      exact .inl h
    · exact .inr h
  fo := fun a q => moved_else (free_else (S.fo a q) (fun z => nomatch z)) (fun z => nomatch z)
  mu := fun a l q => by
    obtain ⟨m, z, _⟩ := moved_some q
    exact S.mu a m (of_free z).1
  pin := fun p hm => by
    rw [List.getElem?_set_ne (Ne.symm (hp p hm))]
    exact S.pin p hm
theorem StOk.set {i : Nat} {d : D} {v : V} (S : StOk G C r (T ++ [(d, v)]) s H) (hp : ∀ p ∈ C.pin, p.1 ≠ i) : StOk G C (r.set i (some d)) T (s.set i (some v)) H := let ⟨ow, W⟩ := S; ⟨_, W.set hp⟩
/-- a name is forgotten -/
theorem StOk.wipe1 {i : Nat} {x : Option V} (S : StOk G C r T s H) (hp : ∀ p ∈ C.pin, p.1 ≠ i) : StOk G C (r.set i none) T (s.set i x) H := by
  obtain ⟨ow, W⟩ := S
  refine ⟨ow, by simpa using W.len, fun j d q => ?_, W.tm, W.old, W.own, W.fo, W.mu, fun p hm => ?_⟩
  · by_cases hj : j = i
    · subst hj
      have hlt : j < r.length := by
        have := (List.getElem?_eq_some_iff.mp q).1
        simpa using this
      rw [List.getElem?_set_self hlt] at q
      cases q
    · rw [List.getElem?_set_ne (Ne.symm hj)] at q
      obtain ⟨v, h1, h2⟩ := W.sl j d q
      exact ⟨v, by rw [List.getElem?_set_ne (Ne.symm hj)]; exact h1, h2⟩
  · rw [List.getElem?_set_ne (Ne.symm (hp p hm))]
    exact W.pin p hm

/-- a new cell of the last temporaries -/
def laid (ow : Ow) (n : Nat) (a : Addr) (o : Bool) : Ow := fun b => if b = a then (if o = true then some ⟨.tm n, []⟩ else none) else match ow b with
  | some ⟨.tm j, p⟩ => if n ≤ j then some ⟨.tm n, (j - n) :: p⟩ else some ⟨.tm j, p⟩
  | x => x
theorem laid_none {n : Nat} {a b : Addr} {o : Bool} (h : ow b = none) (e : b ≠ a) : laid ow n a o b = none := by unfold laid; rw [if_neg e, h]
theorem laid_sl {n i : Nat} {a b : Addr} {o : Bool} {p : List Nat} (h : ow b = some ⟨.sl i, p⟩) (e : b ≠ a) : laid ow n a o b = some ⟨.sl i, p⟩ := by unfold laid; rw [if_neg e, h]
theorem laid_lo {n j : Nat} {a b : Addr} {o : Bool} {p : List Nat} (h : ow b = some ⟨.tm j, p⟩) (e : b ≠ a) (l : j < n) : laid ow n a o b = some ⟨.tm j, p⟩ := by
  unfold laid; rw [if_neg e, h]; exact if_neg (by omega)
theorem laid_hi {n j : Nat} {a b : Addr} {o : Bool} {p : List Nat} (h : ow b = some ⟨.tm j, p⟩) (e : b ≠ a) (l : n ≤ j) : laid ow n a o b = some ⟨.tm n, (j - n) :: p⟩ := by
  unfold laid; rw [if_neg e, h]; exact if_pos l
theorem StW.alloc {k : Kd} {o : Bool} {ho : HO} {ds : List D} {vs : List V} {a : Addr} (S : StW G C ow r (T ++ ds.zip vs) s H) (hl : ds.length = vs.length) (hn : H a = none) (hh : Holds G (upd H a ho) a k vs) (hm : o = true → OwnO (some ho)) :
    StW G C (laid ow T.length a o) r (T ++ [(.node k o ds, .ref a)]) s (upd H a ho) where
  len := S.len
  sl := fun i d q => by
    obtain ⟨v, h1, h2⟩ := S.sl i d q
    refine ⟨v, h1, Rep.mono (l := ⟨.sl i, []⟩) d (fun b o z _ => Ext.new hn b o z) (fun b o z _ => Ext.new hn b o z) (fun b o z e => laid_none e (ne_of_none z hn)) (fun b o q z e => laid_sl (p := [] ++ q) e (ne_of_none z hn)) h2⟩
  tm := fun j d v q => by
    by_cases hj : j < T.length
    · rw [List.getElem?_append_left hj] at q
      have z := S.tm j d v (by rw [List.getElem?_append_left hj]; exact q)
      exact Rep.mono (l := ⟨.tm j, []⟩) d (fun b o z _ => Ext.new hn b o z) (fun b o z _ => Ext.new hn b o z) (fun b o z e => laid_none e (ne_of_none z hn)) (fun b o q z e => laid_lo (p := [] ++ q) e (ne_of_none z hn) hj) z
    · rw [List.getElem?_append_right (by omega)] at q
      have e : j = T.length := by
        have := (List.getElem?_eq_some_iff.mp q).1
        simp at this; omega
      subst e
      simp at q
      obtain ⟨e1, e2⟩ := q
      subst e1; subst e2
      refine ⟨a, vs, rfl, hh, .mk ?_, Reps.of_get hl fun i d v e1 e2 => ?_⟩
      · unfold laid; rw [if_pos rfl]
      · have z := S.tm (T.length + i) d v (by
          rw [List.getElem?_append_right (by omega), Nat.add_sub_cancel_left]
          exact List.getElem?_zip_eq_some.mpr ⟨e1, e2⟩)
        refine Rep.mono (l := ⟨.tm (T.length + i), []⟩) d (fun b o z _ => Ext.new hn b o z) (fun b o z _ => Ext.new hn b o z) (fun b o z e => laid_none e (ne_of_none z hn)) (fun b o q z e => ?_) z
        rw [laid_hi (p := q) (by simpa [Loc.app] using e) (ne_of_none z hn) (by omega)]
        simp [Loc.app, Loc.sub]
  old := fun b u n q => Ext.new hn b u (S.old b u n q)
  own := fun b l q => by
    by_cases hb : b = a
    · subst hb
      cases e : C.H0 b with
      | none => exact .inr (.inl rfl)
      | some u =>
        by_cases hi : C.io b
        · exact .inr (.inr hi)
        · rw [S.old b u hi e] at hn; cases hn
    · cases e : ow b with
      | none => rw [laid_none e hb] at q; cases q
      | some m =>
        obtain ⟨mb, mp⟩ := m
        cases mb with
        | fo =>
          unfold laid at q
          rw [if_neg hb, e] at q
          cases q
          exact .inl rfl
        | sl i => exact (S.own b _ e).elim (fun z => nomatch z) .inr
        | tm i => exact (S.own b _ e).elim (fun z => nomatch z) .inr
  fo := fun b q => by
    have z := S.fo b q
    have hb : b ≠ a := fun x => by
      have m := S.mu b _ z
      rw [x, hn] at m
      exact m
    unfold laid
    rw [if_neg hb, z]
  mu := fun b l q => by
    by_cases hb : b = a
    · subst hb
      rw [upd_same]
      apply hm
      unfold laid at q
      rw [if_pos rfl] at q
      cases o with
      | true => rfl
      | false => cases q
    · rw [upd_ne hb]
      cases e : ow b with
      | none => rw [laid_none e hb] at q; cases q
      | some m => exact S.mu b m e
  pin := S.pin
theorem StOk.alloc {k : Kd} {ho : HO} {ds : List D} {vs : List V} {a : Addr} (o : Bool) (S : StOk G C r (T ++ ds.zip vs) s H) (hl : ds.length = vs.length) (hn : H a = none) (hh : Holds G (upd H a ho) a k vs) (hm : o = true → OwnO (some ho)) :
    StOk G C r (T ++ [(.node k o ds, .ref a)]) s (upd H a ho) := let ⟨ow, W⟩ := S; ⟨_, W.alloc hl hn hh hm⟩
theorem holds_lst {a : Addr} {vs : List V} : Holds G (upd H a (.lst vs)) a .lst vs := upd_same
theorem holds_tup {a : Addr} {vs : List V} : Holds G (upd H a (.tup vs)) a .tup vs := upd_same
end
end VL

namespace VL
open PySem PySem.Spec PyProof.Rows L2

/-- what an expression tells: a value of its own, or the very thing of a name -/
inductive R where
  | val (d : D) | loc (i : Nat)
inductive EO where
  | ok (x : R) (r : Rho) | exc (c : Nat) (r : Rho) | bad
abbrev Ev := Rho → EO
def opd (r : Rho) : R → Option D
  | .val d => some d
  | .loc i => match r[i]? with
    | some (some d) => some d
    | _ => none
def frzO : Option D → Option D
  | some d => some (frzB d)
  | none => none
/-- the parts of a thing have been handed on -/
def touch (r : Rho) : R → Rho
  | .val _ => r
  | .loc i => match r[i]? with
    | some (some d) => r.set i (some (frzB d))
    | _ => r
/-- a name's thing has been handed on -/
def settle (r : Rho) : R → Rho
  | .val _ => r
  | .loc i => match r[i]? with
    | some (some d) => r.set i (some (frz d))
    | _ => r
def pushR : R → V → List (D × V)
  | .val d, v => [(d, v)]
  | .loc _, _ => []
def LocOk (s : L2.St) (v : V) : R → Prop
  | .val _ => True
  | .loc i => s[i]? = some (some v)
def Post (G : GX) (C : Fc) (r : Rho) (T : List (D × V)) (s : L2.St) (H : Hp) (x : R) (v : V) : Prop := StOk G C r (T ++ pushR x v) s H ∧ LocOk s v x
abbrev TmB := List (D × V)
def tV (G : GX) (C : Fc) (W : WX) (f : Ev) : TE := fun s H Q => ∃ r T, StOk G C r T s H ∧ match f r with
  | .ok x r' => ∀ v H', Post G C r' T s H' x v → Q v H'
  | .exc c r' => ∀ H', StOk G C r' T s H' → W (.ref (G c)) none s H'
  | .bad => False
abbrev VE (X : Cx) (G : GX) (C : Fc) (W : WX) (e : Expr) (f : Ev) : Prop := PE X e (tV G C W f)
theorem PE.imp {X : Cx} {e : Expr} {t t' : TE} (h : PE X e t) (i : ∀ s H Q, t' s H Q → t s H Q) : PE X e t' := ⟨fun pins s σ H Q I w => h.run pins s σ H Q I (i _ _ _ w)⟩

section
variable {G : GX} {C : Fc} {ow ow' : Ow} {r : Rho} {T T1 T2 : List (D × V)} {s : L2.St} {H H' : Hp}
theorem Post.any {x : R} {v : V} (P : Post G C r T s H x v) : StOk G C r T s H := P.1.drop
theorem opd_loc {i : Nat} {d : D} (e : opd r (.loc i) = some d) : r[i]? = some (some d) := by
  have e' : (match r[i]? with | some (some d) => some d | _ => none) = some d := e
  cases q : r[i]? with
  | none => rw [q] at e'; cases e'
  | some x =>
    cases x with
    | none => rw [q] at e'; cases e'
    | some d' => rw [q] at e'; cases e'; rfl
theorem touch_loc {i : Nat} {d : D} (q : r[i]? = some (some d)) : touch r (.loc i) = r.set i (some (frzB d)) := by
  show (match r[i]? with | some (some d) => r.set i (some (frzB d)) | _ => r) = _
  rw [q]
theorem settle_loc {i : Nat} {d : D} (q : r[i]? = some (some d)) : settle r (.loc i) = r.set i (some (frz d)) := by
  show (match r[i]? with | some (some d) => r.set i (some (frz d)) | _ => r) = _
  rw [q]
/-- where an operand's tree stands -/
def base (n : Nat) : R → Loc
  | .val _ => ⟨.tm n, []⟩
  | .loc i => ⟨.sl i, []⟩
theorem opd_rep {x : R} {v : V} {d : D} (S : StW G C ow r (T ++ (pushR x v ++ T2)) s H) (h : LocOk s v x) (e : opd r x = some d) : Rep G ow H d (base T.length x) v := by
  cases x with
  | val d' =>
    cases e
    exact S.tm T.length d v (by simp [pushR])
  | loc i =>
    obtain ⟨v', h1, h2⟩ := S.sl i d (opd_loc e)
    have h' : s[i]? = some (some v) := h
    rw [h'] at h1
    cases h1
    exact h2

/-! ### frozen beneath -/
def freeU (ow : Ow) (b : Bs) : Ow := fun a => match ow a with
  | some l => if l.b = b ∧ l.p ≠ [] then none else some l
  | none => none
theorem freeU_none {b : Bs} {a : Addr} (h : ow a = none) : freeU ow b a = none := by unfold freeU; rw [h]
theorem freeU_at {b : Bs} {a : Addr} {l : Loc} (h : ow a = some l) (e : l.b = b) (p : l.p ≠ []) : freeU ow b a = none := by unfold freeU; rw [h]; simp [e, p]
theorem freeU_top {b : Bs} {a : Addr} (h : ow a = some ⟨b, []⟩) : freeU ow b a = some ⟨b, []⟩ := by unfold freeU; rw [h]; simp
theorem freeU_else {b : Bs} {a : Addr} {l : Loc} (h : ow a = some l) (e : l.b ≠ b) : freeU ow b a = some l := by unfold freeU; rw [h]; simp [e]
theorem of_freeU {b : Bs} {a : Addr} {l : Loc} (h : freeU ow b a = some l) : ow a = some l := by
  unfold freeU at h
  split at h
  · rename_i l' e
    split at h
    · cases h
    · cases h
      exact e
  · cases h
theorem Rep.freeU {d : D} {l : Loc} {v : V} {b : Bs} (h : Rep G ow H d l v) (n : l.b ≠ b) : Rep G (VL.freeU ow b) H d l v :=
  h.mono d (fun _ _ z _ => z) (fun _ _ z _ => z) (fun _ _ _ z => freeU_none z) fun a o q _ z => freeU_else z (by rw [app_b]; exact n)
theorem Reps.freeU {ds : List D} {l : Loc} {i : Nat} {vs : List V} {b : Bs} (h : Reps G ow H ds l i vs) (n : l.b ≠ b) : Reps G (VL.freeU ow b) H ds l i vs :=
  h.mono ds (fun _ _ z _ => z) (fun _ _ z _ => z) (fun _ _ _ z => freeU_none z) fun a o q _ z => freeU_else z (by rw [app_b]; exact n)
/-- the children of a tree at a base, frozen: at any place -/
theorem Reps.under {xs : List D} {b : Bs} {i j : Nat} {l' : Loc} {vs : List V} (h : Reps G ow H xs ⟨b, []⟩ i vs) : Reps G (VL.freeU ow b) H (VL.frzs xs) l' j vs := by
  have go : ∀ (xs : List D) (i j : Nat) (vs : List V), Reps G ow H xs ⟨b, []⟩ i vs → Reps G (VL.freeU ow b) H (VL.frzs xs) l' j vs := by
    intro xs
    induction xs with
    | nil => intro i j vs h; exact h
    | cons d ds ih =>
      intro i j vs h
      obtain ⟨v, ws, e, h1, h2⟩ := h
      refine ⟨v, ws, e, ?_, ih (i + 1) (j + 1) ws h2⟩
      refine Rep.frz (l := Loc.sub ⟨b, []⟩ i) d (fun a o z q => ⟨z, ?_⟩) (fun _ _ z _ => z) h1
      rcases q with q | ⟨q, e⟩
      · exact freeU_none q
      · exact freeU_at e rfl (by simp [Loc.sub, Loc.app])
  exact go xs i j vs h
theorem frzB_node {k : Kd} {o : Bool} {xs : List D} : frzB (.node k o xs) = .node k o (frzs xs) := rfl
theorem StW.under {i : Nat} {k : Kd} {o : Bool} {xs : List D} (S : StW G C ow r T s H) (e : r[i]? = some (some (.node k o xs))) : StW G C (VL.freeU ow (.sl i)) (r.set i (some (.node k o (frzs xs)))) T s H where
  len := by simpa using S.len
  sl := fun j d' q => by
    by_cases hi : j = i
    · subst hi
      have hlt : j < r.length := (List.getElem?_eq_some_iff.mp e).1
      rw [List.getElem?_set_self hlt] at q
      cases q
      obtain ⟨v, h1, a, vs, ev, h2, h3, h4⟩ := S.sl j _ e
      refine ⟨v, h1, a, vs, ev, h2, ?_, h4.under⟩
      rcases h3.cases with hk | h3
      · subst hk; trivial
      refine .mk ?_
      cases o with
      | true => exact freeU_top (by simpa using h3)
      | false => exact freeU_none (by simpa using h3)
    · rw [List.getElem?_set_ne (Ne.symm hi)] at q
      obtain ⟨v, h1, h2⟩ := S.sl j d' q
      exact ⟨v, h1, h2.freeU (fun z => hi (by injection z))⟩
  tm := fun k d' v q => (S.tm k d' v q).freeU (fun z => nomatch z)
  old := S.old
  own := fun a l q => S.own a l (of_freeU q)
  fo := fun a q => freeU_else (S.fo a q) (fun z => nomatch z)
  mu := fun a l q => S.mu a l (of_freeU q)
  pin := S.pin
/-- frozen trees beside the state: pushed one by one -/
theorem StW.pushFs : ∀ {ds : List D} {T : List (D × V)} {l : Loc} {i : Nat} {vs : List V}, StW G C ow r T s H → frzs ds = ds → Reps G ow H ds l i vs → StW G C ow r (T ++ ds.zip vs) s H
  | [], T, _, _, _, S, _, _ => by simpa using S
  | d :: ds, T, l, i, vs, S, e, h => by
    obtain ⟨v, ws, ev, h1, h2⟩ := h
    have e' : frz d :: frzs ds = d :: ds := e
    injection e' with e1 e2
    subst ev
    have S1 := S.push (d := d) (v := v) (Rep.moveF d e1 (fun a o z q => ⟨z, q⟩) (fun _ _ z _ => z) h1)
    have S2 := StW.pushFs S1 e2 h2
    simpa using S2
theorem Reps.app {ds es : List D} {l : Loc} {vs ws : List V} (e1 : VL.frzs ds = ds) (e2 : VL.frzs es = es) (h1 : Reps G ow H ds l 0 vs) (h2 : Reps G ow H es l 0 ws) : Reps G ow H (ds ++ es) l 0 (vs ++ ws) := by
  refine Reps.of_get (by rw [List.length_append, List.length_append, h1.length, h2.length]) fun j d v q1 q2 => ?_
  by_cases hj : j < ds.length
  · rw [List.getElem?_append_left hj] at q1
    rw [List.getElem?_append_left (by rw [← h1.length]; exact hj)] at q2
    obtain ⟨v', z1, z2⟩ := h1.get j d q1
    rw [q2] at z1; cases z1
    exact z2
  · rw [List.getElem?_append_right (by omega)] at q1
    rw [List.getElem?_append_right (by rw [← h1.length]; omega)] at q2
    rw [← h1.length] at q2
    obtain ⟨v', z1, z2⟩ := h2.get (j - ds.length) d q1
    rw [q2] at z1; cases z1
    have f : VL.frz d = d := by
      have := congrArg (·[j - ds.length]?) e2
      simp only [frzs_map, List.getElem?_map, q1, Option.map_some] at this
      exact Option.some.inj this
    exact Rep.moveF d f (fun a o z q => ⟨z, q⟩) (fun _ _ z _ => z) z2
/-- an operand's parts, frozen; the operand itself is dropped where it is a temporary -/
theorem StW.parts {x : R} {v : V} {k : Kd} {o : Bool} {xs : List D} (S : StW G C ow r (T ++ pushR x v) s H) (hl : LocOk s v x) (e : opd r x = some (.node k o xs)) :
    ∃ ow' a vs, StW G C ow' (touch r x) T s H ∧ v = .ref a ∧ Holds G H a k vs ∧ (∀ l, Reps G ow' H (frzs xs) l 0 vs) ∧ (∀ b, ow b = none → ow' b = none) := by
  cases x with
  | val d' =>
    cases e
    obtain ⟨a, vs, ev, h1, h2, h3⟩ := S.last
    have S' := (show StW G C ow r (T ++ (D.node k o xs, v) :: []) s H from S).frzTm
    refine ⟨_, a, vs, S'.drop, ev, h1, fun l => ?_, fun b z => free_none z⟩
    exact Reps.frz (l := ⟨.tm T.length, []⟩) xs (fun b u z q => ⟨z, by
      rcases q with q | ⟨q, e⟩
      · exact free_none q
      · exact free_at e rfl⟩) (fun _ _ z _ => z) h3
  | loc i =>
    have q := opd_loc e
    obtain ⟨v', h1, a, vs, ev, h2, h3, h4⟩ := S.sl i _ q
    have h' : s[i]? = some (some v) := hl
    rw [h'] at h1
    cases h1
    have S' := S.under q
    refine ⟨_, a, vs, ?_, ev, h2, fun l => h4.under, fun b z => freeU_none z⟩
    rw [touch_loc q]
    exact S'.drop
end
end VL

namespace VL
open PySem PySem.Spec PyProof.Rows L2

def EO.bd (x : EO) (k : R → Rho → EO) : EO := match x with
  | .ok y r => k y r
  | .exc c r => .exc c r
  | .bad => .bad
@[simp] theorem bd_ok (y : R) (r : Rho) (k : R → Rho → EO) : (EO.ok y r).bd k = k y r := rfl
@[simp] theorem bd_exc (c : Nat) (r : Rho) (k : R → Rho → EO) : (EO.exc c r).bd k = .exc c r := rfl
@[simp] theorem bd_bad (k : R → Rho → EO) : EO.bad.bd k = .bad := rfl
/-- what is wanted of a meaning -/
def Goes (G : GX) (C : Fc) (W : WX) (T : List (D × V)) (s : L2.St) (Q : VK) (o : EO) : Prop := match o with
  | .ok x r' => ∀ v H', Post G C r' T s H' x v → Q v H'
  | .exc c r' => ∀ H', StOk G C r' T s H' → W (.ref (G c)) none s H'
  | .bad => False
section
variable {X : Cx} {G : GX} {C : Fc} {W : WX} {ow ow' : Ow} {r : Rho} {T T1 T2 : List (D × V)} {s : L2.St} {H H' : Hp} {fa fb fc : Ev}
theorem tV_def {f : Ev} {Q : VK} : tV G C W f s H Q = ∃ r T, StOk G C r T s H ∧ Goes G C W T s Q (f r) := rfl
theorem Goes.more {Q : VK} {o : EO} (h : Goes G C W T s Q o) : Goes G C W (T ++ T2) s (fun v H' => ∀ x r', o = .ok x r' → Post G C r' T s H' x v → Q v H') o := by
  cases o with
  | ok x r' => exact fun v H' _ y r'' e P => h v H' (by cases e; exact P)
  | exc c r' => exact fun H' S => h H' S.drop
  | bad => exact h
/-- one operand -/
theorem one {k : R → Rho → EO} {Q : VK} {K : V → Hp → Prop} (S : StOk G C r T s H) (h : Goes G C W T s Q ((fa r).bd k))
    (hk : ∀ x v r1 H1, Post G C r1 T s H1 x v → Goes G C W T s Q (k x r1) → K v H1) : tV G C W fa s H K := by
  refine ⟨r, T, S, ?_⟩
  cases e : fa r with
  | ok x r1 =>
    rw [e] at h
    exact fun v H1 P => hk x v r1 H1 P h
  | exc c r1 => rw [e] at h; exact h
  | bad => rw [e] at h; exact h
/-- two, one behind the other -/
theorem two {k : R → R → Rho → EO} {Q : VK} {K : V → V → Hp → Prop} (S : StOk G C r T s H) (h : Goes G C W T s Q ((fa r).bd fun x r1 => (fb r1).bd (k x)))
    (hk : ∀ x y v u r2 H2, StOk G C r2 (T ++ (pushR x v ++ pushR y u)) s H2 → LocOk s v x → LocOk s u y → Goes G C W T s Q (k x y r2) → K v u H2) :
    tV G C W fa s H fun v H1 => tV G C W fb s H1 fun u H2 => K v u H2 := by
  refine one S h fun x v r1 H1 P h1 => ?_
  refine ⟨r1, T ++ pushR x v, P.1, ?_⟩
  cases e : fb r1 with
  | ok y r2 =>
    rw [e] at h1
    exact fun u H2 P2 => hk x y v u r2 H2 (by rw [← List.append_assoc]; exact P2.1) P.2 P2.2 h1
  | exc c r2 => rw [e] at h1; exact fun H' S' => h1 H' S'.drop
  | bad => rw [e] at h1; exact h1

/-! ### names and constants -/
def cVar (i : Nat) : Ev := fun r => match r[i]? with
  | some (some d) => if atom d = true then .ok (.val d) r else .ok (.loc i) r
  | _ => .bad
theorem ve_var {i : Nat} {x : Str} {pos : Pos} (hN : X.N[i]? = some x) (hv : Vis X.env.scope x) (hd : (x == ("__debug__" : Str)) = false := by decide) (hcd : (x == ("__classdict__" : Str)) = false := by decide) : VE X G C W (.Name x pos) (cVar i) := by
  refine PE.imp (pe_var hN hv hd hcd) fun s H Q h => ?_
  obtain ⟨r, T, S, g⟩ := h
  unfold cVar at g
  cases q : r[i]? with
  | none => rw [q] at g; exact g.elim
  | some o =>
    cases o with
    | none => rw [q] at g; exact g.elim
    | some d =>
      rw [q] at g
      obtain ⟨ow, S⟩ := S
      obtain ⟨v, h1, h2⟩ := S.sl i d q
      refine ⟨v, h1, ?_⟩
      by_cases a : atom d = true
      · simp only [a, if_true] at g
        exact g v H ⟨⟨ow, S.push (h2.of_atom a)⟩, trivial⟩
      · simp only [a, if_false] at g
        exact g v H ⟨⟨ow, by simpa [pushR] using S⟩, h1⟩
def cC (d : D) : Ev := fun r => .ok (.val d) r
theorem ve_c {e : Expr} {v : V} {d : D} (h : PE X e (tC v)) (a : atom d = true) (hr : ∀ ow H l, Rep G ow H d l v) : VE X G C W e (cC d) := by
  refine PE.imp h fun s H Q h => ?_
  obtain ⟨r, T, S, g⟩ := h
  exact g v H ⟨S.pushA a fun ow l => hr ow H l, trivial⟩
theorem ve_int {i j pos} : VE X G C W (.Constant (.int i) j pos) (cC (.int i)) := ve_c pe_int rfl fun _ _ _ => rfl
theorem ve_bl {b j pos} : VE X G C W (.Constant (.bool b) j pos) (cC (.bl b)) := ve_c pe_bl rfl fun _ _ _ => rfl
theorem ve_non {j pos} : VE X G C W (.Constant .none j pos) (cC .non) := ve_c pe_non rfl fun _ _ _ => rfl
theorem ve_str {x j pos} : VE X G C W (.Constant (.str x) j pos) (cC (.str x)) := ve_c pe_str rfl fun _ _ _ => rfl
theorem ve_gint {x : Str} {i : Int} {t : Tok} {pos : Pos} (hg : Gl X x) (hm : X.mg x = some (.int i t)) (hd : (x == ("__debug__" : Str)) = false := by decide) : VE X G C W (.Name x pos) (cC (.int i)) :=
  ve_c (pe_glob (v := .int i) hg hm ⟨t, rfl⟩ hd) rfl fun _ _ _ => rfl
theorem ve_gstr {x : Str} {i : Str} {t : Tok} {pos : Pos} (hg : Gl X x) (hm : X.mg x = some (.str i t)) (hd : (x == ("__debug__" : Str)) = false := by decide) : VE X G C W (.Name x pos) (cC (.str i)) :=
  ve_c (pe_glob (v := .str i) hg hm ⟨t, rfl⟩ hd) rfl fun _ _ _ => rfl

/-! ### operations of two operands -/
abbrev G2 := R → R → Rho → EO
/-- the operation f does what g says -/
def OpS (X : Cx) (f : Value → Value → Sem Value) (g : G2) : Prop := ∃ rr, OpR X f rr ∧ ∀ (G : GX) (C : Fc) (W : WX) (r : Rho) (T : List (D × V)) (s : L2.St) (H : Hp) (x y : R) (v u : V) (Q : VK),
  StOk G C r (T ++ (pushR x v ++ pushR y u)) s H → LocOk s v x → LocOk s u y → Goes G C W T s Q (g x y r) → rr v u H Q
def cBin (g : G2) (fa fb : Ev) : Ev := fun r => (fa r).bd fun x r1 => (fb r1).bd fun y r2 => g x y r2
theorem ve_bin {op : Operator} {g : G2} {a b : Expr} {pos : Pos} (ho : OpS X (binaryOp op) g) (ha : VE X G C W a fa) (hb : VE X G C W b fb) : VE X G C W (.BinOp a op b pos) (cBin g fa fb) := by
  obtain ⟨rr, h1, h2⟩ := ho
  refine PE.imp (pe_op h1 ha hb) fun s H Q h => ?_
  obtain ⟨r, T, S, g⟩ := h
  exact two S g fun x y v u r2 H2 S2 lx ly g2 => h2 G C W r2 T s H2 x y v u Q S2 lx ly g2
theorem ve_cmp {op : CmpOp} {g : G2} {a b : Expr} {pos : Pos} (ho : OpS X (compareOp op) g) (ha : VE X G C W a fa) (hb : VE X G C W b fb) (hm : behindInMarks op b = false) : VE X G C W (.Compare a [op] [b] pos) (cBin g fa fb) := by
  obtain ⟨rr, h1, h2⟩ := ho
  refine PE.imp (pe_cmpR h1 ha hb hm) fun s H Q h => ?_
  obtain ⟨r, T, S, g⟩ := h
  exact two S g fun x y v u r2 H2 S2 lx ly g2 => h2 G C W r2 T s H2 x y v u Q S2 lx ly g2

/-- a scalar out of two operands -/
def g2 (f : D → D → Option D) : G2 := fun x y r => match opd r x, opd r y with
  | some d, some e => (match f d e with
    | some z => if atom z = true then .ok (.val z) r else .bad
    | none => .bad)
  | _, _ => .bad
theorem OpS.scal {f : Value → Value → Sem Value} {rr : R2} {g : D → D → Option D} (h : OpR X f rr)
    (hr : ∀ (G : GX) (ow : Ow) (H : Hp) (d e z : D) (l m : Loc) (v u : V) (Q : VK), Rep G ow H d l v → Rep G ow H e m u → g d e = some z → (∀ w, (∀ ow l, Rep G ow H z l w) → Q w H) → rr v u H Q) : OpS X f (g2 g) := by
  refine ⟨rr, h, fun G C W r T s H x y v u Q S lx ly q => ?_⟩
  obtain ⟨ow, S⟩ := S
  unfold g2 at q
  cases e1 : opd r x with
  | none => rw [e1] at q; exact q.elim
  | some d =>
    cases e2 : opd r y with
    | none => rw [e1, e2] at q; exact q.elim
    | some e =>
      rw [e1, e2] at q
      cases e3 : g d e with
      | none => simp only [e3] at q; exact q.elim
      | some z =>
        simp only [e3] at q
        by_cases a : atom z = true
        · rw [if_pos a] at q
          refine hr G ow H d e z _ _ v u Q (opd_rep S lx e1) (opd_rep (T := T ++ pushR x v) (T2 := []) (by rw [List.append_nil, List.append_assoc]; exact S) ly e2) e3 fun w hw => ?_
          exact q w H ⟨StOk.pushA ⟨ow, S.drop⟩ a hw, trivial⟩
        · rw [if_neg a] at q
          exact q.elim
theorem rep_int {ow : Ow} {i : Int} {l : Loc} {v : V} (h : Rep G ow H (.int i) l v) : v = .int i := h
theorem rep_bl {ow : Ow} {b : Bool} {l : Loc} {v : V} (h : Rep G ow H (.bl b) l v) : v = .bl b := h
theorem rep_str {ow : Ow} {b : Str} {l : Loc} {v : V} (h : Rep G ow H (.str b) l v) : v = .str b := h
theorem rep_non {ow : Ow} {l : Loc} {v : V} (h : Rep G ow H .non l v) : v = .non := h
/-- ints in, ints out, where ok holds -/
def fI (ok : Int → Int → Bool) (g : Int → Int → D) : D → D → Option D
  | .int i, .int j => if ok i j = true then some (g i j) else none
  | _, _ => none
@[simp] theorem fI_int (ok : Int → Int → Bool) (g : Int → Int → D) (i j : Int) : fI ok g (.int i) (.int j) = if ok i j = true then some (g i j) else none := rfl
theorem OpS.ints {f : Value → Value → Sem Value} {P : Int → Int → Prop} {ok : Int → Int → Bool} {g : Int → Int → V} {gd : Int → Int → D} (h : OpR X f (rI P g)) (hp : ∀ i j, ok i j = true → P i j)
    (hg : ∀ G ow H l i j, Rep G ow H (gd i j) l (g i j)) : OpS X f (g2 (fI ok gd)) := by
  refine OpS.scal h fun G ow H d e z l m v u Q h1 h2 e3 q => ?_
  cases d with
  | int i =>
    cases e with
    | int j =>
      rw [fI_int] at e3
      by_cases a : ok i j = true
      · rw [if_pos a] at e3
        cases e3
        exact ⟨i, j, h1, h2, hp i j a, q _ fun _ _ => hg _ _ _ _ i j⟩
      · rw [if_neg a] at e3; cases e3
    | _ => cases e3
  | _ => cases e <;> cases e3
theorem rI_of0 {f : Value → Value → Sem Value} {g : Int → Int → V} (h : OpR X f (rI0 g)) : OpR X f (rI (fun _ _ => True) g) := by
  intro pins s σ H x y v u Q I rx ry q
  obtain ⟨i, j, e1, e2, _, q⟩ := q
  exact h pins s σ H x y v u Q I rx ry ⟨i, j, e1, e2, q⟩
def yes2 : Int → Int → Bool := fun _ _ => true
@[simp] theorem yes2_eq (i j : Int) : yes2 i j = true := rfl
def gLt : G2 := g2 (fI yes2 fun i j => .bl (decide (i < j)))
def gLe : G2 := g2 (fI yes2 fun i j => .bl (decide (i ≤ j)))
def gGt : G2 := g2 (fI yes2 fun i j => .bl (decide (j < i)))
def gGe : G2 := g2 (fI yes2 fun i j => .bl (decide (j ≤ i)))
theorem os_lt : OpS X (compareOp .Lt) gLt := .ints (rI_of0 op_lt) (fun _ _ _ => trivial) fun _ _ _ _ _ _ => rfl
theorem os_le : OpS X (compareOp .LtE) gLe := .ints (rI_of0 op_le) (fun _ _ _ => trivial) fun _ _ _ _ _ _ => rfl
theorem os_gt : OpS X (compareOp .Gt) gGt := .ints (rI_of0 op_gt) (fun _ _ _ => trivial) fun _ _ _ _ _ _ => rfl
theorem os_ge : OpS X (compareOp .GtE) gGe := .ints (rI_of0 op_ge) (fun _ _ _ => trivial) fun _ _ _ _ _ _ => rfl
def gSub : G2 := g2 (fI yes2 fun i j => .int (i - j))
theorem os_sub : OpS X (binaryOp .Sub) gSub := .ints (rI_of0 op_sub) (fun _ _ _ => trivial) fun _ _ _ _ _ _ => rfl
theorem os_isub : OpS X (inplaceOp .Sub) gSub := .ints (rI_of0 iop_sub) (fun _ _ _ => trivial) fun _ _ _ _ _ _ => rfl
def divOk (_ j : Int) : Bool := decide (0 < j) && (decide (j.natAbs < 1073741824) || decide (j.natAbs.log2 < 9000))
theorem op_fdivA : OpR X (binaryOp .FloorDiv) (rI (fun i j => CDiv i j ∨ CDivW i j) fun i j => .int (i / j)) := by
  intro pins s σ H x y v u Q I rx ry q
  obtain ⟨i, j, e1, e2, c | c, q⟩ := q
  · exact op_fdiv pins s σ H x y v u Q I rx ry ⟨i, j, e1, e2, c, q⟩
  · exact op_fdivW pins s σ H x y v u Q I rx ry ⟨i, j, e1, e2, c, q⟩
theorem divOk_of {i j : Int} (h : divOk i j = true) : CDiv i j ∨ CDivW i j := by
  unfold divOk at h
  simp only [Bool.and_eq_true, Bool.or_eq_true, decide_eq_true_eq] at h
  rcases h with ⟨h0, h | h⟩
  · exact .inl ⟨h0, by omega⟩
  · exact .inr ⟨h0, h⟩
def gDiv : G2 := g2 (fI divOk fun i j => .int (i / j))
theorem os_div : OpS X (binaryOp .FloorDiv) gDiv := .ints op_fdivA (fun _ _ h => divOk_of h) fun _ _ _ _ _ _ => rfl
def posOk (_ j : Int) : Bool := decide (0 < j)
def gMod : G2 := g2 (fI posOk fun i j => .int (i % j))
theorem os_mod : OpS X (binaryOp .Mod) gMod := .ints op_mod (fun _ _ h => of_decide_eq_true h) fun _ _ _ _ _ _ => rfl
def powOk (i j : Int) : Bool := decide (0 ≤ j) && decide (j.natAbs ≤ 1000000) && decide (i.natAbs < 2 ^ 64)
theorem powOk_of {i j : Int} (h : powOk i j = true) : CPow i j := by
  unfold powOk at h
  simp only [Bool.and_eq_true, decide_eq_true_eq] at h
  exact ⟨h.1.1, by have := h.1.2; omega, h.2⟩
def gPow : G2 := g2 (fI powOk fun i j => .int (i ^ j.toNat))
theorem os_pow : OpS X (binaryOp .Pow) gPow := .ints op_pow (fun _ _ h => powOk_of h) fun _ _ _ _ _ _ => rfl
def gShl : G2 := g2 (fI powOk fun i j => .int (i * 2 ^ j.toNat))
theorem os_shl : OpS X (binaryOp .LShift) gShl := .ints op_shl (fun _ _ h => powOk_of h) fun _ _ _ _ _ _ => rfl
def mulOk (i j : Int) : Bool := decide (i.natAbs < 2 ^ 64) || decide (j.natAbs < 2 ^ 64) || decide ((Builtin.Int.intBits i : Int) + (Builtin.Int.intBits j : Int) ≤ 134217728)
theorem mulOk_of {i j : Int} (h : mulOk i j = true) : IntMulOk i j := by
  unfold mulOk at h
  simp only [Bool.or_eq_true, decide_eq_true_eq] at h
  rcases h with (h | h) | h
  · exact CMul.ok (.inl ⟨by omega, by omega⟩)
  · exact CMul.ok (.inr ⟨by omega, by omega⟩)
  · exact CMulX.ok h
theorem op_mulA : OpR X (binaryOp .Mult) (rI IntMulOk fun i j => .int (i * j)) := opI fun _ _ _ _ _ _ _ hc q => mul_int q hc

/-! ### lists out of lists -/
/-- a new list of frozen parts -/
theorem StW.made {ds : List D} {vs : List V} {l : Loc} {i : Nat} {Q : VK} (S : StW G C ow r T s H) (e : frzs ds = ds) (h : Reps G ow H ds l i vs) (hq : ∀ v H', Post G C r T s H' (.val (.node .lst true ds)) v → Q v H') :
    ∀ p, H p = none → Q (.ref p) (upd H p (.lst vs)) := fun p hp =>
  hq _ _ ⟨StOk.alloc true ⟨ow, S.pushFs e h⟩ h.length hp holds_lst (fun _ => trivial), trivial⟩
theorem touch_opd {x y : R} {k : Kd} {o : Bool} {xs : List D} (e : opd r x = some (.node k o xs)) : opd (touch r y) x = some (.node k o xs) ∨ opd (touch r y) x = some (.node k o (frzs xs)) := by
  cases x with
  | val d => exact .inl e
  | loc i =>
    have q := opd_loc e
    cases y with
    | val d => exact .inl e
    | loc j =>
      by_cases hij : j = i
      · subst hij
        refine .inr ?_
        have hlt : j < r.length := (List.getElem?_eq_some_iff.mp q).1
        rw [touch_loc q]
        show (match (r.set j (some (frzB (.node k o xs))))[j]? with | some (some d) => some d | _ => none) = _
        rw [List.getElem?_set_self hlt]
        rfl
      · refine .inl ?_
        cases q' : r[j]? with
        | none =>
          have : touch r (.loc j) = r := by show (match r[j]? with | some (some d) => r.set j (some (frzB d)) | _ => r) = _; rw [q']
          rw [this]; exact e
        | some o' =>
          cases o' with
          | none =>
            have : touch r (.loc j) = r := by show (match r[j]? with | some (some d) => r.set j (some (frzB d)) | _ => r) = _; rw [q']
            rw [this]; exact e
          | some d' =>
            rw [touch_loc q']
            show (match (r.set j (some (frzB d')))[i]? with | some (some d) => some d | _ => none) = _
            rw [List.getElem?_set_ne hij, q]
/-- the parts of two operands, both dropped -/
theorem StW.parts2 {x y : R} {v u : V} {k k' : Kd} {o o' : Bool} {xs ys : List D} (S : StW G C ow r (T ++ (pushR x v ++ pushR y u)) s H) (lx : LocOk s v x) (ly : LocOk s u y) (e1 : opd r x = some (.node k o xs)) (e2 : opd r y = some (.node k' o' ys)) :
    ∃ ow' a b vs us, StW G C ow' (touch (touch r y) x) T s H ∧ v = .ref a ∧ u = .ref b ∧ Holds G H a k vs ∧ Holds G H b k' us ∧ (∀ l, Reps G ow' H (frzs xs) l 0 vs) ∧ (∀ l, Reps G ow' H (frzs ys) l 0 us) := by
  obtain ⟨ow1, b, us, S1, eu, hb, ry, n1⟩ := StW.parts (T := T ++ pushR x v) (by rw [List.append_assoc]; exact S) ly e2
  have go : ∀ xs', opd (touch r y) x = some (.node k o xs') → frzs xs' = frzs xs →
      ∃ ow' a b vs us, StW G C ow' (touch (touch r y) x) T s H ∧ v = .ref a ∧ u = .ref b ∧ Holds G H a k vs ∧ Holds G H b k' us ∧ (∀ l, Reps G ow' H (frzs xs) l 0 vs) ∧ (∀ l, Reps G ow' H (frzs ys) l 0 us) := fun xs' e' ef => by
    obtain ⟨ow2, a, vs, S2, ev, ha, rx, n2⟩ := S1.parts lx e'
    refine ⟨ow2, a, b, vs, us, S2, ev, eu, ha, hb, fun l => by rw [← ef]; exact rx l, fun l => ?_⟩
    exact Reps.moveF _ (frzs_frzs ys) (fun c ob z q => ⟨z, n2 c q⟩) (fun _ _ z _ => z) (ry l)
  rcases touch_opd (y := y) e1 with e' | e'
  · exact go xs e' rfl
  · exact go _ e' (frzs_frzs xs)
/-- a + b -/
@[irreducible] def gAdd : G2 := fun x y r => match opd r x, opd r y with
  | some (.int i), some (.int j) => .ok (.val (.int (i + j))) r
  | some (.int i), some (.bl k) => .ok (.val (.int (i + b2i k))) r
  | some (.str a), some (.str b) => if a.length + b.length ≤ 16777216 then .ok (.val (.str (a ++ b))) r else .bad
  | some (.node .lst _ xs), some (.node .lst _ ys) => if xs.length + ys.length ≤ 16777216 then .ok (.val (.node .lst true (frzs xs ++ frzs ys))) (touch (touch r y) x) else .bad
  | _, _ => .bad
theorem frzs_append (xs ys : List D) : frzs (xs ++ ys) = frzs xs ++ frzs ys := by simp [frzs_map]
theorem frzs_length (xs : List D) : (frzs xs).length = xs.length := by simp [frzs_map]
theorem goes_val {z : D} {Q : VK} (h : Goes G C W T s Q (.ok (.val z) r)) (S : StOk G C r T s H) (a : atom z = true) {w : V} (hw : ∀ ow l, Rep G ow H z l w) : Q w H := h w H ⟨S.pushA a hw, trivial⟩
theorem os_add_of {f : Value → Value → Sem Value} (h1 : OpR X f (rI0 fun i j => .int (i + j))) (h2 : OpR X f (fun x y H Q => ∃ i k, x = .int i ∧ y = .bl k ∧ Q (.int (i + b2i k)) H))
    (h3 : OpR X f (fun x y H Q => ∃ i j, x = .str i ∧ y = .str j ∧ i.length + j.length ≤ sizeLine ∧ Q (.str (i ++ j)) H)) (h4 : OpR X f rCat) : OpS X f gAdd := by
  refine ⟨_, h1.or (h2.or (h3.or h4)), fun G C W r T s H x y v u Q S lx ly q => ?_⟩
  obtain ⟨ow, S⟩ := S
  unfold gAdd at q
  split at q
  · rename_i i j e1 e2
    have a1 := opd_rep S lx e1
    have a2 := opd_rep (T := T ++ pushR x v) (T2 := []) (by rw [List.append_nil, List.append_assoc]; exact S) ly e2
    exact .inl ⟨i, j, a1, a2, goes_val q ⟨ow, S.drop⟩ rfl fun _ _ => rfl⟩
  · rename_i i k e1 e2
    have a1 := opd_rep S lx e1
    have a2 := opd_rep (T := T ++ pushR x v) (T2 := []) (by rw [List.append_nil, List.append_assoc]; exact S) ly e2
    exact .inr (.inl ⟨i, k, a1, a2, goes_val q ⟨ow, S.drop⟩ rfl fun _ _ => rfl⟩)
  · rename_i i j e1 e2
    have a1 := opd_rep S lx e1
    have a2 := opd_rep (T := T ++ pushR x v) (T2 := []) (by rw [List.append_nil, List.append_assoc]; exact S) ly e2
    split at q
    · rename_i hz
      exact .inr (.inr (.inl ⟨i, j, a1, a2, by rw [sizeLine_eq]; exact hz, goes_val q ⟨ow, S.drop⟩ rfl fun _ _ => rfl⟩))
    · exact q.elim
  · rename_i o1 xs o2 ys e1 e2
    split at q
    · rename_i hz
      obtain ⟨ow', a, b, vs, us, S', ev, eu, ha, hb, rx, ry⟩ := S.parts2 lx ly e1 e2
      subst ev; subst eu
      have l1 := (rx ⟨.fo, []⟩).length
      have l2 := (ry ⟨.fo, []⟩).length
      rw [frzs_length] at l1 l2
      refine .inr (.inr (.inr ⟨a, b, vs, us, rfl, rfl, ha, hb, by rw [sizeLine_eq, ← l1, ← l2]; exact hz, ?_⟩))
      exact S'.made (l := ⟨.fo, []⟩) (i := 0) (by rw [frzs_append, frzs_frzs, frzs_frzs]) (Reps.app (frzs_frzs xs) (frzs_frzs ys) (rx _) (ry _)) q
    · exact q.elim
  · exact q.elim
theorem os_add : OpS X (binaryOp .Add) gAdd := os_add_of op_add op_add_ib op_add_str op_cat
end
end VL

namespace VL
open PySem PySem.Spec PyProof.Rows L2

theorem reps_flat {G : GX} {ow : Ow} {H : Hp} {ds : List D} {l : Loc} {vs : List V} (e : frzs ds = ds) (h : Reps G ow H ds l 0 vs) : ∀ k : Nat, Reps G ow H (List.replicate k ds).flatten l 0 (List.replicate k vs).flatten ∧ frzs (List.replicate k ds).flatten = (List.replicate k ds).flatten
  | 0 => ⟨rfl, rfl⟩
  | k + 1 => by
    obtain ⟨i1, i2⟩ := reps_flat e h k
    rw [List.replicate_succ, List.replicate_succ, List.flatten_cons, List.flatten_cons]
    exact ⟨Reps.app e i2 h i1, by rw [frzs_append, e, i2]⟩
section
variable {X : Cx} {G : GX} {C : Fc} {W : WX} {ow ow' : Ow} {r : Rho} {T T1 T2 : List (D × V)} {s : L2.St} {H H' : Hp} {fa fb fc : Ev}
/-- a * b -/
@[irreducible] def gMul : G2 := fun x y r => match opd r x, opd r y with
  | some (.int i), some (.int j) => if mulOk i j = true then .ok (.val (.int (i * j))) r else .bad
  | some (.node .lst _ xs), some (.int k) => if k.natAbs < 2 ^ 63 ∧ xs.length * k.toNat ≤ 16777216 then .ok (.val (.node .lst true (List.replicate k.toNat (frzs xs)).flatten)) (touch r x) else .bad
  | _, _ => .bad
theorem os_mul : OpS X (binaryOp .Mult) gMul := by
  refine ⟨_, op_mulA.or op_rep, fun G C W r T s H x y v u Q S lx ly q => ?_⟩
  obtain ⟨ow, S⟩ := S
  unfold gMul at q
  split at q
  · rename_i i j e1 e2
    split at q
    · rename_i hm
      have a1 := opd_rep S lx e1
      have a2 := opd_rep (T := T ++ pushR x v) (T2 := []) (by rw [List.append_nil, List.append_assoc]; exact S) ly e2
      exact .inl ⟨i, j, a1, a2, mulOk_of hm, goes_val q ⟨ow, S.drop⟩ rfl fun _ _ => rfl⟩
    · exact q.elim
  · rename_i o xs k e1 e2
    split at q
    · rename_i hz
      obtain ⟨h12, h3⟩ := hz
      have h1 : -(2 ^ 63) ≤ k := by omega
      have h2 : k < 2 ^ 63 := by omega
      have a2 := opd_rep (T := T ++ pushR x v) (T2 := []) (by rw [List.append_nil, List.append_assoc]; exact S) ly e2
      obtain ⟨ow', a, vs, S', ev, ha, rx, _⟩ := StW.parts (T := T) (StW.drop (T := T ++ pushR x v) (T2 := pushR y u) (by rw [List.append_assoc]; exact S)) lx e1
      subst ev
      have l1 := (rx ⟨.fo, []⟩).length
      rw [frzs_length] at l1
      obtain ⟨r1, r2⟩ := reps_flat (frzs_frzs xs) (rx ⟨.fo, []⟩) k.toNat
      refine .inr ⟨a, k, vs, rfl, a2, ha, h1, h2, by rw [sizeLine_eq, ← l1]; exact h3, ?_⟩
      exact S'.made (l := ⟨.fo, []⟩) (i := 0) r2 r1 q
    · exact q.elim
  · exact q.elim

/-! ### == -/
mutual
def toPy : D → PyData
  | .non => .none
  | .bl b => .bool b
  | .int i => .int i
  | .str s => .str s
  | .node .lst _ xs => .list (toPys xs)
  | .node .tup _ xs => .tuple (toPys xs)
  | _ => .dict []
def toPys : List D → List PyData
  | [] => []
  | d :: ds => toPy d :: toPys ds
end
def eqOk (d : D) : Bool := SeqAt.shaped (toPy d)
mutual
theorem dp_of {K : PySem.W.Frag} : ∀ (d : D) {l : Loc} {v : V}, (toPy d).canLay0 = true → Rep G ow H d l v → Dp K H v (toPy d)
  | .non, _, _, _, h => by
    have e := rep_non h
    subst e; exact .non
  | .bl b, _, _, _, h => by
    have e := rep_bl h
    subst e; exact .bl b
  | .int i, _, _, _, h => by
    have e := rep_int h
    subst e; exact .int i
  | .str x, _, _, _, h => by
    have e := rep_str h
    subst e; exact .str x
  | .any, _, _, c, _ => by simp [toPy, PyData.canLay0] at c
  | .exc _, _, _, c, _ => by simp [toPy, PyData.canLay0] at c
  | .ty _, _, _, c, _ => by simp [toPy, PyData.canLay0] at c
  | .cls _, _, _, c, _ => by simp [toPy, PyData.canLay0] at c
  | .node k o xs, l, v, c, h => by
    obtain ⟨a, vs, e, h1, h2, h3⟩ := h
    subst e
    cases k with
    | lst =>
      have c' : PyData.canLayAll0 (toPys xs) = true := by simpa [toPy, PyData.canLay0] using c
      have z := dps_of (K := K) xs c' h3
      simp only [toPy]
      exact .lst (SqL.of h1) z
    | rd => simp [toPy, PyData.canLay0] at c
    | tup =>
      have c' : PyData.canLayAll0 (toPys xs) = true := by simpa [toPy, PyData.canLay0] using c
      have z := dps_of (K := K) xs c' h3
      simp only [toPy]
      exact .tup (SqT.of h1) z
    | dK ks => simp [toPy, PyData.canLay0] at c
    | dT ks => simp [toPy, PyData.canLay0] at c
    | ins c' fs => simp [toPy, PyData.canLay0] at c
theorem dps_of {K : PySem.W.Frag} : ∀ (ds : List D) {l : Loc} {i : Nat} {vs : List V}, PyData.canLayAll0 (toPys ds) = true → Reps G ow H ds l i vs → DpAll K H vs (toPys ds)
  | [], _, _, vs, _, h => by
    have e : vs = [] := h
    subst e
    simp only [toPys]
    exact .nil
  | d :: ds, l, i, vs, c, h => by
    obtain ⟨v, ws, e, h1, h2⟩ := h
    subst e
    have c' : (toPy d).canLay0 = true ∧ PyData.canLayAll0 (toPys ds) = true := by simpa [toPys, PyData.canLayAll0] using c
    simp only [toPys]
    exact .cons (dp_of d c'.1 h1) (dps_of ds c'.2 h2)
end
def eqD (d e : D) : Option D := if (eqOk d && eqOk e) = true then some (.bl (PyData.eqv (toPy d) (toPy e))) else none
def neD (d e : D) : Option D := if (eqOk d && eqOk e) = true then some (.bl (!PyData.eqv (toPy d) (toPy e))) else none
theorem op_isNW : OpR X (compareOp .Is) (fun x y H Q => y = .non ∧ Q (.bl (decide (x = .non))) H) := op_isN
def gEq : G2 := g2 eqD
def gNe : G2 := g2 neD
theorem os_eq (hu : X.A.units + 64 < cLine) : OpS X (compareOp .Eq) gEq := by
  refine OpS.scal (op_eqD hu) fun G ow H d e z l m v u Q h1 h2 e3 q => ?_
  unfold eqD at e3
  split at e3
  · rename_i c
    rw [Bool.and_eq_true] at c
    cases e3
    exact ⟨_, _, dp_of d (SeqAt.canLay_of_shaped c.1) h1, dp_of e (SeqAt.canLay_of_shaped c.2) h2, c.1, c.2, q _ fun _ _ => rfl⟩
  · cases e3
theorem os_ne (hu : X.A.units + 64 < cLine) : OpS X (compareOp .NotEq) gNe := by
  refine OpS.scal (op_neD hu) fun G ow H d e z l m v u Q h1 h2 e3 q => ?_
  unfold neD at e3
  split at e3
  · rename_i c
    rw [Bool.and_eq_true] at c
    cases e3
    exact ⟨_, _, dp_of d (SeqAt.canLay_of_shaped c.1) h1, dp_of e (SeqAt.canLay_of_shaped c.2) h2, c.1, c.2, q _ fun _ _ => rfl⟩
  · cases e3
/-- is None -/
def isN : D → D → Option D
  | d, .non => (match d with
    | .any => none
    | .non => some (.bl true)
    | _ => some (.bl false))
  | _, _ => none
def isnotN : D → D → Option D
  | d, .non => (match d with
    | .any => none
    | .non => some (.bl false)
    | _ => some (.bl true))
  | _, _ => none
theorem rep_isnon {d : D} {l : Loc} {v : V} (h : Rep G ow H d l v) (n : d ≠ .any) : decide (v = .non) = (match d with | .non => true | _ => false) := by
  cases d with
  | any => exact absurd rfl n
  | non =>
    have e := rep_non h
    subst e
    rfl
  | bl b => have e := rep_bl h; subst e; rfl
  | int b => have e := rep_int h; subst e; rfl
  | str b => have e := rep_str h; subst e; rfl
  | exc c => obtain ⟨a, e, _⟩ := h; subst e; rfl
  | ty m => have e : v = .ty m := h; subst e; rfl
  | cls c => have e : v = .ref (G c) := h; subst e; rfl
  | node k o xs => obtain ⟨a, vs, e, _⟩ := h; subst e; rfl
def gIs : G2 := g2 isN
def gIsNot : G2 := g2 isnotN
theorem os_is : OpS X (compareOp .Is) gIs := by
  refine OpS.scal op_isN fun G ow H d e z l m v u Q h1 h2 e3 q => ?_
  cases e with
  | non =>
    refine ⟨rep_non h2, ?_⟩
    cases d with
    | any => cases e3
    | _ => cases e3; rw [rep_isnon h1 (fun z => nomatch z)]; exact q _ fun _ _ => rfl
  | _ => cases e3
theorem os_isnot : OpS X (compareOp .IsNot) gIsNot := by
  refine OpS.scal op_notN fun G ow H d e z l m v u Q h1 h2 e3 q => ?_
  cases e with
  | non =>
    refine ⟨rep_non h2, ?_⟩
    cases d with
    | any => cases e3
    | _ => cases e3; rw [rep_isnon h1 (fun z => nomatch z)]; exact q _ fun _ _ => rfl
  | _ => cases e3

/-! ### in -/
def flatD : D → Bool
  | .non => true
  | .bl _ => true
  | .int _ => true
  | .str _ => true
  | _ => false
theorem toPys_map : ∀ xs : List D, toPys xs = xs.map toPy
  | [] => by simp [toPys]
  | d :: ds => by simp [toPys, toPys_map ds]
theorem flat_rep {d : D} {l : Loc} {v : V} (f : flatD d = true) (h : Rep G ow H d l v) : flatV v = true ∧ atom d = true := by
  cases d with
  | non => have e := rep_non h; subst e; exact ⟨rfl, rfl⟩
  | bl b => have e := rep_bl h; subst e; exact ⟨rfl, rfl⟩
  | int b => have e := rep_int h; subst e; exact ⟨rfl, rfl⟩
  | str b => have e := rep_str h; subst e; exact ⟨rfl, rfl⟩
  | _ => cases f
theorem flat_eq {d e : D} {l m : Loc} {v u : V} (f : flatD d = true) (g : flatD e = true) (h : Rep G ow H d l v) (h' : Rep G ow H e m u) : eqV v u = PyData.eqv (toPy d) (toPy e) := by
  cases d with
  | non =>
    have e1 := rep_non h; subst e1
    cases e with
    | non => have e2 := rep_non h'; subst e2; simp [eqV, toPy, PyData.eqv]
    | bl b => have e2 := rep_bl h'; subst e2; simp [eqV, toPy, PyData.eqv]
    | int b => have e2 := rep_int h'; subst e2; simp [eqV, toPy, PyData.eqv]
    | str b => have e2 := rep_str h'; subst e2; simp [eqV, toPy, PyData.eqv]
    | _ => cases g
  | bl b =>
    have e1 := rep_bl h; subst e1
    cases e with
    | non => have e2 := rep_non h'; subst e2; simp [eqV, toPy, PyData.eqv]
    | bl b => have e2 := rep_bl h'; subst e2; simp [eqV, toPy, PyData.eqv]
    | int b => have e2 := rep_int h'; subst e2; simp [eqV, toPy, PyData.eqv]
    | str b => have e2 := rep_str h'; subst e2; simp [eqV, toPy, PyData.eqv]
    | _ => cases g
  | int b =>
    have e1 := rep_int h; subst e1
    cases e with
    | non => have e2 := rep_non h'; subst e2; simp [eqV, toPy, PyData.eqv]
    | bl b => have e2 := rep_bl h'; subst e2; simp [eqV, toPy, PyData.eqv]
    | int b => have e2 := rep_int h'; subst e2; simp [eqV, toPy, PyData.eqv]
    | str b => have e2 := rep_str h'; subst e2; simp [eqV, toPy, PyData.eqv]
    | _ => cases g
  | str b =>
    have e1 := rep_str h; subst e1
    cases e with
    | non => have e2 := rep_non h'; subst e2; simp [eqV, toPy, PyData.eqv]
    | bl b => have e2 := rep_bl h'; subst e2; simp [eqV, toPy, PyData.eqv]
    | int b => have e2 := rep_int h'; subst e2; simp [eqV, toPy, PyData.eqv]
    | str b => have e2 := rep_str h'; subst e2; simp [eqV, toPy, PyData.eqv]
    | _ => cases g
  | _ => cases f
theorem flat_all : ∀ {xs : List D} {l : Loc} {i : Nat} {vs : List V}, xs.all flatD = true → Reps G ow H xs l i vs → vs.all flatV = true
  | [], _, _, vs, _, h => by
    have e : vs = [] := h
    subst e; rfl
  | d :: ds, l, i, vs, f, h => by
    obtain ⟨v, ws, e, h1, h2⟩ := h
    subst e
    rw [List.all_cons, Bool.and_eq_true] at f ⊢
    exact ⟨(flat_rep f.1 h1).1, flat_all f.2 h2⟩
theorem flat_any {d : D} {m : Loc} {v : V} (g : flatD d = true) (h' : Rep G ow H d m v) : ∀ {xs : List D} {l : Loc} {i : Nat} {vs : List V}, xs.all flatD = true → Reps G ow H xs l i vs → inV v vs = xs.any fun e => PyData.eqv (toPy e) (toPy d)
  | [], _, _, vs, _, h => by
    have e : vs = [] := h
    subst e; rfl
  | d' :: ds, l, i, vs, f, h => by
    obtain ⟨v', ws, e, h1, h2⟩ := h
    subst e
    rw [List.all_cons, Bool.and_eq_true] at f
    have z := flat_any g h' f.2 h2
    unfold inV at z ⊢
    rw [List.any_cons, List.any_cons, z, flat_eq f.1 g h1 h']
/-- x in a list of data, in a tuple of flat ones -/
def inD (d e : D) : Option Bool := match e with
  | .node .lst _ xs => if (eqOk d && eqOk e) = true then some (xs.any fun z => PyData.eqv (toPy z) (toPy d)) else none
  | .node .tup _ xs => if (flatD d && xs.all flatD) = true then some (xs.any fun z => PyData.eqv (toPy z) (toPy d)) else none
  | .str b => (match d with
    | .str a => some (!(Builtin.Str.occurrences b a 0 b.length 1).isEmpty)
    | _ => none)
  | _ => none
def rInAll (K : PySem.W.Frag) (neg : Bool) : R2 := fun x y H Q => (if neg = true then rNotInD K x y H Q else rInD K x y H Q) ∨ rIn K neg x y H Q ∨ (∃ i j, x = .str i ∧ y = .str j ∧ Q (.bl (if neg then !(!(Builtin.Str.occurrences j i 0 j.length 1).isEmpty) else !(Builtin.Str.occurrences j i 0 j.length 1).isEmpty)) H)
theorem inD_ok {K : PySem.W.Frag} {d e : D} {l m : Loc} {v u : V} {b neg : Bool} {Q : VK} (h1 : Rep G ow H d l v) (h2 : Rep G ow H e m u) (e3 : inD d e = some b) (q : Q (.bl (if neg then !b else b)) H) : rInAll K neg v u H Q := by
  have deep : ∀ xs, e = .node .lst false xs ∨ e = .node .lst true xs → (eqOk d && eqOk e) = true → b = (xs.any fun z => PyData.eqv (toPy z) (toPy d)) → rInAll K neg v u H Q := fun xs he c eb => by
    rw [Bool.and_eq_true] at c
    have ep : toPy e = .list (toPys xs) := by rcases he with he | he <;> rw [he] <;> simp [toPy]
    have k1 := dp_of (K := K) d (SeqAt.canLay_of_shaped c.1) h1
    have k2 := dp_of (K := K) e (SeqAt.canLay_of_shaped c.2) h2
    have c2 : SeqAt.shaped (.list (toPys xs)) = true := by rw [← ep]; exact c.2
    rw [ep] at k2
    have ea : (toPys xs).any (fun z => PyData.eqv z (toPy d)) = b := by rw [toPys_map, List.any_map, eb]; rfl
    refine .inl ?_
    cases neg with
    | true => exact ⟨_, _, k1, k2, c.1, c2, by rw [ea]; exact q⟩
    | false => exact ⟨_, _, k1, k2, c.1, c2, by rw [ea]; exact q⟩
  unfold inD at e3
  split at e3
  · rename_i o xs
    split at e3
    · rename_i c
      cases e3
      exact deep xs (by cases o <;> simp) c rfl
    · cases e3
  · rename_i o xs
    split at e3
    · rename_i c
      rw [Bool.and_eq_true] at c
      cases e3
      obtain ⟨a, vs, eu, k1, _, k3⟩ := h2
      subst eu
      refine .inr (.inl ⟨a, vs, rfl, .inr (SqT.of k1), (flat_rep c.1 h1).1, flat_all c.2 k3, ?_⟩)
      rw [flat_any c.1 h1 c.2 k3]
      exact q
    · cases e3
  · rename_i z
    split at e3
    · rename_i a
      cases e3
      exact .inr (.inr ⟨a, z, rep_str h1, rep_str h2, q⟩)
    · cases e3
  · cases e3
def gIn : G2 := g2 fun d e => (inD d e).map .bl
def gNotIn : G2 := g2 fun d e => (inD d e).map fun b => .bl (!b)
theorem os_in (hu : X.A.units + 65 < cLine) : OpS X (compareOp .In) gIn := by
  have R : OpR X (compareOp .In) (rInAll X.K false) := (op_inD hu).or (op_in_seq.or op_in_str)
  refine OpS.scal R fun G ow H d e z l m v u Q h1 h2 e3 q => ?_
  cases e4 : inD d e with
  | none => rw [e4] at e3; cases e3
  | some b =>
    rw [e4] at e3
    cases e3
    exact inD_ok (neg := false) h1 h2 e4 (q _ fun _ _ => rfl)
theorem os_notin (hu : X.A.units + 65 < cLine) : OpS X (compareOp .NotIn) gNotIn := by
  have R : OpR X (compareOp .NotIn) (rInAll X.K true) := (op_notInD hu).or (op_notIn_seq.or op_notin_str)
  refine OpS.scal R fun G ow H d e z l m v u Q h1 h2 e3 q => ?_
  cases e4 : inD d e with
  | none => rw [e4] at e3; cases e3
  | some b =>
    rw [e4] at e3
    cases e3
    exact inD_ok (neg := true) h1 h2 e4 (q _ fun _ _ => rfl)

/-! ### truths, tests -/
def tVT (G : GX) (C : Fc) (W : WX) (f : Ev) : TT := fun s H Q => ∃ r T, StOk G C r T s H ∧ match f r with
  | .ok (.val (.bl b)) r' => ∀ H', StOk G C r' T s H' → Q b H'
  | .exc c r' => ∀ H', StOk G C r' T s H' → W (.ref (G c)) none s H'
  | _ => False
abbrev VT (X : Cx) (G : GX) (C : Fc) (W : WX) (e : Expr) (f : Ev) : Prop := PT X e (tVT G C W f)
theorem PT.imp {e : Expr} {t t' : TT} (h : PT X e t) (i : ∀ s H Q, t' s H Q → t s H Q) : PT X e t' := ⟨fun pins s σ H Q I w => h.run pins s σ H Q I (i _ _ _ w)⟩
theorem PW.imp {e : Expr} {t t' : TT} (h : PW X e t) (i : ∀ s H Q, t' s H Q → t s H Q) : PW X e t' := ⟨fun wh pins s σ H Q I w => h.run wh pins s σ H Q I (i _ _ _ w)⟩
/-- a value that is True or False, from its meaning -/
theorem tV_bl {f : Ev} {Q : Bool → Hp → Prop} (h : tVT G C W f s H Q) : tV G C W f s H fun v H' => ∃ k, v = .bl k ∧ Q k H' := by
  obtain ⟨r, T, S, h⟩ := h
  refine ⟨r, T, S, ?_⟩
  split at h
  · rename_i b r' e
    rw [e]
    exact fun v H' P => ⟨b, by
      obtain ⟨ow, S'⟩ := P.1
      exact S'.last, h H' P.any⟩
  · rename_i c r' e
    rw [e]
    exact h
  · exact h.elim
theorem vt_cmp {op : CmpOp} {g : G2} {a b : Expr} {pos : Pos} (ho : OpS X (compareOp op) g) (ha : VE X G C W a fa) (hb : VE X G C W b fb) (hm : behindInMarks op b = false) : VT X G C W (.Compare a [op] [b] pos) (cBin g fa fb) := by
  obtain ⟨rr, h1, h2⟩ := ho
  refine PT.imp (pt_cmpR h1 ha hb hm) fun s H Q h => ?_
  have z := tV_bl h
  obtain ⟨r, T, S, gg⟩ := z
  exact two S gg fun x y v u r2 H2 S2 lx ly g2 => h2 G C W r2 T s H2 x y v u _ S2 lx ly g2
def truthD : D → Option Bool
  | .non => some false
  | .bl b => some b
  | .int i => some (i != 0)
  | .str x => if x.length ≤ 16777216 then some ((x.length : Int) != 0) else none
  | .node .lst _ xs => some (!xs.isEmpty)
  | .node .tup _ xs => some (!xs.isEmpty)
  | .node (.dK _) _ xs => some (!xs.isEmpty)
  | _ => none
def cTru (fa : Ev) : Ev := fun r => (fa r).bd fun x r1 => match opd r1 x with
  | some d => (match truthD d with
    | some b => .ok (.val (.bl b)) r1
    | none => .bad)
  | none => .bad
theorem empty_reps {xs : List D} {l : Loc} {i : Nat} {vs : List V} (h : Reps G ow H xs l i vs) : (!xs.isEmpty) = !vs.isEmpty := by
  have := h.length
  cases xs <;> cases vs <;> simp at this ⊢
theorem truth_ok {K : PySem.W.Frag} {d : D} {l : Loc} {v : V} {b : Bool} (h : Rep G ow H d l v) (e : truthD d = some b) : TruV K v H b := by
  cases d with
  | non => have e1 := rep_non h; subst e1; cases e; rfl
  | bl k => have e1 := rep_bl h; subst e1; cases e; rfl
  | int k => have e1 := rep_int h; subst e1; cases e; rfl
  | str k =>
    have e1 := rep_str h; subst e1
    simp only [truthD] at e
    split at e
    · cases e; exact ⟨by rw [sizeLine_eq]; assumption, rfl⟩
    · cases e
  | any => cases e
  | exc c => cases e
  | ty c => cases e
  | cls c => cases e
  | node k o xs =>
    obtain ⟨a, vs, ev, h1, h2, h3⟩ := h
    subst ev
    cases k with
    | lst => cases e; exact .inl ⟨vs, SqL.of h1, empty_reps h3⟩
    | rd => cases e
    | tup => cases e; exact .inr (.inl ⟨vs, SqT.of h1, empty_reps h3⟩)
    | dK ks =>
      cases e
      refine .inr (.inr ⟨_, h1.1, ?_⟩)
      rw [empty_reps h3]
      have z := h1.2
      cases ks with
      | nil => cases vs with
        | nil => rfl
        | cons _ _ => cases z
      | cons _ _ => cases vs with
        | nil => cases z
        | cons _ _ => rfl
    | dT ks => cases e
    | ins c fs => cases e
theorem vt_truth {a : Expr} (ha : VE X G C W a fa) (he : ∀ whole, isTrue a X.env whole = (do let v ← whole; standAt a.pos; holding [v] (truthy v))) : VT X G C W a (cTru fa) := by
  refine PT.imp (pt_truth ha he) fun s H Q h => ?_
  obtain ⟨r, T, S, g⟩ := h
  refine ⟨r, T, S, ?_⟩
  unfold cTru at g
  cases e : fa r with
  | ok x r1 =>
    rw [e] at g
    simp only [bd_ok] at g
    intro v H' P
    cases e1 : opd r1 x with
    | none => rw [e1] at g; exact g.elim
    | some d =>
      rw [e1] at g
      cases e2 : truthD d with
      | none => simp only [e2] at g
      | some b =>
        simp only [e2] at g
        obtain ⟨ow, S'⟩ := P.1
        exact ⟨b, truth_ok (opd_rep (T2 := []) (by rw [List.append_nil]; exact S') P.2 e1) e2, g H' P.any⟩
  | exc c r1 => rw [e] at g; exact g
  | bad => rw [e] at g; exact g
/-- an expression that tells True or False, as a test -/
theorem vt_val {a : Expr} (ha : VE X G C W a fa) (he : ∀ whole, isTrue a X.env whole = (do let v ← whole; standAt a.pos; holding [v] (truthy v))) : VT X G C W a fa := by
  refine PT.imp (pt_truth ha he) fun s H Q h => ?_
  have z := tV_bl h
  obtain ⟨r, T, S, g⟩ := z
  refine ⟨r, T, S, ?_⟩
  cases e : fa r with
  | ok x r1 =>
    rw [e] at g
    exact fun v H' P => by
      obtain ⟨k, ev, q⟩ := g v H' P
      subst ev
      exact ⟨k, rfl, q⟩
  | exc c r1 => rw [e] at g; exact g
  | bad => rw [e] at g; exact g
def cAnd (fa fb : Ev) : Ev := fun r => (fa r).bd fun x r1 => match x with
  | .val (.bl true) => fb r1
  | .val (.bl false) => .ok (.val (.bl false)) r1
  | _ => .bad
def cOr (fa fb : Ev) : Ev := fun r => (fa r).bd fun x r1 => match x with
  | .val (.bl true) => .ok (.val (.bl true)) r1
  | .val (.bl false) => fb r1
  | _ => .bad
def cNot (fa : Ev) : Ev := fun r => (fa r).bd fun x r1 => match x with
  | .val (.bl b) => .ok (.val (.bl (!b))) r1
  | _ => .bad
abbrev VW (X : Cx) (G : GX) (C : Fc) (W : WX) (e : Expr) (f : Ev) : Prop := PW X e (tVT G C W f)
theorem tVT_and {Q : Bool → Hp → Prop} (h : tVT G C W (cAnd fa fb) s H Q) : tAnd (tVT G C W fa) (tVT G C W fb) s H Q := by
  obtain ⟨r, T, S, g⟩ := h
  refine ⟨r, T, S, ?_⟩
  unfold cAnd at g
  cases e : fa r with
  | ok x r1 =>
    rw [e] at g
    simp only [bd_ok] at g
    split at g
    · rename_i b r' e'
      split at e'
      · exact fun H' S' => (if_pos rfl).mpr ⟨r1, T, S', by rw [e']; exact g⟩
      · cases e'
        exact fun H' S' => (if_neg Bool.false_ne_true).mpr (g H' S')
      · cases e'
    · rename_i c r' e'
      split at e'
      · exact fun H' S' => (if_pos rfl).mpr ⟨r1, T, S', by rw [e']; exact g⟩
      · cases e'
      · cases e'
    · exact g.elim
  | exc c r1 => rw [e] at g; exact g
  | bad => rw [e] at g; exact g
theorem tVT_or {Q : Bool → Hp → Prop} (h : tVT G C W (cOr fa fb) s H Q) : tOr (tVT G C W fa) (tVT G C W fb) s H Q := by
  obtain ⟨r, T, S, g⟩ := h
  refine ⟨r, T, S, ?_⟩
  unfold cOr at g
  cases e : fa r with
  | ok x r1 =>
    rw [e] at g
    simp only [bd_ok] at g
    split at g
    · rename_i b r' e'
      split at e'
      · cases e'
        exact fun H' S' => (if_pos rfl).mpr (g H' S')
      · exact fun H' S' => (if_neg Bool.false_ne_true).mpr ⟨r1, T, S', by rw [e']; exact g⟩
      · cases e'
    · rename_i c r' e'
      split at e'
      · cases e'
      · exact fun H' S' => (if_neg Bool.false_ne_true).mpr ⟨r1, T, S', by rw [e']; exact g⟩
      · cases e'
    · exact g.elim
  | exc c r1 => rw [e] at g; exact g
  | bad => rw [e] at g; exact g
theorem vw_and1 {a : Expr} {pos : Pos} (ha : VT X G C W a fa) : VW X G C W (.BoolOp .And [a] pos) fa := pw_and1 ha
theorem vw_or1 {a : Expr} {pos : Pos} (ha : VT X G C W a fa) : VW X G C W (.BoolOp .Or [a] pos) fa := pw_or1 ha
theorem vw_and {a b : Expr} {rest : List Expr} {pos : Pos} (ha : VT X G C W a fa) (hb : VW X G C W (.BoolOp .And (b :: rest) pos) fb) : VW X G C W (.BoolOp .And (a :: b :: rest) pos) (cAnd fa fb) :=
  PW.imp (pw_and ha hb) fun _ _ _ h => tVT_and h
theorem vw_or {a b : Expr} {rest : List Expr} {pos : Pos} (ha : VT X G C W a fa) (hb : VW X G C W (.BoolOp .Or (b :: rest) pos) fb) : VW X G C W (.BoolOp .Or (a :: b :: rest) pos) (cOr fa fb) :=
  PW.imp (pw_or ha hb) fun _ _ _ h => tVT_or h
theorem VW.pt {e : Expr} {f : Ev} (h : VW X G C W e f) : VT X G C W e f := L2.PW.pt h
theorem vt_not {a : Expr} {pos : Pos} (ha : VT X G C W a fa) : VT X G C W (.UnaryOp .Not a pos) (cNot fa) := by
  refine PT.imp (pt_not ha) fun s H Q h => ?_
  obtain ⟨r, T, S, g⟩ := h
  refine ⟨r, T, S, ?_⟩
  unfold cNot at g
  cases e : fa r with
  | ok x r1 =>
    rw [e] at g
    simp only [bd_ok] at g
    split at g
    · rename_i b r' e'
      split at e'
      · rename_i k
        cases e'
        exact g
      · cases e'
    · rename_i c r' e'
      split at e' <;> cases e'
    · exact g.elim
  | exc c r1 => rw [e] at g; exact g
  | bad => rw [e] at g; exact g
/-! .. as values -/
theorem tV_of_tVT {Q : VK} (h : tV G C W fa s H Q) : (∀ r, (∃ b r', fa r = .ok (.val (.bl b)) r') ∨ (∃ c r', fa r = .exc c r') ∨ ¬ ∃ x r', fa r = .ok x r') → tVT G C W fa s H fun b H' => Q (.bl b) H' := by
  intro hb
  obtain ⟨r, T, S, g⟩ := h
  refine ⟨r, T, S, ?_⟩
  rcases hb r with ⟨b, r', e⟩ | ⟨c, r', e⟩ | hn
  · rw [e] at g ⊢
    exact fun H' S' => g (.bl b) H' ⟨S'.pushB b, trivial⟩
  · rw [e] at g ⊢; exact g
  · cases e : fa r with
    | ok x r' => exact absurd ⟨x, r', e⟩ hn
    | exc c r' => rw [e] at g; exact g
    | bad => rw [e] at g; exact g
theorem ve_one {op : BoolOp} {a : Expr} {pos : Pos} (ha : VE X G C W a fa) : VE X G C W (.BoolOp op [a] pos) fa := pe_one ha
theorem ve_and {a b : Expr} {rest : List Expr} {pos : Pos} (ha : VE X G C W a fa) (hb : VE X G C W (.BoolOp .And (b :: rest) pos) fb) : VE X G C W (.BoolOp .And (a :: b :: rest) pos) (cAnd fa fb) := by
  refine PE.imp (pe_and ha hb) fun s H Q h => ?_
  obtain ⟨r, T, S, g⟩ := h
  refine one S g fun x v r1 H1 P g1 => ?_
  split at g1
  · obtain ⟨ow, S'⟩ := P.1
    have e := rep_bl S'.last
    subst e
    exact ⟨true, rfl, (if_pos rfl).mpr ⟨r1, T, P.any, g1⟩⟩
  · obtain ⟨ow, S'⟩ := P.1
    have e := rep_bl S'.last
    subst e
    exact ⟨false, rfl, (if_neg Bool.false_ne_true).mpr (g1 _ _ ⟨P.any.pushB false, trivial⟩)⟩
  · exact g1.elim
theorem ve_or {a b : Expr} {rest : List Expr} {pos : Pos} (ha : VE X G C W a fa) (hb : VE X G C W (.BoolOp .Or (b :: rest) pos) fb) : VE X G C W (.BoolOp .Or (a :: b :: rest) pos) (cOr fa fb) := by
  refine PE.imp (pe_or ha hb) fun s H Q h => ?_
  obtain ⟨r, T, S, g⟩ := h
  refine one S g fun x v r1 H1 P g1 => ?_
  split at g1
  · obtain ⟨ow, S'⟩ := P.1
    have e := rep_bl S'.last
    subst e
    exact ⟨true, rfl, (if_pos rfl).mpr (g1 _ _ ⟨P.any.pushB true, trivial⟩)⟩
  · obtain ⟨ow, S'⟩ := P.1
    have e := rep_bl S'.last
    subst e
    exact ⟨false, rfl, (if_neg Bool.false_ne_true).mpr ⟨r1, T, P.any, g1⟩⟩
  · exact g1.elim
theorem ve_not {a : Expr} {pos : Pos} (ha : VE X G C W a fa) : VE X G C W (.UnaryOp .Not a pos) (cNot fa) := by
  refine PE.imp (pe_not ha) fun s H Q h => ?_
  obtain ⟨r, T, S, g⟩ := h
  refine one S g fun x v r1 H1 P g1 => ?_
  split at g1
  · rename_i b
    obtain ⟨ow, S'⟩ := P.1
    have e := rep_bl S'.last
    subst e
    exact ⟨b, rfl, g1 _ _ ⟨P.any.pushB _, trivial⟩⟩
  · exact g1.elim
def cIfE (ft fa fb : Ev) : Ev := fun r => (ft r).bd fun x r1 => match x with
  | .val (.bl true) => fa r1
  | .val (.bl false) => fb r1
  | _ => .bad
theorem ve_if {c a b : Expr} {pos : Pos} (hc : VT X G C W c fc) (ha : VE X G C W a fa) (hb : VE X G C W b fb) : VE X G C W (.IfExp c a b pos) (cIfE fc fa fb) := by
  refine PE.imp (pe_ifExp hc ha hb) fun s H Q h => ?_
  obtain ⟨r, T, S, g⟩ := h
  refine ⟨r, T, S, ?_⟩
  unfold cIfE at g
  cases e : fc r with
  | ok x r1 =>
    rw [e] at g
    simp only [bd_ok] at g
    cases x with
    | loc i => exact g.elim
    | val d =>
      cases d with
      | bl b =>
        cases b with
        | true => exact fun H' S' => (if_pos rfl).mpr ⟨r1, T, S', g⟩
        | false => exact fun H' S' => (if_neg Bool.false_ne_true).mpr ⟨r1, T, S', g⟩
      | _ => exact g.elim
  | exc c r1 => rw [e] at g; exact g
  | bad => rw [e] at g; exact g
def cNeg (fa : Ev) : Ev := fun r => (fa r).bd fun x r1 => match x with
  | .val (.int i) => .ok (.val (.int (-i))) r1
  | _ => .bad
theorem ve_neg {a : Expr} {pos : Pos} (ha : VE X G C W a fa) : VE X G C W (.UnaryOp .USub a pos) (cNeg fa) := by
  refine PE.imp (pe_un un_neg ha) fun s H Q h => ?_
  obtain ⟨r, T, S, g⟩ := h
  refine one S g fun x v r1 H1 P g1 => ?_
  split at g1
  · rename_i i
    obtain ⟨ow, S'⟩ := P.1
    have e := rep_int S'.last
    subst e
    exact ⟨i, rfl, g1 _ _ ⟨P.any.pushI _, trivial⟩⟩
  · exact g1.elim
end
end VL

namespace VL
open PySem PySem.Spec PyProof.Rows L2
section
variable {X : Cx} {G : GX} {C : Fc} {W : WX} {ow ow' : Ow} {r : Rho} {T T1 T2 : List (D × V)} {s : L2.St} {H H' : Hp} {fa fb fc : Ev}
/-- one operand, with more temporaries beneath -/
theorem oneX {k : R → Rho → EO} {Q : VK} {K : V → Hp → Prop} (S : StOk G C r (T ++ T2) s H) (h : Goes G C W T s Q ((fa r).bd k))
    (hk : ∀ x v r1 H1, Post G C r1 (T ++ T2) s H1 x v → Goes G C W T s Q (k x r1) → K v H1) : tV G C W fa s H K := by
  refine ⟨r, T ++ T2, S, ?_⟩
  cases e : fa r with
  | ok x r1 =>
    rw [e] at h
    exact fun v H1 P => hk x v r1 H1 P h
  | exc c r1 => rw [e] at h; exact fun H' S' => h H' S'.drop
  | bad => rw [e] at h; exact h
/-! ### a thing is handed on: what a name holds is shared from then on -/
def cSet (fa : Ev) : Ev := fun r => (fa r).bd fun x r1 => match x with
  | .val d => .ok (.val d) r1
  | .loc i => (match opd r1 (.loc i) with
    | some d => .ok (.val (frz d)) (settle r1 (.loc i))
    | none => .bad)
theorem ve_set {e : Expr} (h : VE X G C W e fa) : VE X G C W e (cSet fa) := by
  refine PE.imp h fun s H Q h => ?_
  obtain ⟨r, T, S, g⟩ := h
  refine ⟨r, T, S, ?_⟩
  unfold cSet at g
  cases e : fa r with
  | ok x r1 =>
    rw [e] at g
    simp only [bd_ok] at g
    intro v H' P
    cases x with
    | val d => exact g v H' P
    | loc i =>
      cases e1 : opd r1 (.loc i) with
      | none => simp only [e1] at g
      | some d =>
        simp only [e1] at g
        have q := opd_loc e1
        rw [settle_loc q] at g
        obtain ⟨⟨ow, S'⟩, l⟩ := P
        have S' : StW G C ow r1 T s H' := by simpa [pushR] using S'
        have hlt : i < r1.length := (List.getElem?_eq_some_iff.mp q).1
        have S2 := S'.frzSl q
        exact g v H' ⟨⟨_, S2.copy (j := i) (d := frz d) (by rw [List.getElem?_set_self hlt]) (frz_frz d) l⟩, trivial⟩
  | exc c r1 => rw [e] at g; exact g
  | bad => rw [e] at g; exact g

/-! ### an item -/
def pick (r : Rho) (x : R) (d : D) : EO := if atom d = true then .ok (.val d) r else .ok (.val (frz d)) (touch r x)
def gIx : G2 := fun x y r => match opd r x, opd r y with
  | some (.node .lst _ xs), some (.int i) => (match atI xs i with | some d => pick r x d | none => .bad)
  | some (.node .rd _ xs), some (.int i) => (match atI xs i with | some d => pick r x d | none => .bad)
  | some (.node .tup _ xs), some (.int i) => (match atI xs i with | some d => pick r x d | none => .bad)
  | some (.str z), some (.int i) => if z.length ≤ 16777216 then (match atI z.cps.toList i with | some c => .ok (.val (.str ⟨#[c]⟩)) r | none => .bad) else .bad
  | _, _ => .bad
theorem atI_len {α β : Type} {xs : List α} {ys : List β} {i : Int} {d : α} (hl : xs.length = ys.length) (h : atI xs i = some d) : ∃ j : Nat, xs[j]? = some d ∧ ∀ y, ys[j]? = some y → atI ys i = some y := by
  unfold atI at h ⊢
  rw [← hl]
  cases e : ixN xs.length i with
  | none => rw [e] at h; cases h
  | some j =>
    rw [e] at h
    exact ⟨j, h, fun y hy => hy⟩
theorem frzs_get {xs : List D} {j : Nat} {d : D} (h : xs[j]? = some d) : (frzs xs)[j]? = some (frz d) := by
  rw [frzs_map, List.getElem?_map, h]; rfl
theorem pick_ok {x y : R} {v u : V} {k : Kd} {o : Bool} {xs : List D} {i : Int} {d : D} {Q : VK} (S : StW G C ow r (T ++ (pushR x v ++ pushR y u)) s H) (lx : LocOk s v x) (e1 : opd r x = some (.node k o xs)) (ei : atI xs i = some d) (q : Goes G C W T s Q (pick r x d)) :
    ∃ a vs w, v = .ref a ∧ Holds G H a k vs ∧ atI vs i = some w ∧ Q w H := by
  by_cases a : atom d = true
  · obtain ⟨p, vs, ev, h1, h2, h3⟩ := opd_rep S lx e1
    obtain ⟨j, ej, hj⟩ := atI_len h3.length ei
    obtain ⟨w, ew, rw'⟩ := h3.get j d ej
    unfold pick at q
    rw [if_pos a] at q
    exact ⟨p, vs, w, ev, h1, hj w ew, goes_val q ⟨ow, S.drop⟩ a fun _ _ => rw'.of_atom a⟩
  · obtain ⟨ow', p, vs, S', ev, h1, rx, _⟩ := StW.parts (T := T) (StW.drop (T := T ++ pushR x v) (T2 := pushR y u) (by rw [List.append_assoc]; exact S)) lx e1
    have l1 := (rx ⟨.fo, []⟩).length
    rw [frzs_length] at l1
    obtain ⟨j, ej, hj⟩ := atI_len l1 ei
    obtain ⟨w, ew, rw'⟩ := (rx ⟨.fo, []⟩).get j (frz d) (frzs_get ej)
    unfold pick at q
    rw [if_neg a] at q
    exact ⟨p, vs, w, ev, h1, hj w ew, q w H ⟨⟨ow', S'.push (Rep.moveF _ (frz_frz d) (fun a o z q => ⟨z, q⟩) (fun _ _ z _ => z) rw')⟩, trivial⟩⟩
theorem ve_ix {a b : Expr} {pos : Pos} (hK : G.K = X.K) (ha : VE X G C W a fa) (hb : VE X G C W b fb) (hs : PlainIx b) : VE X G C W (.Subscript a b pos) (cBin gIx fa fb) := by
  refine PE.imp (pe_ix ix_seq ha hb hs) fun s H Q h => ?_
  obtain ⟨r, T, S, g⟩ := h
  refine two S g fun x y v u r2 H2 S2 lx ly q => ?_
  obtain ⟨ow, S2⟩ := S2
  have i2 : ∀ i, opd r2 y = some (.int i) → u = .int i := fun i e2 => opd_rep (T := T ++ pushR x v) (T2 := []) (by rw [List.append_nil, List.append_assoc]; exact S2) ly e2
  unfold gIx at q
  split at q
  · rename_i o xs i e1 e2
    split at q
    · rename_i d ei
      obtain ⟨p, vs, w, ev, h1, h2, h3⟩ := pick_ok S2 lx e1 ei q
      subst ev
      exact .inl ⟨p, vs, i, w, rfl, i2 i e2, SqL.of h1, h2, h3⟩
    · exact q.elim
  · rename_i o xs i e1 e2
    split at q
    · rename_i d ei
      obtain ⟨p, vs, w, ev, h1, h2, h3⟩ := pick_ok S2 lx e1 ei q
      subst ev
      exact .inl ⟨p, vs, i, w, rfl, i2 i e2, hK ▸ h1.seq, h2, h3⟩
    · exact q.elim
  · rename_i o xs i e1 e2
    split at q
    · rename_i d ei
      obtain ⟨p, vs, w, ev, h1, h2, h3⟩ := pick_ok S2 lx e1 ei q
      subst ev
      exact .inr (.inl ⟨p, vs, i, w, rfl, i2 i e2, SqT.of h1, h2, h3⟩)
    · exact q.elim
  · rename_i z i e1 e2
    split at q
    · rename_i hz
      split at q
      · rename_i c ec
        have a1 := opd_rep S2 lx e1
        exact .inr (.inr ⟨z, i, c, a1, i2 i e2, by rw [sizeLine_eq]; exact hz, ec, goes_val q ⟨ow, S2.drop⟩ rfl fun _ _ => rfl⟩)
      · exact q.elim
    · exact q.elim
  · exact q.elim

/-! ### a slice -/
def part (f : Option Ev) (r : Rho) (k : Option Int → Rho → EO) : EO := match f with
  | none => k none r
  | some f => (f r).bd fun y r' => match y with
    | .val (.int i) => k (some i) r'
    | _ => .bad
abbrev VO (X : Cx) (G : GX) (C : Fc) (W : WX) (e : Option Expr) (f : Option Ev) : Prop := ∃ t, PO X e t ∧ ∀ (r : Rho) (T T2 : List (D × V)) (s : L2.St) (H : Hp) (Q : VK) (K : Option Int → Hp → Prop) (k : Option Int → Rho → EO),
  StOk G C r (T ++ T2) s H → Goes G C W T s Q (part f r k) → (∀ i r1 H1, StOk G C r1 (T ++ T2) s H1 → Goes G C W T s Q (k i r1) → K i H1) → t s H K
theorem vo_none : VO X G C W none none := ⟨_, po_none, fun r T T2 s H Q K k S g h => h none r H S g⟩
theorem vo_some {e : Expr} (h : VE X G C W e fa) : VO X G C W (some e) (some fa) := by
  refine ⟨_, po_some h, fun r T T2 s H Q K k S g hk => ?_⟩
  refine oneX (k := fun y r' => match y with | .val (.int i) => k (some i) r' | _ => .bad) S g fun x v r1 H1 P g1 => ?_
  cases x with
  | loc i => exact g1.elim
  | val d =>
    cases d with
    | int i =>
      obtain ⟨ow, S'⟩ := P.1
      exact ⟨i, rep_int S'.last, hk (some i) r1 H1 P.any g1⟩
    | _ => exact g1.elim
def cutD (xs : List D) (lo hi : Option Int) : List D := (xs.drop (HT.sIx xs.length 0 lo)).take (HT.sIx xs.length xs.length hi - HT.sIx xs.length 0 lo)
def gSl (x : R) (lo hi : Option Int) (r : Rho) : EO := match opd r x with
  | some (.node .lst _ xs) => .ok (.val (.node .lst true (cutD (frzs xs) lo hi))) (touch r x)
  | some (.node .rd _ xs) => .ok (.val (.node .lst true (cutD (frzs xs) lo hi))) (touch r x)
  | some (.node .tup _ xs) => .ok (.val (.node .tup false (cutD (frzs xs) lo hi))) (touch r x)
  | _ => .bad
def cSl (fa : Ev) (lo hi : Option Ev) : Ev := fun r => (fa r).bd fun x r1 => part lo r1 fun l r2 => part hi r2 fun h r3 => gSl x l h r3
theorem frzs_take (xs : List D) (n : Nat) : frzs (xs.take n) = (frzs xs).take n := by rw [frzs_map, frzs_map, List.map_take]
theorem frzs_drop (xs : List D) (n : Nat) : frzs (xs.drop n) = (frzs xs).drop n := by rw [frzs_map, frzs_map, List.map_drop]
theorem Reps.cut {ds : List D} {l : Loc} {vs : List V} (e : VL.frzs ds = ds) (h : Reps G ow H ds l 0 vs) (lo hi : Option Int) : Reps G ow H (cutD ds lo hi) l 0 (cutV vs lo hi) ∧ VL.frzs (cutD ds lo hi) = cutD ds lo hi := by
  have hl := h.length
  unfold cutD cutV
  rw [← hl]
  generalize HT.sIx ds.length 0 lo = a
  generalize HT.sIx ds.length ds.length hi - a = b
  refine ⟨Reps.of_get (by simp [hl]) fun j d v q1 q2 => ?_, by rw [frzs_take, frzs_drop, e]⟩
  have hj : j < b := by
    have := (List.getElem?_eq_some_iff.mp q1).1
    simp at this; omega
  rw [List.getElem?_take_of_lt hj, List.getElem?_drop] at q1 q2
  obtain ⟨v', z1, z2⟩ := h.get (a + j) d q1
  rw [q2] at z1
  cases z1
  have f : VL.frz d = d := by
    have := congrArg (·[a + j]?) e
    simp only [frzs_map, List.getElem?_map, q1, Option.map_some] at this
    exact Option.some.inj this
  exact Rep.moveF d f (fun a o z q => ⟨z, q⟩) (fun _ _ z _ => z) z2
theorem StW.madeT {ds : List D} {vs : List V} {l : Loc} {i : Nat} {Q : VK} (S : StW G C ow r T s H) (e : frzs ds = ds) (h : Reps G ow H ds l i vs) (hq : ∀ v H', Post G C r T s H' (.val (.node .tup false ds)) v → Q v H') :
    ∀ p, H p = none → Q (.ref p) (upd H p (.tup vs)) := fun p hp =>
  hq _ _ ⟨StOk.alloc false ⟨ow, S.pushFs e h⟩ h.length hp holds_tup (fun z => nomatch z), trivial⟩
theorem ve_slice {a : Expr} {lo hi : Option Expr} {flo fhi : Option Ev} {p2 pos : Pos} (hK : G.K = X.K) (ha : VE X G C W a fa) (hl : VO X G C W lo flo) (hh : VO X G C W hi fhi) : VE X G C W (.Subscript a (.Slice lo hi none p2) pos) (cSl fa flo fhi) := by
  obtain ⟨tl, l1, l2⟩ := hl
  obtain ⟨th, h1, h2⟩ := hh
  refine PE.imp (pe_slice (sl_list.or sl_tupA) ha l1 h1) fun s H Q h => ?_
  obtain ⟨r, T, S, g⟩ := h
  refine one S g fun x v r1 H1 P g1 => ?_
  refine l2 r1 T (pushR x v) s H1 _ _ _ P.1 g1 fun lo' r2 H2 S2 g2 => ?_
  refine h2 r2 T (pushR x v) s H2 _ _ _ S2 g2 fun hi' r3 H3 S3 g3 => ?_
  obtain ⟨ow, S3⟩ := S3
  unfold gSl at g3
  split at g3
  · rename_i o xs e1
    obtain ⟨ow', p, vs, S', ev, h1, rx, _⟩ := S3.parts P.2 e1
    subst ev
    obtain ⟨c1, c2⟩ := (rx ⟨.fo, []⟩).cut (frzs_frzs xs) lo' hi'
    exact .inl ⟨p, vs, rfl, SqL.of h1, S'.made c2 c1 g3⟩
  · rename_i o xs e1
    obtain ⟨ow', p, vs, S', ev, h1, rx, _⟩ := S3.parts P.2 e1
    subst ev
    obtain ⟨c1, c2⟩ := (rx ⟨.fo, []⟩).cut (frzs_frzs xs) lo' hi'
    exact .inl ⟨p, vs, rfl, hK ▸ h1.seq, S'.made c2 c1 g3⟩
  · rename_i o xs e1
    obtain ⟨ow', p, vs, S', ev, h1, rx, _⟩ := S3.parts P.2 e1
    subst ev
    obtain ⟨c1, c2⟩ := (rx ⟨.fo, []⟩).cut (frzs_frzs xs) lo' hi'
    have l1 := (rx ⟨.fo, []⟩).length
    refine .inr ⟨p, vs, rfl, SqT.of h1, fun hw => ?_, fun _ => S'.madeT c2 c1 g3⟩
    have ec : cutD (frzs xs) lo' hi' = frzs xs := by
      unfold cutD
      rw [l1, hw.1, hw.2, List.drop_zero, Nat.sub_zero, ← l1, List.take_length]
    rw [ec] at g3
    have n : ow' p = none := by
      cases e : ow' p with
      | none => rfl
      | some l =>
        have m := S'.mu p l e
        rw [show H3 p = some (.tup vs) from h1] at m
        exact m.elim
    exact g3 _ _ ⟨⟨ow', S'.push ⟨p, vs, rfl, h1, n, rx _⟩⟩, trivial⟩
  · exact g3.elim
end
end VL

namespace VL
open PySem PySem.Spec PyProof.Rows L2

/-! ### arguments -/
inductive AO where
  | ok (xs : List R) (r : Rho) | exc (c : Nat) (r : Rho) | bad
abbrev Av := Rho → AO
def pushs : List R → List V → List (D × V)
  | x :: xs, v :: vs => pushR x v ++ pushs xs vs
  | _, _ => []
def LocsOk (s : L2.St) : List R → List V → Prop
  | [], [] => True
  | x :: xs, v :: vs => LocOk s v x ∧ LocsOk s xs vs
  | _, _ => False
def AO.bd (x : AO) (k : List R → Rho → EO) : EO := match x with
  | .ok y r => k y r
  | .exc c r => .exc c r
  | .bad => .bad
@[simp] theorem abd_ok (y : List R) (r : Rho) (k : List R → Rho → EO) : (AO.ok y r).bd k = k y r := rfl
@[simp] theorem abd_exc (c : Nat) (r : Rho) (k : List R → Rho → EO) : (AO.exc c r).bd k = .exc c r := rfl
@[simp] theorem abd_bad (k : List R → Rho → EO) : AO.bad.bd k = .bad := rfl
def cNil : Av := fun r => .ok [] r
def cCons (fa : Ev) (fs : Av) : Av := fun r => match fa r with
  | .ok x r1 => (match fs r1 with
    | .ok xs r2 => .ok (x :: xs) r2
    | .exc c r2 => .exc c r2
    | .bad => .bad)
  | .exc c r1 => .exc c r1
  | .bad => .bad
def opds (r : Rho) : List R → Option (List D)
  | [] => some []
  | x :: xs => match opd r x, opds r xs with
    | some d, some ds => some (d :: ds)
    | _, _ => none
def settles (r : Rho) : List R → Rho
  | [] => r
  | x :: xs => settles (settle r x) xs
section
variable {X : Cx} {G : GX} {C : Fc} {W : WX} {ow ow' : Ow} {r : Rho} {T T1 T2 : List (D × V)} {s : L2.St} {H H' : Hp} {fa fb fc : Ev} {fs : Av}
def tVA (G : GX) (C : Fc) (W : WX) (f : Av) : TA := fun s H Q => ∃ r T, StOk G C r T s H ∧ match f r with
  | .ok xs r' => ∀ vs H', StOk G C r' (T ++ pushs xs vs) s H' → LocsOk s xs vs → Q vs H'
  | .exc c r' => ∀ H', StOk G C r' T s H' → W (.ref (G c)) none s H'
  | .bad => False
abbrev VA (X : Cx) (G : GX) (C : Fc) (W : WX) (es : List Expr) (f : Av) : Prop := PA X es (tVA G C W f)
theorem PA.imp {es : List Expr} {t t' : TA} (h : PA X es t) (i : ∀ s H Q, t' s H Q → t s H Q) : PA X es t' := ⟨fun pos pins s σ H Q I w => h.run pos pins s σ H Q I (i _ _ _ w)⟩
theorem va_nil : VA X G C W [] cNil := by
  refine PA.imp pa_nil fun s H Q h => ?_
  obtain ⟨r, T, S, g⟩ := h
  exact g [] H (by simpa [pushs] using S) trivial
theorem va_cons {e : Expr} {es : List Expr} (he : VE X G C W e fa) (hr : VA X G C W es fs) (hs : starEach (e :: es) X.env = (false, eval e X.env) :: starEach es X.env := by rfl) : VA X G C W (e :: es) (cCons fa fs) := by
  refine PA.imp (pa_cons he hr hs) fun s H Q h => ?_
  obtain ⟨r, T, S, g⟩ := h
  refine ⟨r, T, S, ?_⟩
  unfold cCons at g
  cases e1 : fa r with
  | ok x r1 =>
    rw [e1] at g
    intro v H1 P
    refine ⟨r1, T ++ pushR x v, P.1, ?_⟩
    cases e2 : fs r1 with
    | ok xs r2 =>
      simp only [e2] at g
      intro vs H2 S2 l2
      exact g (v :: vs) H2 (by show StOk G C r2 (T ++ (pushR x v ++ pushs xs vs)) s H2; rw [← List.append_assoc]; exact S2) ⟨P.2, l2⟩
    | exc c r2 => simp only [e2] at g; exact fun H' S' => g H' S'.drop
    | bad => simp only [e2] at g
  | exc c r1 => rw [e1] at g; exact g
  | bad => rw [e1] at g; exact g
/-- arguments first -/
theorem many {k : List R → Rho → EO} {Q : VK} {K : List V → Hp → Prop} (S : StOk G C r (T ++ T2) s H) (h : Goes G C W T s Q ((fs r).bd k))
    (hk : ∀ xs vs r1 H1, StOk G C r1 (T ++ T2 ++ pushs xs vs) s H1 → LocsOk s xs vs → Goes G C W T s Q (k xs r1) → K vs H1) : tVA G C W fs s H K := by
  refine ⟨r, T ++ T2, S, ?_⟩
  cases e : fs r with
  | ok xs r1 =>
    rw [e] at h
    exact fun vs H1 S1 l1 => hk xs vs r1 H1 S1 l1 h
  | exc c r1 => rw [e] at h; exact fun H' S' => h H' S'.drop
  | bad => rw [e] at h; exact h

/-! ### all arguments are shared -/
theorem frz_opd_settle {x y : R} {d : D} (e : opd r y = some d) : ∃ d', opd (settle r x) y = some d' ∧ frz d' = frz d := by
  cases y with
  | val z => exact ⟨d, e, rfl⟩
  | loc j =>
    have q := opd_loc e
    cases x with
    | val z => exact ⟨d, e, rfl⟩
    | loc i =>
      by_cases hij : i = j
      · subst hij
        rw [settle_loc q]
        refine ⟨frz d, ?_, frz_frz d⟩
        show (match (r.set i (some (frz d)))[i]? with | some (some d) => some d | _ => none) = _
        rw [List.getElem?_set_self (List.getElem?_eq_some_iff.mp q).1]
      · refine ⟨d, ?_, rfl⟩
        cases q' : r[i]? with
        | none =>
          have z : settle r (.loc i) = r := by show (match r[i]? with | some (some d) => r.set i (some (frz d)) | _ => r) = _; rw [q']
          rw [z]; exact e
        | some o' =>
          cases o' with
          | none =>
            have z : settle r (.loc i) = r := by show (match r[i]? with | some (some d) => r.set i (some (frz d)) | _ => r) = _; rw [q']
            rw [z]; exact e
          | some d' =>
            rw [settle_loc q']
            show (match (r.set i (some (frz d')))[j]? with | some (some d) => some d | _ => none) = _
            rw [List.getElem?_set_ne hij, q]
theorem frzs_opds_settle {x : R} : ∀ {ys : List R} {ds : List D}, opds r ys = some ds → ∃ ds', opds (settle r x) ys = some ds' ∧ frzs ds' = frzs ds
  | [], ds, e => ⟨ds, e, rfl⟩
  | y :: ys, ds, e => by
    unfold opds at e
    cases e1 : opd r y with
    | none => rw [e1] at e; cases e
    | some d =>
      cases e2 : opds r ys with
      | none => rw [e1, e2] at e; cases e
      | some ds' =>
        rw [e1, e2] at e
        cases e
        obtain ⟨d1, h1, h2⟩ := frz_opd_settle (x := x) e1
        obtain ⟨ds1, h3, h4⟩ := frzs_opds_settle (x := x) e2
        refine ⟨d1 :: ds1, by unfold opds; rw [h1, h3], ?_⟩
        show frz d1 :: frzs ds1 = frz d :: frzs ds'
        rw [h2, h4]
theorem StW.settles : ∀ {xs : List R} {vs : List V} {ow : Ow} {r : Rho} {T : List (D × V)} {ds : List D}, StW G C ow r (T ++ pushs xs vs) s H → LocsOk s xs vs → opds r xs = some ds →
    ∃ ow', StW G C ow' (VL.settles r xs) T s H ∧ (∀ l i, Reps G ow' H (frzs ds) l i vs) ∧ (∀ a, ow a = none → ow' a = none) ∧ ∀ a l, ow' a = some l → ow a = some l
  | [], [], ow, r, T, ds, S, _, e => by
    cases e
    exact ⟨ow, by have z : StW G C ow r T s H := by (simpa [pushs] using S)
                  exact z, fun l i => rfl, fun _ h => h, fun _ _ h => h⟩
  | [], _ :: _, _, _, _, _, _, l, _ => l.elim
  | _ :: _, [], _, _, _, _, _, l, _ => l.elim
  | x :: xs, v :: vs, ow, r, T, ds, S, l, e => by
    unfold opds at e
    cases e1 : opd r x with
    | none => rw [e1] at e; cases e
    | some d =>
      cases e2 : opds r xs with
      | none => rw [e1, e2] at e; cases e
      | some ds' =>
        rw [e1, e2] at e
        cases e
        cases x with
        | val d0 =>
          cases e1
          have S1 := StW.frzTm (T1 := T) (T2 := pushs xs vs) (d := d) (v := v) S
          have S2 : StW G C (VL.free ow (.tm T.length)) r ((T ++ [(frz d, v)]) ++ pushs xs vs) s H := by simpa using S1
          obtain ⟨ow', S3, h1, h2, h3⟩ := StW.settles S2 l.2 e2
          refine ⟨ow', S3.drop, fun l' i => ⟨v, vs, rfl, ?_, h1 _ _⟩, fun a q => h2 a (free_none q), fun a m q => (of_free (h3 a m q)).1⟩
          have z := S3.tm T.length (frz d) v (by simp)
          exact Rep.moveF _ (frz_frz d) (fun a o z q => ⟨z, q⟩) (fun _ _ z _ => z) z
        | loc i =>
          have q := opd_loc e1
          have S1 : StW G C ow r (T ++ pushs xs vs) s H := by simpa [pushs, pushR] using S
          have S2 := S1.frzSl q
          have hs : settle r (.loc i) = r.set i (some (frz d)) := settle_loc q
          obtain ⟨ds1, g1, g2⟩ := frzs_opds_settle (x := .loc i) e2
          rw [hs] at g1
          obtain ⟨ow', S3, h1, h2, h3⟩ := StW.settles S2 l.2 g1
          refine ⟨ow', by show StW G C ow' (VL.settles (settle r (.loc i)) xs) T s H; rw [hs]; exact S3, fun l' j => ⟨v, vs, rfl, ?_, ?_⟩, fun a q => h2 a (free_none q), fun a m q => (of_free (h3 a m q)).1⟩
          · obtain ⟨v', z1, z2⟩ := S2.sl i (frz d) (by rw [List.getElem?_set_self (List.getElem?_eq_some_iff.mp q).1])
            have h' : s[i]? = some (some v) := l.1
            rw [h'] at z1
            cases z1
            exact Rep.moveF _ (frz_frz d) (fun a o z q => ⟨z, h2 a q⟩) (fun _ _ z _ => z) z2
          · rw [g2] at h1
            exact h1 _ _
theorem LocsOk.length {s : L2.St} : ∀ {xs : List R} {vs : List V}, LocsOk s xs vs → xs.length = vs.length
  | [], [], _ => rfl
  | [], _ :: _, l => l.elim
  | _ :: _, [], l => l.elim
  | _ :: xs, _ :: vs, l => by simp [LocsOk.length l.2]

/-! ### displays -/
def valsR : List R → Option (List D)
  | [] => some []
  | .val d :: xs => (match valsR xs with
    | some ds => some (d :: ds)
    | none => none)
  | .loc _ :: _ => none
theorem pushs_vals : ∀ {xs : List R} {vs : List V} {ds : List D}, LocsOk s xs vs → valsR xs = some ds → pushs xs vs = ds.zip vs ∧ ds.length = vs.length
  | [], [], _, _, e => by cases e; exact ⟨rfl, rfl⟩
  | [], _ :: _, _, l, _ => l.elim
  | _ :: _, [], _, l, _ => l.elim
  | .val d :: xs, v :: vs, ds, l, e => by
    unfold valsR at e
    cases e2 : valsR xs with
    | none => rw [e2] at e; cases e
    | some ds' =>
      rw [e2] at e
      cases e
      obtain ⟨h1, h2⟩ := pushs_vals l.2 e2
      refine ⟨?_, by simp [h2]⟩
      show [(d, v)] ++ pushs xs vs = _
      rw [h1]
      rfl
  | .loc _ :: _, _ :: _, _, _, e => by cases e
def cLst (fs : Av) : Ev := fun r => (fs r).bd fun xs r1 => match valsR xs with
  | some ds => if ds.length ≤ 16777216 then .ok (.val (.node .lst true ds)) r1 else .bad
  | none => .bad
def cTup (fs : Av) : Ev := fun r => (fs r).bd fun xs r1 => match valsR xs with
  | some ds => if ds.length ≤ 16777216 then .ok (.val (.node .tup false ds)) r1 else .bad
  | none => .bad
theorem ve_lst {es : List Expr} {pos : Pos} (h : VA X G C W es fs) : VE X G C W (.List es pos) (cLst fs) := by
  refine PE.imp (pe_lst h) fun s H Q h => ?_
  obtain ⟨r, T, S, g⟩ := h
  refine many (T2 := []) (by simpa using S) g fun xs vs r1 H1 S1 l1 g1 => ?_
  cases e : valsR xs with
  | none => simp only [e] at g1; exact g1.elim
  | some ds =>
    simp only [e] at g1
    split at g1
    · rename_i hz
      obtain ⟨p1, p2⟩ := pushs_vals l1 e
      rw [p1, List.append_nil] at S1
      exact ⟨by rw [← p2, sizeLine_eq]; exact hz, fun p hp => g1 _ _ ⟨StOk.alloc true S1 p2 hp holds_lst (fun _ => trivial), trivial⟩⟩
    · exact g1.elim
theorem ve_tup {es : List Expr} {k : Nat} {pos : Pos} (h : VA X G C W es fs) : VE X G C W (.Tuple es k pos) (cTup fs) := by
  refine PE.imp (pe_tup h) fun s H Q h => ?_
  obtain ⟨r, T, S, g⟩ := h
  refine many (T2 := []) (by simpa using S) g fun xs vs r1 H1 S1 l1 g1 => ?_
  cases e : valsR xs with
  | none => simp only [e] at g1; exact g1.elim
  | some ds =>
    simp only [e] at g1
    split at g1
    · rename_i hz
      obtain ⟨p1, p2⟩ := pushs_vals l1 e
      rw [p1, List.append_nil] at S1
      exact ⟨by rw [← p2, sizeLine_eq]; exact hz, fun p hp => g1 _ _ ⟨StOk.alloc false S1 p2 hp holds_tup (fun z => nomatch z), trivial⟩⟩
    · exact g1.elim

/-! ### built-in functions -/
/-- the call does what g says: of operands, perhaps a name's own thing -/
def CallS (X : Cx) (f : Value) (g : List R → Rho → EO) : Prop := ∃ rr, CallR X f rr ∧ ∀ (G : GX) (hG : G.K = X.K) (C : Fc) (W : WX) (r : Rho) (T : List (D × V)) (s : L2.St) (H : Hp) (xs : List R) (vs : List V) (Q : VK),
  StOk G C r (T ++ pushs xs vs) s H → LocsOk s xs vs → Goes G C W T s Q (g xs r) → rr vs H Q
def cB (g : List R → Rho → EO) (fs : Av) : Ev := fun r => (fs r).bd g
section
variable {x : Str} {p pos : Pos} {e : Expr} {es : List Expr} {id TT : String}
theorem ve_callB {g : List R → Rho → EO} (hK : G.K = X.K) (hc : CallS X (.builtin id) g) (hg : Gl X x) (hm : X.mg x = none) (hv : bootBuiltins x = some (.builtin id)) (ha : VA X G C W (e :: es) fs) (hn : x ≠ "__name__" := by decide) (hdb : (x == ("__debug__" : Str)) = false := by decide)
    (he : starEach (e :: es) X.env = (false, eval e X.env) :: starEach es X.env := by rfl) (hpl : (backTo pos (starEach es X.env)).any (·.1) = false := by rfl) : VE X G C W (.Call (.Name x p) (e :: es) [] pos) (cB g fs) := by
  obtain ⟨rr, h1, h2⟩ := hc
  refine PE.imp (pe_callB h1 hg hm hv ha hn hdb he hpl) fun s H Q h => ?_
  obtain ⟨r, T, S, g⟩ := h
  exact many (T2 := []) (by simpa using S) g fun xs vs r1 H1 S1 l1 g1 => h2 G hK C W r1 T s H1 xs vs Q (by simpa using S1) l1 g1
theorem ve_callTy {g : List R → Rho → EO} (hK : G.K = X.K) (hc : CallS X (.type TT) g) (hg : Gl X x) (hm : X.mg x = none) (hv : bootBuiltins x = some (.type TT)) (ha : VA X G C W (e :: es) fs) (hn : x ≠ "__name__" := by decide) (hdb : (x == ("__debug__" : Str)) = false := by decide)
    (he : starEach (e :: es) X.env = (false, eval e X.env) :: starEach es X.env := by rfl) (hpl : (backTo pos (starEach es X.env)).any (·.1) = false := by rfl) : VE X G C W (.Call (.Name x p) (e :: es) [] pos) (cB g fs) := by
  obtain ⟨rr, h1, h2⟩ := hc
  refine PE.imp (pe_callTy h1 hg hm hv ha hn hdb he hpl) fun s H Q h => ?_
  obtain ⟨r, T, S, g⟩ := h
  exact many (T2 := []) (by simpa using S) g fun xs vs r1 H1 S1 l1 g1 => h2 G hK C W r1 T s H1 xs vs Q (by simpa using S1) l1 g1
end
/-- of one operand, a scalar -/
def b1 (f : D → Option D) : List R → Rho → EO := fun xs r => match xs with
  | [x] => (match opd r x with
    | some d => (match f d with
      | some z => if atom z = true then .ok (.val z) r else .bad
      | none => .bad)
    | none => .bad)
  | _ => .bad
theorem one_arg {x : R} {vs : List V} (l : LocsOk s [x] vs) : ∃ v, vs = [v] ∧ LocOk s v x ∧ pushs [x] vs = pushR x v := by
  cases vs with
  | nil => exact l.elim
  | cons v vs =>
    cases vs with
    | nil => exact ⟨v, rfl, l.1, by simp [pushs]⟩
    | cons _ _ => exact l.2.elim
theorem CallS.scal {f : Value} {rr : List V → Hp → VK → Prop} {g : D → Option D} (h : CallR X f rr)
    (hr : ∀ (G : GX) (hG : G.K = X.K) (ow : Ow) (H : Hp) (d z : D) (l : Loc) (v : V) (Q : VK), Rep G ow H d l v → g d = some z → (∀ w, (∀ ow l, Rep G ow H z l w) → Q w H) → rr [v] H Q) : CallS X f (b1 g) := by
  refine ⟨rr, h, fun G hG C W r T s H xs vs Q S l q => ?_⟩
  unfold b1 at q
  split at q
  · rename_i x
    obtain ⟨v, ev, lx, ep⟩ := one_arg l
    rw [ep] at S
    subst ev
    obtain ⟨ow, S⟩ := S
    cases e1 : opd r x with
    | none => simp only [e1] at q; exact q.elim
    | some d =>
      simp only [e1] at q
      cases e2 : g d with
      | none => simp only [e2] at q; exact q.elim
      | some z =>
        simp only [e2] at q
        split at q
        · rename_i a
          refine hr G hG ow H d z _ v Q (opd_rep (T2 := []) (by rw [List.append_nil]; exact S) lx e1) e2 fun w hw => ?_
          exact q w H ⟨StOk.pushA ⟨ow, S.drop⟩ a hw, trivial⟩
        · exact q.elim
  · exact q.elim
def lenD : D → Option D
  | .node .lst _ xs => some (.int xs.length)
  | .node .rd _ xs => some (.int xs.length)
  | .node .tup _ xs => some (.int xs.length)
  | .str z => if z.length ≤ 16777216 then some (.int z.length) else none
  | _ => none
theorem cs_len : CallS X (.builtin "len") (b1 lenD) := by
  refine CallS.scal call_len fun G hG ow H d z l v Q h e q => ?_
  cases d with
  | node k o xs =>
    obtain ⟨a, vs, ev, h1, h2, h3⟩ := h
    subst ev
    have hl := h3.length
    cases k with
    | lst => cases e; exact ⟨_, vs.length, rfl, .inl ⟨vs, SqL.of h1, rfl⟩, by rw [← hl]; exact q _ fun _ _ => rfl⟩
    | rd => cases e; exact ⟨_, vs.length, rfl, .inl ⟨vs, hG ▸ h1.seq, rfl⟩, by rw [← hl]; exact q _ fun _ _ => rfl⟩
    | tup => cases e; exact ⟨_, vs.length, rfl, .inr ⟨vs, SqT.of h1, rfl⟩, by rw [← hl]; exact q _ fun _ _ => rfl⟩
    | _ => cases e
  | str x =>
    have ev := rep_str h
    subst ev
    simp only [lenD] at e
    split at e
    · cases e; exact ⟨_, x.length, rfl, ⟨by rw [sizeLine_eq]; assumption, rfl⟩, q _ fun _ _ => rfl⟩
    · cases e
  | _ => cases e
/-- a new list of the operand's parts -/
def gListOf : List R → Rho → EO := fun xs r => match xs with
  | [x] => (match opd r x with
    | some (.node .lst _ xs) => .ok (.val (.node .lst true (frzs xs))) (touch r x)
    | some (.node .rd _ xs) => .ok (.val (.node .lst true (frzs xs))) (touch r x)
    | some (.node .tup _ xs) => .ok (.val (.node .lst true (frzs xs))) (touch r x)
    | _ => .bad)
  | _ => .bad
theorem cs_list : CallS X (.type "list") gListOf := by
  refine ⟨_, call_list_of, fun G hG C W r T s H xs vs Q S l q => ?_⟩
  unfold gListOf at q
  split at q
  · rename_i x
    obtain ⟨v, ev, lx, ep⟩ := one_arg l
    rw [ep] at S
    subst ev
    obtain ⟨ow, S⟩ := S
    split at q
    · rename_i o xs e1
      obtain ⟨ow', p, vs, S', ev, h1, rx, _⟩ := S.parts lx e1
      subst ev
      exact ⟨p, vs, rfl, .inl (SqL.of h1), S'.made (frzs_frzs xs) (rx ⟨.fo, []⟩) q⟩
    · rename_i o xs e1
      obtain ⟨ow', p, vs, S', ev, h1, rx, _⟩ := S.parts lx e1
      subst ev
      exact ⟨p, vs, rfl, .inl (hG ▸ h1.seq), S'.made (frzs_frzs xs) (rx ⟨.fo, []⟩) q⟩
    · rename_i o xs e1
      obtain ⟨ow', p, vs, S', ev, h1, rx, _⟩ := S.parts lx e1
      subst ev
      exact ⟨p, vs, rfl, .inr (SqT.of h1), S'.made (frzs_frzs xs) (rx ⟨.fo, []⟩) q⟩
    · exact q.elim
  · exact q.elim
/-- two ints -/
def b2 (f : Int → Int → Int) : List R → Rho → EO := fun xs r => match xs with
  | [x, y] => (match opd r x, opd r y with
    | some (.int i), some (.int j) => .ok (.val (.int (f i j))) r
    | _, _ => .bad)
  | _ => .bad
theorem cs_int2 {f : Value} {g : Int → Int → Int} (h : CallR X f (fun xs H Q => ∃ i j, xs = [.int i, .int j] ∧ Q (.int (g i j)) H)) : CallS X f (b2 g) := by
  refine ⟨_, h, fun G hG C W r T s H xs vs Q S l q => ?_⟩
  unfold b2 at q
  split at q
  · rename_i x y
    cases vs with
    | nil => exact l.elim
    | cons v vs =>
      cases vs with
      | nil => exact l.2.elim
      | cons u vs =>
        cases vs with
        | cons _ _ => exact l.2.2.elim
        | nil =>
          obtain ⟨ow, S⟩ := S
          have S' : StW G C ow r (T ++ (pushR x v ++ pushR y u)) s H := by simpa [pushs] using S
          split at q
          · rename_i i j e1 e2
            have a1 := opd_rep S' l.1 e1
            have a2 := opd_rep (T := T ++ pushR x v) (T2 := []) (by rw [List.append_nil, List.append_assoc]; exact S') l.2.1 e2
            exact ⟨i, j, by rw [show v = .int i from a1, show u = .int j from a2], goes_val q ⟨ow, S.drop⟩ rfl fun _ _ => rfl⟩
          · exact q.elim
  · exact q.elim
def gMax2 := b2 fun i j => if j > i then j else i
def gMin2 := b2 fun i j => if j < i then j else i
theorem cs_max2 (hc : X.calm = true) : CallS X (.builtin "max") gMax2 := cs_int2 (call_max2 hc)
theorem cs_min2 (hc : X.calm = true) : CallS X (.builtin "min") gMin2 := cs_int2 (call_min2 hc)
def absD : D → Option D
  | .int i => some (.int (if i < 0 then -i else i))
  | _ => none
theorem cs_abs : CallS X (.builtin "abs") (b1 absD) := by
  refine CallS.scal call_abs fun G hG ow H d z l v Q h e q => ?_
  cases d with
  | int i => cases e; exact ⟨i, by rw [rep_int h], q _ fun _ _ => rfl⟩
  | _ => cases e
def intD : D → Option D
  | .int i => some (.int i)
  | .bl k => some (.int (if k then 1 else 0))
  | _ => none
theorem cs_int : CallS X (.type "int") (b1 intD) := by
  refine CallS.scal call_int1 fun G hG ow H d z l v Q h e q => ?_
  cases d with
  | int i => cases e; exact .inl ⟨i, by rw [rep_int h], q _ fun _ _ => rfl⟩
  | bl k => cases e; exact .inr ⟨k, by rw [rep_bl h], q _ fun _ _ => rfl⟩
  | _ => cases e
/-- the ints of a list -/
def intsOf : List D → Option (List Int)
  | [] => some []
  | .int i :: ds => (match intsOf ds with
    | some ns => some (i :: ns)
    | none => none)
  | _ :: _ => none
theorem ints_rep : ∀ {ds : List D} {ns : List Int} {l : Loc} {i : Nat} {vs : List V}, intsOf ds = some ns → Reps G ow H ds l i vs → vs = ns.map V.int
  | [], _, _, _, vs, e, h => by
    cases e
    exact h
  | d :: ds, ns, l, i, vs, e, h => by
    obtain ⟨v, ws, ev, h1, h2⟩ := h
    cases d with
    | int n =>
      unfold intsOf at e
      cases e2 : intsOf ds with
      | none => rw [e2] at e; cases e
      | some ns' =>
        rw [e2] at e
        cases e
        rw [ev, rep_int h1, ints_rep e2 h2]
        rfl
    | _ => cases e
theorem intsOf_eq : ∀ {ds : List D} {ns : List Int}, intsOf ds = some ns → ds = ns.map D.int
  | [], _, e => by cases e; rfl
  | d :: ds, ns, e => by
    cases d with
    | int n =>
      unfold intsOf at e
      cases e2 : intsOf ds with
      | none => rw [e2] at e; cases e
      | some ns' =>
        rw [e2] at e
        cases e
        rw [intsOf_eq e2]
        rfl
    | _ => cases e
theorem intsOf_map (ns : List Int) : intsOf (ns.map D.int) = some ns := by
  induction ns with
  | nil => rfl
  | cons n ns ih => show (match intsOf (ns.map D.int) with | some ms => some (n :: ms) | none => none) = _; rw [ih]
def sumD : D → Option D
  | .node .lst _ xs => (intsOf xs).map fun ns => .int ns.sum
  | .node .rd _ xs => (intsOf xs).map fun ns => .int ns.sum
  | _ => none
theorem cs_sum (hc : X.calm = true) : CallS X (.builtin "sum") (b1 sumD) := by
  refine CallS.scal (cr_sum hc) fun G hG ow H d z l v Q h e q => ?_
  cases d with
  | node k o xs =>
    obtain ⟨a, vs, ev, h1, h2, h3⟩ := h
    cases k with
    | lst =>
      simp only [sumD] at e
      cases e2 : intsOf xs with
      | none => rw [e2] at e; cases e
      | some ns =>
        rw [e2] at e
        cases e
        exact ⟨a, ns, by rw [ev], by rw [← ints_rep e2 h3]; exact SqL.of h1, q _ fun _ _ => rfl⟩
    | rd =>
      simp only [sumD] at e
      cases e2 : intsOf xs with
      | none => rw [e2] at e; cases e
      | some ns =>
        rw [e2] at e
        cases e
        exact ⟨a, ns, by rw [ev], by rw [← ints_rep e2 h3]; exact hG ▸ h1.seq, q _ fun _ _ => rfl⟩
    | _ => cases e
  | _ => cases e
end
end VL

namespace VL
open PySem PySem.Spec PyProof.Rows L2

inductive SO where
  | nx (r : Rho) | rt (x : R) (r : Rho) | bk (r : Rho) | ct (r : Rho) | exc (c : Nat) (r : Rho) | bad
abbrev Sv := Rho → SO
def EO.st (x : EO) (k : R → Rho → SO) : SO := match x with
  | .ok y r => k y r
  | .exc c r => .exc c r
  | .bad => .bad
@[simp] theorem st_ok (y : R) (r : Rho) (k : R → Rho → SO) : (EO.ok y r).st k = k y r := rfl
@[simp] theorem st_exc (c : Nat) (r : Rho) (k : R → Rho → SO) : (EO.exc c r).st k = .exc c r := rfl
@[simp] theorem st_bad (k : R → Rho → SO) : EO.bad.st k = .bad := rfl
def GoesS (G : GX) (C : Fc) (W : WX) (T : List (D × V)) (D : Ends) (o : SO) : Prop := match o with
  | .nx r' => ∀ s' H', StOk G C r' T s' H' → D.nx s' H'
  | .rt x r' => ∀ s' v H', Post G C r' T s' H' x v → D.rt v H'
  | .bk r' => ∀ s' H', StOk G C r' T s' H' → D.bk s' H'
  | .ct r' => ∀ s' H', StOk G C r' T s' H' → D.ct s' H'
  | .exc c r' => ∀ s' H', StOk G C r' T s' H' → W (.ref (G c)) none s' H'
  | .bad => False
def tVS (G : GX) (C : Fc) (W : WX) (f : Sv) : TS := fun D s H => ∃ r T, StOk G C r T s H ∧ GoesS G C W T D (f r)
abbrev VS (X : Cx) (G : GX) (C : Fc) (W : WX) (st : Stmt) (f : Sv) : Prop := PS X st (tVS G C W f)
abbrev VSs (X : Cx) (G : GX) (C : Fc) (W : WX) (st : List Stmt) (f : Sv) : Prop := PSs X st (tVS G C W f)
section
variable {X : Cx} {G : GX} {C : Fc} {W : WX} {ow ow' : Ow} {r : Rho} {T T1 T2 : List (D × V)} {s : L2.St} {H H' : Hp} {fa fb fc : Ev} {f g : Sv}
theorem PS.imp {st : Stmt} {t t' : TS} (h : PS X st t) (i : ∀ D s H, t' D s H → t D s H) : PS X st t' := ⟨fun pins s σ H D I w => h.run pins s σ H D I (i _ _ _ w)⟩
theorem PSs.imp {st : List Stmt} {t t' : TS} (h : PSs X st t) (i : ∀ D s H, t' D s H → t D s H) : PSs X st t' := ⟨fun pins s σ H D I w => h.run pins s σ H D I (i _ _ _ w)⟩
/-- an expression within a statement -/
theorem oneS {k : R → Rho → SO} {D : Ends} {K : V → Hp → Prop} (S : StOk G C r T s H) (h : GoesS G C W T D ((fa r).st k))
    (hk : ∀ x v r1 H1, Post G C r1 T s H1 x v → GoesS G C W T D (k x r1) → K v H1) : tV G C W fa s H K := by
  refine ⟨r, T, S, ?_⟩
  cases e : fa r with
  | ok x r1 => rw [e] at h; exact fun v H1 P => hk x v r1 H1 P h
  | exc c r1 => rw [e] at h; exact fun H' S' => h s H' S'
  | bad => rw [e] at h; exact h

/-! ### blocks -/
def cSkip : Sv := fun r => .nx r
def SO.sq (x : SO) (g : Sv) : SO := match x with
  | .nx r => g r
  | o => o
@[simp] theorem sq_nx (r : Rho) (g : Sv) : (SO.nx r).sq g = g r := rfl
@[simp] theorem sq_rt (x : R) (r : Rho) (g : Sv) : (SO.rt x r).sq g = .rt x r := rfl
@[simp] theorem sq_bk (r : Rho) (g : Sv) : (SO.bk r).sq g = .bk r := rfl
@[simp] theorem sq_ct (r : Rho) (g : Sv) : (SO.ct r).sq g = .ct r := rfl
@[simp] theorem sq_exc (c : Nat) (r : Rho) (g : Sv) : (SO.exc c r).sq g = .exc c r := rfl
@[simp] theorem sq_bad (g : Sv) : SO.bad.sq g = .bad := rfl
def cSeq (f g : Sv) : Sv := fun r => (f r).sq g
theorem vss_nil : VSs X G C W [] cSkip := PSs.imp pss_nil fun D s H ⟨r, T, S, h⟩ => h s H S
theorem vss_cons {st : Stmt} {rest : List Stmt} (h1 : VS X G C W st f) (h2 : VSs X G C W rest g) : VSs X G C W (st :: rest) (cSeq f g) := by
  refine PSs.imp (pss_cons h1 h2) fun D s H h => ?_
  obtain ⟨r, T, S, h⟩ := h
  refine ⟨r, T, S, ?_⟩
  unfold cSeq at h
  cases e : f r with
  | nx r1 => rw [e] at h; exact fun s' H' S' => ⟨r1, T, S', h⟩
  | rt x r1 => rw [e] at h; exact h
  | bk r1 => rw [e] at h; exact h
  | ct r1 => rw [e] at h; exact h
  | exc c r1 => rw [e] at h; exact h
  | bad => rw [e] at h; exact h
theorem vss_one {st : Stmt} (h1 : VS X G C W st f) : VSs X G C W [st] f := pss_one h1
theorem vs_pass {pos : Pos} : VS X G C W (.Pass pos) cSkip := PS.imp ps_pass fun D s H ⟨r, T, S, h⟩ => h s H S
def cBrk : Sv := fun r => .bk r
def cCnt : Sv := fun r => .ct r
theorem vs_break {pos : Pos} : VS X G C W (.Break pos) cBrk := PS.imp ps_break fun D s H ⟨r, T, S, h⟩ => h s H S
theorem vs_continue {pos : Pos} : VS X G C W (.Continue pos) cCnt := PS.imp ps_continue fun D s H ⟨r, T, S, h⟩ => h s H S
def cExpr (fa : Ev) : Sv := fun r => (fa r).st fun _ r1 => .nx r1
theorem vs_expr {e : Expr} {pos : Pos} (he : VE X G C W e fa) (hs : swapsWith e none pos.line X.env = pure false := by rfl) : VS X G C W (.Expr e pos) (cExpr fa) := by
  refine PS.imp (ps_expr he hs) fun D s H h => ?_
  obtain ⟨r, T, S, h⟩ := h
  exact oneS S h fun x v r1 H1 P h1 => h1 s H1 P.any
def cRet (fa : Ev) : Sv := fun r => (fa r).st fun x r1 => .rt x r1
theorem vs_ret {e : Expr} {pos : Pos} (he : VE X G C W e fa) : VS X G C W (.Return (some e) pos) (cRet fa) := by
  refine PS.imp (ps_ret he) fun D s H h => ?_
  obtain ⟨r, T, S, h⟩ := h
  exact oneS S h fun x v r1 H1 P h1 => h1 s v H1 P
def cRetN : Sv := fun r => .rt (.val .non) r
theorem vs_retN {pos : Pos} : VS X G C W (.Return none pos) cRetN := PS.imp ps_retN fun D s H ⟨r, T, S, h⟩ => h s .non H ⟨S.pushN, trivial⟩
def cIfS (ft : Ev) (f g : Sv) : Sv := fun r => (ft r).st fun x r1 => match x with
  | .val (.bl true) => f r1
  | .val (.bl false) => g r1
  | _ => .bad
theorem vs_if {c : Expr} {a b : List Stmt} {pos : Pos} (hc : VT X G C W c fc) (ha : VSs X G C W a f) (hb : VSs X G C W b g) : VS X G C W (.If c a b pos) (cIfS fc f g) := by
  refine PS.imp (ps_if hc ha hb) fun D s H h => ?_
  obtain ⟨r, T, S, h⟩ := h
  refine ⟨r, T, S, ?_⟩
  unfold cIfS at h
  cases e : fc r with
  | ok x r1 =>
    rw [e] at h
    simp only [st_ok] at h
    cases x with
    | loc i => exact h.elim
    | val d =>
      cases d with
      | bl b =>
        cases b with
        | true => exact fun H' S' => (if_pos rfl).mpr ⟨r1, T, S', h⟩
        | false => exact fun H' S' => (if_neg Bool.false_ne_true).mpr ⟨r1, T, S', h⟩
      | _ => exact h.elim
  | exc c r1 => rw [e] at h; exact fun H' S' => h s H' S'
  | bad => rw [e] at h; exact h

/-! ### names are given things -/
/-- the first of the last temporaries goes to slot i; the others move up -/
def movedM (ow : Ow) (n i : Nat) : Ow := fun a => match ow a with
  | some ⟨.tm j, p⟩ => if j = n then some ⟨.sl i, p⟩ else if n < j then some ⟨.tm (j - 1), p⟩ else some ⟨.tm j, p⟩
  | some ⟨.sl j, p⟩ => if j = i then none else some ⟨.sl j, p⟩
  | x => x
theorem StW.setM {i : Nat} {d : D} {v : V} (S : StW G C ow r (T ++ (d, v) :: T2) s H) (hp : ∀ p ∈ C.pin, p.1 ≠ i) : StW G C (movedM ow T.length i) (r.set i (some d)) (T ++ T2) (s.set i (some v)) H where
  len := by simpa using S.len
  sl := fun j d' q => by
    by_cases hj : j = i
    · subst hj
      have hlt : j < r.length := by
        have := (List.getElem?_eq_some_iff.mp q).1
        simpa using this
      rw [List.getElem?_set_self hlt] at q
      cases q
      refine ⟨v, by rw [List.getElem?_set_self (by rw [← S.len]; exact hlt)], ?_⟩
      have z := S.tm T.length d v (by simp)
      refine Rep.mono (l := ⟨.tm T.length, []⟩) d (fun _ _ z _ => z) (fun _ _ z _ => z) (fun a o _ n => by unfold movedM; rw [n]) (fun a o q _ n => ?_) z
      have n' : ow a = some ⟨.tm T.length, [] ++ q⟩ := n
      unfold movedM
      rw [n']
      simp [Loc.app]
    · rw [List.getElem?_set_ne (Ne.symm hj)] at q
      obtain ⟨v', h1, h2⟩ := S.sl j d' q
      refine ⟨v', by rw [List.getElem?_set_ne (Ne.symm hj)]; exact h1, ?_⟩
      refine Rep.mono (l := ⟨.sl j, []⟩) d' (fun _ _ z _ => z) (fun _ _ z _ => z) (fun a o _ n => by unfold movedM; rw [n]) (fun a o q _ n => ?_) h2
      have n' : ow a = some ⟨.sl j, [] ++ q⟩ := n
      unfold movedM
      rw [n']
      simp [Loc.app, hj]
  tm := fun k d' v' q => by
    by_cases hk : k < T.length
    · rw [List.getElem?_append_left hk] at q
      have z := S.tm k d' v' (by rw [List.getElem?_append_left hk]; exact q)
      refine Rep.mono (l := ⟨.tm k, []⟩) d' (fun _ _ z _ => z) (fun _ _ z _ => z) (fun a o _ n => by unfold movedM; rw [n]) (fun a o q _ n => ?_) z
      have n' : ow a = some ⟨.tm k, [] ++ q⟩ := n
      unfold movedM
      rw [n']
      have h1 : ¬ k = T.length := by omega
      have h2 : ¬ T.length < k := by omega
      simp [Loc.app, h1, h2]
    · rw [List.getElem?_append_right (by omega)] at q
      have z := S.tm (k + 1) d' v' (by
        rw [List.getElem?_append_right (by omega), show k + 1 - T.length = (k - T.length) + 1 by omega]
        simpa using q)
      refine Rep.mono (l := ⟨.tm (k + 1), []⟩) d' (fun _ _ z _ => z) (fun _ _ z _ => z) (fun a o _ n => by unfold movedM; rw [n]) (fun a o q _ n => ?_) z
      have n' : ow a = some ⟨.tm (k + 1), [] ++ q⟩ := n
      unfold movedM
      rw [n']
      have h1 : ¬ k + 1 = T.length := by omega
      have h2 : T.length < k + 1 := by omega
      simp [Loc.app, h1, h2]
  old := S.old
  own := fun a l q => by
    cases e : ow a with
    | none => unfold movedM at q; rw [e] at q; cases q
    | some m =>
      obtain ⟨mb, mp⟩ := m
      cases mb with
      | fo =>
        unfold movedM at q; rw [e] at q; cases q
        exact .inl rfl
      | sl j => exact (S.own a _ e).elim (fun z => nomatch z) .inr
      | tm j => exact (S.own a _ e).elim (fun z => nomatch z) .inr
  fo := fun a q => by
    have z := S.fo a q
    unfold movedM; rw [z]
  mu := fun a l q => by
    cases e : ow a with
    | none => unfold movedM at q; rw [e] at q; cases q
    | some m => exact S.mu a m e
  pin := fun p hm => by
    rw [List.getElem?_set_ne (Ne.symm (hp p hm))]
    exact S.pin p hm
/-- the last temporary, a tuple, falls into its parts -/
def spread (ow : Ow) (n : Nat) : Ow := fun a => match ow a with
  | some ⟨.tm j, p⟩ => if j < n then some ⟨.tm j, p⟩ else if j = n then (match p with
    | k :: p' => some ⟨.tm (n + k), p'⟩
    | [] => none) else none
  | x => x
theorem StW.spread {k : Kd} {o : Bool} {ds : List D} {v : V} (S : StW G C ow r (T ++ [(.node k o ds, v)]) s H) : ∃ a vs, v = .ref a ∧ Holds G H a k vs ∧ ds.length = vs.length ∧ StW G C (VL.spread ow T.length) r (T ++ ds.zip vs) s H := by
  obtain ⟨a, vs, ev, h1, h2, h3⟩ := S.last
  refine ⟨a, vs, ev, h1, h3.length, S.len, fun i d q => ?_, fun j d v q => ?_, S.old, fun b l q => ?_, fun b q => ?_, fun b l q => ?_, S.pin⟩
  · obtain ⟨v', z1, z2⟩ := S.sl i d q
    refine ⟨v', z1, Rep.mono (l := ⟨.sl i, []⟩) d (fun _ _ z _ => z) (fun _ _ z _ => z) (fun a o _ n => by unfold VL.spread; rw [n]) (fun a o q _ n => ?_) z2⟩
    have n' : ow a = some ⟨.sl i, [] ++ q⟩ := n
    unfold VL.spread
    rw [n']
    rfl
  · by_cases hj : j < T.length
    · rw [List.getElem?_append_left hj] at q
      have z := S.tm j d v (by rw [List.getElem?_append_left hj]; exact q)
      refine Rep.mono (l := ⟨.tm j, []⟩) d (fun _ _ z _ => z) (fun _ _ z _ => z) (fun a o _ n => by unfold VL.spread; rw [n]) (fun a o q _ n => ?_) z
      have n' : ow a = some ⟨.tm j, [] ++ q⟩ := n
      unfold VL.spread
      rw [n']
      simp [Loc.app, hj]
    · rw [List.getElem?_append_right (by omega)] at q
      obtain ⟨q1, q2⟩ := List.getElem?_zip_eq_some.mp q
      obtain ⟨v', z1, z2⟩ := h3.get (j - T.length) d q1
      rw [q2] at z1
      cases z1
      refine Rep.mono (l := Loc.sub ⟨.tm T.length, []⟩ (0 + (j - T.length))) d (fun _ _ z _ => z) (fun _ _ z _ => z) (fun a o _ n => by unfold VL.spread; rw [n]) (fun a o q _ n => ?_) z2
      have n' : ow a = some ⟨.tm T.length, (j - T.length) :: q⟩ := by
        rw [n]; simp [Loc.sub, Loc.app]
      unfold VL.spread
      rw [n']
      simp [Loc.app]
      omega
  · cases e : ow b with
    | none => unfold VL.spread at q; rw [e] at q; cases q
    | some m =>
      obtain ⟨mb, mp⟩ := m
      cases mb with
      | fo =>
        unfold VL.spread at q; rw [e] at q; cases q
        exact .inl rfl
      | sl j => exact (S.own b _ e).elim (fun z => nomatch z) .inr
      | tm j => exact (S.own b _ e).elim (fun z => nomatch z) .inr
  · have z := S.fo b q
    unfold VL.spread; rw [z]
  · cases e : ow b with
    | none => unfold VL.spread at q; rw [e] at q; cases q
    | some m => exact S.mu b m e

/-! ### targets -/
/-- a name, or names in a tuple -/
inductive Tg where
  | nm (i : Nat) | tp (is : List Nat) | tl (is : List Nat) | tn (i : Nat) (js : List Nat)
def setAll (r : Rho) : List Nat → List D → Rho
  | i :: is, d :: ds => setAll (r.set i (some d)) is ds
  | _, _ => r
def tgt : Tg → D → Rho → Option Rho
  | .nm i, d, r => some (r.set i (some d))
  | .tp is, .node .tup _ ds, r => if is.length = ds.length then some (setAll r is ds) else none
  | .tl is, .node .lst _ ds, r => if is.length = ds.length then some (setAll r is ds) else none
  | .tn i js, .node .tup _ [d, .node .tup _ ds], r => if js.length = ds.length then some (setAll (r.set i (some d)) js ds) else none
  | _, _, _ => none
def Tg.slots : Tg → List Nat
  | .nm i => [i]
  | .tp is => is
  | .tl is => is
  | .tn i js => i :: js
/-- alike but at the slots is -/
def But (is : List Nat) (s s' : L2.St) : Prop := s'.length = s.length ∧ ∀ j, j ∉ is → s'[j]? = s[j]?
theorem But.refl {is : List Nat} {s : L2.St} : But is s s := ⟨rfl, fun _ _ => rfl⟩
theorem But.set {i : Nat} {x : Option V} {s : L2.St} : But [i] s (s.set i x) := ⟨by simp, fun j h => List.getElem?_set_ne (fun e => h (by simp [e]))⟩
theorem But.cons {i : Nat} {is : List Nat} {x : Option V} {s s' : L2.St} (h : But is (s.set i x) s') : But (i :: is) s s' :=
  ⟨h.1.trans (by simp), fun j n => (h.2 j (fun z => n (List.mem_cons_of_mem _ z))).trans (List.getElem?_set_ne (fun e => n (by simp [e])))⟩
def tVG (G : GX) (C : Fc) (t : Tg) : TG := fun v s H Q => ∃ r T d, StOk G C r (T ++ [(d, v)]) s H ∧ match tgt t d r with
  | some r' => ∀ s' H', StOk G C r' T s' H' → But t.slots s s' → Q s' H'
  | none => False
abbrev VG (X : Cx) (G : GX) (C : Fc) (e : Expr) (t : Tg) : Prop := PG X e (tVG G C t)
theorem PG.imp {e : Expr} {t t' : TG} (h : PG X e t) (i : ∀ v s H Q, t' v s H Q → t v s H Q) : PG X e t' := ⟨fun pins s σ H v u Q I rr w => h.run pins s σ H v u Q I rr (i _ _ _ _ w)⟩
theorem vg_name {i : Nat} {x : Str} {pos : Pos} (hN : X.N.Nodup) (hi : X.N[i]? = some x) (hx : L2.Loc X.env.scope x) (hp : ∀ p ∈ C.pin, p.1 ≠ i) (hf : X.fn x = true ∨ X.env.scope.names.lookup x = some .local := by first | exact .inl rfl | exact .inr rfl | assumption) : VG X G C (.Name x pos) (.nm i) := by
  refine PG.imp (pg_name hN hi hx hf) fun v s H Q h => ?_
  obtain ⟨r, T, d, S, h⟩ := h
  exact h _ _ (S.set hp) But.set
/-- the parts are on their way -/
def tVGs (G : GX) (C : Fc) (is : List Nat) : TGs := fun vs s H Q => ∃ r T ds, ds.length = vs.length ∧ is.length = ds.length ∧ StOk G C r (T ++ ds.zip vs) s H ∧ ∀ s' H', StOk G C (setAll r is ds) T s' H' → But is s s' → Q s' H'
abbrev VGs (X : Cx) (G : GX) (C : Fc) (es : List Expr) (is : List Nat) : Prop := PGs X es (tVGs G C is)
theorem vgs_nil : VGs X G C [] [] := by
  refine ⟨fun pins s σ H vs us Q I rr h => pgs_nil.run pins s σ H vs us Q I rr ?_⟩
  obtain ⟨r, T, ds, h1, h2, S, h⟩ := h
  have e1 : ds = [] := List.eq_nil_of_length_eq_zero h2.symm
  subst e1
  have e2 : vs = [] := List.eq_nil_of_length_eq_zero h1.symm
  subst e2
  have S' : StOk G C r T σ H := by simpa using S
  exact ⟨rfl, h _ _ S' But.refl⟩
theorem vgs_cons {i : Nat} {x : Str} {pos : Pos} {es : List Expr} {is : List Nat} (hN : X.N.Nodup) (hi : X.N[i]? = some x) (hx : L2.Loc X.env.scope x) (hp : ∀ p ∈ C.pin, p.1 ≠ i) (h2 : VGs X G C es is)
    (hf : X.fn x = true ∨ X.env.scope.names.lookup x = some .local := by first | exact .inl rfl | exact .inr rfl | assumption)
    (hs : (assignEach (.Name x pos :: es) X.env).map (·.2) = assign (.Name x pos) X.env :: (assignEach es X.env).map (·.2) := by rfl) : VGs X G C (.Name x pos :: es) (i :: is) := by
  refine ⟨fun pins s σ H vs us Q I rr h => (pgs_cons (pg_name hN hi hx hf) h2 hs).run pins s σ H vs us Q I rr ?_⟩
  obtain ⟨r, T, ds, h1, h2, S, h⟩ := h
  cases ds with
  | nil => cases h2
  | cons d ds =>
    cases vs with
    | nil => cases h1
    | cons v vs =>
      refine ⟨v, vs, rfl, r.set i (some d), T, ds, by simpa using h1, by simpa using h2, ?_, fun s' H' S' b => h s' H' S' b.cons⟩
      obtain ⟨ow, S⟩ := S
      exact ⟨_, StW.setM (T := T) (T2 := ds.zip vs) S hp⟩
theorem vg_tup {es : List Expr} {is : List Nat} {k : Nat} {pos : Pos} (hc : X.calm = true) (h : VGs X G C es is)
    (hn : (assignEach es X.env).length = is.length := by rfl) (hst : (assignEach es X.env).findIdx? (·.1) = none := by rfl) : VG X G C (.Tuple es k pos) (.tp is) := by
  refine PG.imp (pg_tup hc h hn hst) fun v s H Q h => ?_
  obtain ⟨r, T, d, S, h⟩ := h
  obtain ⟨ow, S⟩ := S
  cases d with
  | node k o ds =>
    cases k with
    | tup =>
      obtain ⟨a, vs, ev, h1, h2, S'⟩ := S.spread
      by_cases hl : is.length = ds.length
      · have e : tgt (.tp is) (.node .tup o ds) r = some (setAll r is ds) := if_pos hl
        rw [e] at h
        exact ⟨a, vs, ev, SqT.of h1, by rw [← h2]; exact hl.symm, r, T, ds, h2, hl, ⟨_, S'⟩, h⟩
      · have e : tgt (.tp is) (.node .tup o ds) r = none := if_neg hl
        rw [e] at h
        exact h.elim
    | _ => exact h.elim
  | _ => exact h.elim
theorem tgt_tn {i : Nat} {js : List Nat} {d : D} {r r' : Rho} (h : tgt (.tn i js) d r = some r') : ∃ o d1 o2 ds, d = .node .tup o [d1, .node .tup o2 ds] ∧ js.length = ds.length ∧ r' = setAll (r.set i (some d1)) js ds := by
  cases d with
  | node k o xs =>
    cases k with
    | tup =>
      match xs, h with
      | [], h => cases h
      | [_], h => cases h
      | [d1, d2], h =>
        cases d2 with
        | node k2 o2 ds =>
          cases k2 with
          | tup =>
            have h : (if js.length = ds.length then some (setAll (r.set i (some d1)) js ds) else none) = some r' := h
            by_cases hl : js.length = ds.length
            · rw [if_pos hl] at h
              cases h
              exact ⟨o, d1, o2, ds, rfl, hl, rfl⟩
            · rw [if_neg hl] at h
              cases h
          | _ => cases h
        | _ => cases h
      | _ :: _ :: _ :: _, h => simp [tgt] at h
    | _ => cases h
  | _ => cases h
/-- a, (b, c) -/
def tVGN (G : GX) (C : Fc) (i : Nat) (js : List Nat) : TGs := fun vs s H Q => ∃ r T d o ds v w, vs = [v, w] ∧ js.length = ds.length ∧ StOk G C r (T ++ [(d, v), (.node .tup o ds, w)]) s H ∧ ∀ s' H', StOk G C (setAll (r.set i (some d)) js ds) T s' H' → But (i :: js) s s' → Q s' H'
theorem vg_nest {i : Nat} {x : Str} {px p2 pos : Pos} {es : List Expr} {js : List Nat} {k k2 : Nat} (hc : X.calm = true) (hN : X.N.Nodup) (hi : X.N[i]? = some x) (hx : L2.Loc X.env.scope x) (hp : ∀ p ∈ C.pin, p.1 ≠ i) (h : VG X G C (.Tuple es k2 p2) (.tp js))
    (hf : X.fn x = true ∨ X.env.scope.names.lookup x = some .local := by first | exact .inl rfl | exact .inr rfl | assumption)
    (hs : (assignEach [.Name x px, .Tuple es k2 p2] X.env).map (·.2) = assign (.Name x px) X.env :: (assignEach [.Tuple es k2 p2] X.env).map (·.2) := by rfl)
    (hs2 : (assignEach [.Tuple es k2 p2] X.env).map (·.2) = assign (.Tuple es k2 p2) X.env :: (assignEach [] X.env).map (·.2) := by rfl)
    (hn : (assignEach [.Name x px, .Tuple es k2 p2] X.env).length = 2 := by rfl) (hst : (assignEach [.Name x px, .Tuple es k2 p2] X.env).findIdx? (·.1) = none := by rfl) : VG X G C (.Tuple [.Name x px, .Tuple es k2 p2] k pos) (.tn i js) := by
  have two : PGs X [.Name x px, .Tuple es k2 p2] (tVGN G C i js) := ⟨fun pins s σ H vs us Q I rr h0 => (pgs_cons (pg_name hN hi hx hf) (pgs_cons h pgs_nil hs2) hs).run pins s σ H vs us Q I rr (by
    obtain ⟨r, T, d, o, ds, v, w, ev, hl, S, h0⟩ := h0
    refine ⟨v, [w], ev, w, [], rfl, r.set i (some d), T, .node .tup o ds, ?_, ?_⟩
    · obtain ⟨ow, S⟩ := S
      exact ⟨_, StW.setM (T := T) (T2 := [(.node .tup o ds, w)]) S hp⟩
    · have e : tgt (.tp js) (.node .tup o ds) (r.set i (some d)) = some (setAll (r.set i (some d)) js ds) := if_pos hl
      rw [e]
      exact fun s' H' S' b => ⟨rfl, h0 s' H' S' b.cons⟩)⟩
  refine PG.imp (pg_tup hc two hn hst) fun v s H Q h => ?_
  obtain ⟨r, T, d, S, h⟩ := h
  obtain ⟨ow, S⟩ := S
  cases e : tgt (.tn i js) d r with
  | none => rw [e] at h; exact h.elim
  | some r' =>
    rw [e] at h
    obtain ⟨o, d1, o2, ds, ed, hl, er⟩ := tgt_tn e
    subst ed er
    obtain ⟨a, vs, ev, h1, h2, S'⟩ := S.spread
    match vs, h1, h2, S' with
    | [w1, w2], h1, _, S' =>
      exact ⟨a, [w1, w2], ev, SqT.of h1, rfl, r, T, d1, o2, ds, w1, w2, rfl, hl, ⟨_, S'⟩, h⟩
/-- a target is given a value; what a name held is shared -/
def asgK (t : Tg) (x : R) (r1 : Rho) : SO := match x with
  | .val d => (match tgt t d r1 with
    | some r2 => .nx r2
    | none => .bad)
  | .loc _ => .bad
@[simp] theorem asgK_nm (i : Nat) (d : D) (r : Rho) : asgK (.nm i) (.val d) r = .nx (r.set i (some d)) := rfl
def cAsg (t : Tg) (fa : Ev) : Sv := fun r => (cSet fa r).st (asgK t)
theorem asg_go {t : Tg} {D : Ends} {v : V} {x : R} {r1 : Rho} {H1 : Hp} (P : Post G C r1 T s H1 x v) (h : GoesS G C W T D (asgK t x r1)) : tVG G C t v s H1 D.nx := by
  cases x with
  | loc i => exact h.elim
  | val d =>
    refine ⟨r1, T, d, P.1, ?_⟩
    unfold asgK at h
    cases e : tgt t d r1 with
    | some r2 => simp only [e] at h ⊢; exact fun s' H' S' _ => h s' H' S'
    | none => simp only [e] at h; exact h.elim
theorem vs_asg {tg e : Expr} {t : Tg} {pos : Pos} (he : VE X G C W e fa) (hg : VG X G C tg t) (hs : swapsWithSole [tg] e pos.line X.env = pure false := by rfl) (hw : swappedStores [tg] e X.env = pure none := by rfl)
    (h1 : (assignEach [tg] X.env).map (·.2) = [assign tg X.env] := by rfl) : VS X G C W (.Assign [tg] e pos) (cAsg t fa) := by
  refine PS.imp (ps_asg (ve_set he) hg hs hw h1) fun D s H h => ?_
  obtain ⟨r, T, S, h⟩ := h
  exact oneS (fa := cSet fa) S h fun x v r1 H1 P g => asg_go P g
theorem vs_set {i : Nat} {x : Str} {e : Expr} {pos pos' : Pos} (hN : X.N.Nodup) (hi : X.N[i]? = some x) (hx : L2.Loc X.env.scope x) (hp : ∀ p ∈ C.pin, p.1 ≠ i) (he : VE X G C W e fa) (hs : swapsWith e (some (.Name x pos')) pos.line X.env = pure false := by rfl)
    (hf : X.fn x = true ∨ X.env.scope.names.lookup x = some .local := by first | exact .inl rfl | exact .inr rfl | assumption) : VS X G C W (.Assign [.Name x pos'] e pos) (cAsg (.nm i) fa) := by
  refine PS.imp (ps_set hN hi hx (ve_set he) hs hf) fun D s H h => ?_
  obtain ⟨r, T, S, h⟩ := h
  refine oneS (fa := cSet fa) S h fun x v r1 H1 P g => ?_
  cases x with
  | loc i => exact g.elim
  | val d => exact g _ _ (P.1.set hp)

/-! ### name op= e -/
abbrev TIpS (X : Cx) (op : Operator) (g : G2) : Prop := OpS X (inplaceOp op) g
def cAug (i : Nat) (g : G2) (fb : Ev) : Sv := fun r => match r[i]? with
  | some (some d) => if atom d = true then (fb r).st fun y r1 => (g (.val d) y r1).st fun z r2 => match z with
    | .val d' => .nx (r2.set i (some d'))
    | .loc _ => .bad else .bad
  | _ => .bad
theorem vs_aug {i : Nat} {x : Str} {e : Expr} {op : Operator} {g : G2} {pos' pos : Pos} (hN : X.N.Nodup) (hi : X.N[i]? = some x) (hx : L2.Loc X.env.scope x) (hp : ∀ p ∈ C.pin, p.1 ≠ i) (ho : OpS X (inplaceOp op) g) (he : VE X G C W e fb)
    (hf : X.fn x = true ∨ X.env.scope.names.lookup x = some .local := by first | exact .inl rfl | exact .inr rfl | assumption) : VS X G C W (.AugAssign (.Name x pos') op e pos) (cAug i g fb) := by
  obtain ⟨rr, h1, h2⟩ := ho
  refine PS.imp (ps_aug (ti := rr) hN hi hx he h1 hf) fun D s H h => ?_
  obtain ⟨r, T, S, h⟩ := h
  unfold cAug at h
  cases q : r[i]? with
  | none => rw [q] at h; exact h.elim
  | some o =>
    cases o with
    | none => rw [q] at h; exact h.elim
    | some d =>
      rw [q] at h
      simp only at h
      split at h
      · rename_i a
        obtain ⟨ow, S⟩ := S
        obtain ⟨v, q1, q2⟩ := S.sl i d q
        refine ⟨v, q1, ?_⟩
        have S1 : StOk G C r (T ++ [(d, v)]) s H := ⟨ow, S.push (q2.of_atom a)⟩
        refine ⟨r, T ++ [(d, v)], S1, ?_⟩
        cases e : fb r with
        | ok y r1 =>
          rw [e] at h
          simp only [st_ok] at h
          intro u H1 P
          refine h2 G C W r1 T s H1 (.val d) y v u _ (by show StOk G C r1 (T ++ ([(d, v)] ++ pushR y u)) s H1; rw [← List.append_assoc]; exact P.1) trivial P.2 ?_
          cases e2 : g (.val d) y r1 with
          | ok z r2 =>
            rw [e2] at h
            simp only [st_ok] at h
            cases z with
            | loc j => exact h.elim
            | val d' => exact fun w H2 P2 => h _ _ (P2.1.set hp)
          | exc c r2 => rw [e2] at h; exact fun H2 S2 => h s H2 S2
          | bad => rw [e2] at h; exact h.elim
        | exc c r1 => rw [e] at h; exact fun H' S' => h s H' S'.drop
        | bad => rw [e] at h; exact h.elim
      · exact h.elim
/-- a += b of scalars -/
def iAdd (d e : D) : Option D := match d, e with
  | .int i, .int j => some (.int (i + j))
  | .str a, .str b => if a.length + b.length ≤ 16777216 then some (.str (a ++ b)) else none
  | _, _ => none
theorem os_iadd : OpS X (inplaceOp .Add) (g2 iAdd) := by
  refine OpS.scal (iop_add.or iop_add_str) fun G ow H d e z l m v u Q h1 h2 e3 q => ?_
  unfold iAdd at e3
  split at e3
  · cases e3
    exact .inl ⟨_, _, h1, h2, q _ fun _ _ => rfl⟩
  · split at e3
    · cases e3
      exact .inr ⟨_, _, h1, h2, by rw [sizeLine_eq]; assumption, q _ fun _ _ => rfl⟩
    · cases e3
  · cases e3

/-! ### raise -/
def cRaise (c : Nat) : Sv := fun r => .exc c r
theorem vs_raise {c : Nat} {x m : Str} {j : Nat} {p p2 pos pos' : Pos} (hcm : X.calm = true) (tk : Takes X W) (q : PySem.W.excIn X.K (G c) [.type "ValueError", .type "Exception", .type "BaseException", .type "object"] "ValueError.__new__" = true) (gC : X.mg x = some (.ref (G c))) (kC : PySem.W.keepIn X.K (.ref (G c)) = true)
    (rs : Raises X (.ref (G c))) (hg : Gl X x) (hdb : (x == ("__debug__" : Str)) = false := by decide) : VS X G C W (.Raise (some (.Call (.Name x p) [.Constant (.str m) j p2] [] pos)) none pos') (cRaise c) := by
  refine PS.imp (ps_raise hcm tk (pmk_own PySem.F.excBase_ValueError q gC kC rs hg hdb)) fun D s H h => ?_
  obtain ⟨r, T, S, h⟩ := h
  exact h s H S
end
end VL

namespace VL
open PySem PySem.Spec PyProof.Rows L2
section
variable {X : Cx} {G : GX} {C : Fc} {W : WX} {ow ow' : Ow} {r : Rho} {T T1 T2 : List (D × V)} {s : L2.St} {H H' : Hp} {fa fb fc : Ev} {f g : Sv}

/-! ### temporaries dropped amid -/
def slid (ow : Ow) (n m : Nat) : Ow := fun a => match ow a with
  | some ⟨.tm j, p⟩ => if j < n then some ⟨.tm j, p⟩ else if j = m then some ⟨.tm n, p⟩ else none
  | x => x
theorem StW.slide {d : D} {v : V} (S : StW G C ow r (T ++ T2 ++ [(d, v)]) s H) : StW G C (slid ow T.length (T.length + T2.length)) r (T ++ [(d, v)]) s H where
  len := S.len
  sl := fun i d q => by
    obtain ⟨v', z1, z2⟩ := S.sl i d q
    refine ⟨v', z1, Rep.mono (l := ⟨.sl i, []⟩) d (fun _ _ z _ => z) (fun _ _ z _ => z) (fun a o _ n => by unfold slid; rw [n]) (fun a o q _ n => ?_) z2⟩
    have n' : ow a = some ⟨.sl i, [] ++ q⟩ := n
    unfold slid
    rw [n']
    rfl
  tm := fun j d' v' q => by
    by_cases hj : j < T.length
    · rw [List.getElem?_append_left hj] at q
      have z := S.tm j d' v' (by rw [List.append_assoc, List.getElem?_append_left hj]; exact q)
      refine Rep.mono (l := ⟨.tm j, []⟩) d' (fun _ _ z _ => z) (fun _ _ z _ => z) (fun a o _ n => by unfold slid; rw [n]) (fun a o q _ n => ?_) z
      have n' : ow a = some ⟨.tm j, [] ++ q⟩ := n
      unfold slid
      rw [n']
      simp [Loc.app, hj]
    · rw [List.getElem?_append_right (by omega)] at q
      have e : j = T.length := by
        have := (List.getElem?_eq_some_iff.mp q).1
        simp at this; omega
      subst e
      simp at q
      obtain ⟨e1, e2⟩ := q
      subst e1; subst e2
      have z := S.tm (T.length + T2.length) d v (by
        rw [List.getElem?_append_right (by simp)]
        simp)
      refine Rep.mono (l := ⟨.tm (T.length + T2.length), []⟩) d (fun _ _ z _ => z) (fun _ _ z _ => z) (fun a o _ n => by unfold slid; rw [n]) (fun a o q _ n => ?_) z
      have n' : ow a = some ⟨.tm (T.length + T2.length), [] ++ q⟩ := n
      have h : ¬ T.length + T2.length < T.length := by omega
      unfold slid
      rw [n']
      simp [Loc.app, h]
  old := S.old
  own := fun a l q => by
    cases e : ow a with
    | none => unfold slid at q; rw [e] at q; cases q
    | some m =>
      obtain ⟨mb, mp⟩ := m
      cases mb with
      | fo =>
        unfold slid at q; rw [e] at q; cases q
        exact .inl rfl
      | sl j => exact (S.own a _ e).elim (fun z => nomatch z) .inr
      | tm j => exact (S.own a _ e).elim (fun z => nomatch z) .inr
  fo := fun a q => by
    have z := S.fo a q
    unfold slid; rw [z]
  mu := fun a l q => by
    cases e : ow a with
    | none => unfold slid at q; rw [e] at q; cases q
    | some m => exact S.mu a m e
  pin := S.pin
theorem Post.slide {x : R} {v : V} (P : Post G C r (T ++ T2) s H x v) : Post G C r T s H x v := by
  obtain ⟨⟨ow, S⟩, l⟩ := P
  cases x with
  | val d => exact ⟨⟨_, StW.slide S⟩, l⟩
  | loc i =>
    have S' : StW G C ow r (T ++ T2) s H := by simpa [pushR] using S
    refine ⟨⟨ow, ?_⟩, l⟩
    have z : StW G C ow r T s H := S'.drop
    simpa [pushR] using z

/-! ### what is walked -/
def CurOk (G : GX) (C : Fc) (J : It) (items : List D) (tk : Nat → List (D × V)) : Prop :=
  (∀ (i : Nat) d r T s H, items[i]? = some d → StOk G C r (T ++ tk i) s H → J.go i H ∧ ∀ x H', J.yld i H x H' → StOk G C r (T ++ tk (i + 1) ++ [(d, x)]) s H') ∧
    ∀ r T s H, StOk G C r (T ++ tk items.length) s H → J.stop items.length H
inductive IO where
  | ok (ds : List D) (r : Rho) | exc (c : Nat) (r : Rho) | bad
abbrev Iv := Rho → IO
def tVI (G : GX) (C : Fc) (W : WX) (f : Iv) : TI := fun s H R => ∃ r T, StOk G C r T s H ∧ match f r with
  | .ok ds r' => ∀ J H' tk, CurOk G C J ds tk → StOk G C r' (T ++ tk 0) s H' → R J H'
  | .exc c r' => ∀ H', StOk G C r' T s H' → W (.ref (G c)) none s H'
  | .bad => False
abbrev VI (X : Cx) (G : GX) (C : Fc) (W : WX) (tg e : Expr) (f : Iv) : Prop := PI X tg e (tVI G C W f)
theorem PI.imp {tg e : Expr} {t t' : TI} (h : PI X tg e t) (i : ∀ s H Q, t' s H Q → t s H Q) : PI X tg e t' := ⟨fun pins s σ H R I w => h.run pins s σ H R I (i _ _ _ w)⟩

/-! ### for -/
def forL (t : Tg) (f : Sv) : List D → Rho → SO
  | [], r => .nx r
  | d :: ds, r => match tgt t d r with
    | none => .bad
    | some r1 => (match f r1 with
      | .nx r2 => forL t f ds r2
      | .ct r2 => forL t f ds r2
      | .bk r2 => .nx r2
      | o => o)
def cFor (t : Tg) (fi : Iv) (f : Sv) : Sv := fun r => match fi r with
  | .ok ds r1 => forL t f ds r1
  | .exc c r1 => .exc c r1
  | .bad => .bad
theorem vs_for {tg iter : Expr} {body : List Stmt} {fi : Iv} {t : Tg} {pos : Pos} (hp : PassesOwn (model X.prog X.w) X.A X.env X.xe) (hc : X.calm = true) (hi : VI X G C W tg iter fi) (hg : VG X G C tg t) (hb : VSs X G C W body f)
    (hs : ∀ x, foldedSetIterable iter X.env x = pure x := by intro _; rfl) : VS X G C W (.For tg iter body [] pos) (cFor t fi f) := by
  refine PS.imp (ps_for hp hc hi hg hb hs) fun D s H h => ?_
  obtain ⟨r, T, S, h⟩ := h
  refine ⟨r, T, S, ?_⟩
  unfold cFor at h
  cases e : fi r with
  | exc c r1 => rw [e] at h; exact fun H' S' => h s H' S'
  | bad => rw [e] at h; exact h.elim
  | ok ds r1 =>
    rw [e] at h
    simp only at h
    intro J H1 tk hk S1
    refine ⟨fun i m s' H' => m = ds.length - i ∧ i ≤ ds.length ∧ ∃ r', StOk G C r' (T ++ tk i) s' H' ∧ GoesS G C W T D (forL t f (ds.drop i) r'), ⟨ds.length, by simp, Nat.zero_le _, r1, S1, by simpa using h⟩, ?_⟩
    rintro i m s' H' ⟨rfl, hi', r', S', h'⟩
    by_cases hlt : i < ds.length
    · have ed : ds[i]? = some ds[i] := List.getElem?_eq_getElem hlt
      obtain ⟨k1, k2⟩ := hk.1 i ds[i] r' T s' H' ed S'
      rw [List.drop_eq_getElem_cons hlt] at h'
      refine .inr ⟨k1, fun s2 H2 => ∃ r2, StOk G C r2 (T ++ tk (i + 1)) s2 H2 ∧ GoesS G C W T D (forL t f (ds.drop (i + 1)) r2), fun s2 H2 n2 => ⟨ds.length - (i + 1), by omega, rfl, hlt, n2⟩, fun x H2 y => ?_⟩
      have S2 := k2 x H2 y
      refine ⟨r', T ++ tk (i + 1), ds[i], S2, ?_⟩
      unfold forL at h'
      cases e1 : tgt t ds[i] r' with
      | none => simp only [e1] at h'; exact h'.elim
      | some r2 =>
        simp only [e1] at h' ⊢
        intro s3 H3 S3 _
        refine ⟨r2, T ++ tk (i + 1), S3, ?_⟩
        cases e2 : f r2 with
        | nx r3 => simp only [e2] at h'; exact fun s4 H4 S4 => ⟨r3, S4, h'⟩
        | ct r3 => simp only [e2] at h'; exact fun s4 H4 S4 => ⟨r3, S4, h'⟩
        | bk r3 => simp only [e2] at h'; exact fun s4 H4 S4 => h' s4 H4 S4.drop
        | rt x r3 => simp only [e2] at h'; exact fun s4 v H4 P4 => h' s4 v H4 P4.slide
        | exc c r3 => simp only [e2] at h'; exact fun s4 H4 S4 => h' s4 H4 S4.drop
        | bad => simp only [e2] at h'; exact h'.elim
    · have ei : i = ds.length := by omega
      subst ei
      rw [List.drop_length] at h'
      exact .inl ⟨hk.2 r' T s' H' S', h' s' H' S'.drop⟩

/-! ### while -/
def whileL (ft : Ev) (f : Sv) : Nat → Rho → SO
  | 0, _ => .bad
  | n + 1, r => (ft r).st fun x r1 => match x with
    | .val (.bl true) => (match f r1 with
      | .nx r2 => whileL ft f n r2
      | .ct r2 => whileL ft f n r2
      | .bk r2 => .nx r2
      | o => o)
    | .val (.bl false) => .nx r1
    | _ => .bad
theorem vs_while {c : Expr} {body : List Stmt} {pos : Pos} (n : Nat) (hp : PassesOwn (model X.prog X.w) X.A X.env X.xe) (hc : VT X G C W c fc) (hb : VSs X G C W body f) : VS X G C W (.While c body [] pos) (whileL fc f n) := by
  refine PS.imp (ps_while hp hc hb) fun D s H h => ?_
  obtain ⟨r, T, S, h⟩ := h
  refine ⟨fun m s' H' => ∃ r', StOk G C r' T s' H' ∧ GoesS G C W T D (whileL fc f m r'), ⟨n, r, S, h⟩, ?_⟩
  rintro m s' H' ⟨r', S', h'⟩
  cases m with
  | zero => exact h'.elim
  | succ m =>
    unfold whileL at h'
    refine ⟨r', T, S', ?_⟩
    cases e : fc r' with
    | exc c r1 => rw [e] at h'; exact fun H2 S2 => h' s' H2 S2
    | bad => rw [e] at h'; exact h'.elim
    | ok x r1 =>
      rw [e] at h'
      simp only [st_ok] at h'
      cases x with
      | loc i => exact h'.elim
      | val d =>
        cases d with
        | bl b =>
          cases b with
          | false => exact fun H2 S2 => (if_neg Bool.false_ne_true).mpr (h' s' H2 S2)
          | true =>
            refine fun H2 S2 => (if_pos rfl).mpr ⟨fun s3 H3 => ∃ r3, StOk G C r3 T s3 H3 ∧ GoesS G C W T D (whileL fc f m r3), fun s3 H3 n3 => ⟨m, Nat.lt_succ_self m, n3⟩, r1, T, S2, ?_⟩
            simp only at h'
            cases e2 : f r1 with
            | nx r3 => simp only [e2] at h'; exact fun s4 H4 S4 => ⟨r3, S4, h'⟩
            | ct r3 => simp only [e2] at h'; exact fun s4 H4 S4 => ⟨r3, S4, h'⟩
            | bk r3 => simp only [e2] at h'; exact fun s4 H4 S4 => h' s4 H4 S4
            | rt x r3 => simp only [e2] at h'; exact fun s4 v H4 P4 => h' s4 v H4 P4
            | exc c r3 => simp only [e2] at h'; exact fun s4 H4 S4 => h' s4 H4 S4
            | bad => simp only [e2] at h'; exact h'.elim
        | _ => exact h'.elim

/-! ### a list or tuple that is walked: its parts go on one by one -/
def takenAt (ow : Ow) (n i : Nat) : Ow := fun a => match ow a with
  | some ⟨.tm j, p⟩ => if j = n then (match p with
    | k :: p' => if k = i then some ⟨.tm (n + 1), p'⟩ else some ⟨.tm j, p⟩
    | [] => some ⟨.tm j, p⟩) else some ⟨.tm j, p⟩
  | x => x
def leftAt (ds : List D) (i : Nat) : List D := List.replicate i .any ++ ds.drop i
theorem leftAt_get {ds : List D} {i j : Nat} (hi : i ≤ ds.length) : (leftAt ds i)[j]? = if j < i then some .any else ds[j]? := by
  unfold leftAt
  by_cases h : j < i
  · rw [if_pos h, List.getElem?_append_left (by simpa using h)]
    simp [h]
  · rw [if_neg h, List.getElem?_append_right (by simp; omega), List.length_replicate, List.getElem?_drop]
    congr 1; omega
theorem leftAt_length {ds : List D} {i : Nat} (hi : i ≤ ds.length) : (leftAt ds i).length = ds.length := by
  unfold leftAt; simp; omega
theorem StW.take1 {k : Kd} {o : Bool} {ds : List D} {i : Nat} {d : D} {v : V} (S : StW G C ow r (T ++ [(.node k o (leftAt ds i), v)]) s H) (hd : ds[i]? = some d) :
    ∃ a vs x, v = .ref a ∧ Holds G H a k vs ∧ vs[i]? = some x ∧ StW G C (takenAt ow T.length i) r (T ++ [(.node k o (leftAt ds (i + 1)), v)] ++ [(d, x)]) s H := by
  have hi : i < ds.length := (List.getElem?_eq_some_iff.mp hd).1
  obtain ⟨a, vs, ev, h1, h2, h3⟩ := S.last
  have hl := h3.length
  rw [leftAt_length (by omega)] at hl
  obtain ⟨x, x1, x2⟩ := h3.get i d (by rw [leftAt_get (by omega), if_neg (by omega)]; exact hd)
  refine ⟨a, vs, x, ev, h1, x1, S.len, fun i' d q => ?_, fun j d' v' q => ?_, S.old, fun b l q => ?_, fun b q => ?_, fun b l q => ?_, S.pin⟩
  · obtain ⟨v', z1, z2⟩ := S.sl i' d q
    refine ⟨v', z1, Rep.mono (l := ⟨.sl i', []⟩) d (fun _ _ z _ => z) (fun _ _ z _ => z) (fun a o _ n => by unfold takenAt; rw [n]) (fun a o q _ n => ?_) z2⟩
    have n' : ow a = some ⟨.sl i', [] ++ q⟩ := n
    unfold takenAt
    rw [n']
    rfl
  · by_cases hj : j < T.length
    · rw [List.append_assoc, List.getElem?_append_left hj] at q
      have z := S.tm j d' v' (by rw [List.getElem?_append_left hj]; exact q)
      refine Rep.mono (l := ⟨.tm j, []⟩) d' (fun _ _ z _ => z) (fun _ _ z _ => z) (fun a o _ n => by unfold takenAt; rw [n]) (fun a o q _ n => ?_) z
      have n' : ow a = some ⟨.tm j, [] ++ q⟩ := n
      unfold takenAt
      rw [n']
      have : ¬ j = T.length := by omega
      simp [Loc.app, this]
    · rw [List.append_assoc, List.getElem?_append_right (by omega)] at q
      rcases (show j - T.length = 0 ∨ j - T.length = 1 by
        have := (List.getElem?_eq_some_iff.mp q).1
        simp at this; omega) with e | e
      · rw [e] at q
        simp at q
        obtain ⟨e1, e2⟩ := q
        subst e1; subst e2
        have ej : j = T.length := by omega
        subst ej
        refine ⟨a, vs, ev, h1, ?_, Reps.of_get (by rw [leftAt_length (by omega)]; exact hl) fun m dm vm q1 q2 => ?_⟩
        · rcases h2.cases with hk | h2
          · subst hk; trivial
          refine .mk ?_
          cases o with
          | true =>
            have n' : ow a = some ⟨.tm T.length, []⟩ := by simpa using h2
            unfold takenAt; rw [n']; simp
          | false =>
            have n' : ow a = none := by simpa using h2
            unfold takenAt; rw [n']; simp
        · rw [leftAt_get (by omega)] at q1
          by_cases hm : m < i + 1
          · rw [if_pos hm] at q1
            cases q1
            trivial
          · rw [if_neg hm] at q1
            obtain ⟨vm', z1, z2⟩ := h3.get m dm (by rw [leftAt_get (by omega), if_neg (by omega)]; exact q1)
            rw [q2] at z1
            cases z1
            refine Rep.mono (l := Loc.sub ⟨.tm T.length, []⟩ (0 + m)) dm (fun _ _ z _ => z) (fun _ _ z _ => z) (fun a o _ n => by unfold takenAt; rw [n]) (fun a o q _ n => ?_) z2
            have n' : ow a = some ⟨.tm T.length, m :: q⟩ := by rw [n]; simp [Loc.sub, Loc.app]
            unfold takenAt
            rw [n']
            have : ¬ m = i := by omega
            simp [Loc.app, Loc.sub, this]
      · rw [e] at q
        simp at q
        obtain ⟨e1, e2⟩ := q
        subst e1; subst e2
        have ej : j = T.length + 1 := by omega
        subst ej
        refine Rep.mono (l := Loc.sub ⟨.tm T.length, []⟩ (0 + i)) d (fun _ _ z _ => z) (fun _ _ z _ => z) (fun a o _ n => by unfold takenAt; rw [n]) (fun a o q _ n => ?_) x2
        have n' : ow a = some ⟨.tm T.length, i :: q⟩ := by rw [n]; simp [Loc.sub, Loc.app]
        unfold takenAt
        rw [n']
        simp [Loc.app]
  · cases e : ow b with
    | none => unfold takenAt at q; rw [e] at q; cases q
    | some m =>
      obtain ⟨mb, mp⟩ := m
      cases mb with
      | fo =>
        unfold takenAt at q; rw [e] at q; cases q
        exact .inl rfl
      | sl j => exact (S.own b _ e).elim (fun z => nomatch z) .inr
      | tm j => exact (S.own b _ e).elim (fun z => nomatch z) .inr
  · have z := S.fo b q
    unfold takenAt; rw [z]
  · cases e : ow b with
    | none => unfold takenAt at q; rw [e] at q; cases q
    | some m => exact S.mu b m e
theorem leftAt_zero (ds : List D) : leftAt ds 0 = ds := by unfold leftAt; simp
theorem cur_seq {K : PySem.W.Frag} {k : Kd} {o : Bool} {ds : List D} {a : Addr} (hk : ∀ H vs, Holds G H a k vs → SqL K H a vs) : CurOk G C (Itl K a) ds fun i => [(.node k o (leftAt ds i), .ref a)] := by
  refine ⟨fun i d r T s H hd S => ?_, fun r T s H S => ?_⟩
  · obtain ⟨ow, S⟩ := S
    obtain ⟨a', vs, x, ev, h1, hx, S'⟩ := S.take1 hd
    cases ev
    refine ⟨⟨vs, x, hk H vs h1, hx⟩, fun x' H' y => ?_⟩
    obtain ⟨e, y⟩ := y
    subst e
    have e2 := y vs (hk _ vs h1)
    rw [hx] at e2
    cases e2
    exact ⟨_, S'⟩
  · obtain ⟨ow, S⟩ := S
    obtain ⟨a', vs, ev, h1, h2, h3⟩ := S.last
    cases ev
    refine ⟨vs, hk H vs h1, ?_⟩
    rw [← h3.length, leftAt_length (Nat.le_refl _)]
    exact Nat.le_refl _
theorem cur_tup {K : PySem.W.Frag} {k : Kd} {o : Bool} {ds : List D} {a : Addr} (hk : ∀ H vs, Holds G H a k vs → SqT K H a vs) : CurOk G C (Itt K a) ds fun i => [(.node k o (leftAt ds i), .ref a)] := by
  refine ⟨fun i d r T s H hd S => ?_, fun r T s H S => ?_⟩
  · obtain ⟨ow, S⟩ := S
    obtain ⟨a', vs, x, ev, h1, hx, S'⟩ := S.take1 hd
    cases ev
    refine ⟨⟨vs, x, hk H vs h1, hx⟩, fun x' H' y => ?_⟩
    obtain ⟨e, y⟩ := y
    subst e
    have e2 := y vs (hk _ vs h1)
    rw [hx] at e2
    cases e2
    exact ⟨_, S'⟩
  · obtain ⟨ow, S⟩ := S
    obtain ⟨a', vs, ev, h1, h2, h3⟩ := S.last
    cases ev
    refine ⟨vs, hk H vs h1, ?_⟩
    rw [← h3.length, leftAt_length (Nat.le_refl _)]
    exact Nat.le_refl _
/-- over a list: what a name holds is shared -/
def iLst (fa : Ev) : Iv := fun r => match cSet fa r with
  | .ok (.val (.node .lst _ ds)) r1 => .ok ds r1
  | .ok (.val (.node .rd _ ds)) r1 => .ok ds r1
  | .exc c r1 => .exc c r1
  | _ => .bad
theorem vi_list {tg e : Expr} (hK : G.K = X.K) (he : VE X G C W e fa) : VI X G C W tg e (iLst fa) := by
  refine PI.imp (pi_list (ve_set he)) fun s H R h => ?_
  obtain ⟨r, T, S, h⟩ := h
  refine ⟨r, T, S, ?_⟩
  unfold iLst at h
  cases e1 : cSet fa r with
  | exc c r1 => rw [e1] at h; exact h
  | bad => rw [e1] at h; exact h
  | ok x r1 =>
    rw [e1] at h
    intro v H' P
    split at h
    · rename_i ds r' e'
      split at e'
      · rename_i o ds' r'' e''
        cases e'; cases e''
        obtain ⟨ow, S'⟩ := P.1
        obtain ⟨a, vs, ev, h1, h2, h3⟩ := S'.last
        subst ev
        refine ⟨a, rfl, ⟨vs, SqL.of h1⟩, h _ _ _ (cur_seq (k := .lst) (o := o) fun _ _ z => SqL.of z) ?_⟩
        rw [leftAt_zero]
        exact ⟨ow, S'⟩
      · rename_i o ds' r'' e''
        cases e'; cases e''
        obtain ⟨ow, S'⟩ := P.1
        obtain ⟨a, vs, ev, h1, h2, h3⟩ := S'.last
        subst ev
        refine ⟨a, rfl, ⟨vs, hK ▸ h1.seq⟩, h _ _ _ (cur_seq (k := .rd) (o := o) fun _ _ z => hK ▸ z.seq) ?_⟩
        rw [leftAt_zero]
        exact ⟨ow, S'⟩
      · rename_i e''; cases e''
      · cases e'
    · rename_i c r' e'
      split at e'
      · cases e'
      · cases e'
      · rename_i e''; cases e''
      · cases e'
    · exact h.elim
def iTpl (fa : Ev) : Iv := fun r => match cSet fa r with
  | .ok (.val (.node .tup _ ds)) r1 => .ok ds r1
  | .exc c r1 => .exc c r1
  | _ => .bad
theorem vi_tup {tg e : Expr} (he : VE X G C W e fa) : VI X G C W tg e (iTpl fa) := by
  refine PI.imp (pi_tup (ve_set he)) fun s H R h => ?_
  obtain ⟨r, T, S, h⟩ := h
  refine ⟨r, T, S, ?_⟩
  unfold iTpl at h
  cases e1 : cSet fa r with
  | exc c r1 => rw [e1] at h; exact h
  | bad => rw [e1] at h; exact h
  | ok x r1 =>
    rw [e1] at h
    intro v H' P
    split at h
    · rename_i ds r' e'
      split at e'
      · rename_i o ds' r'' e''
        cases e'; cases e''
        obtain ⟨ow, S'⟩ := P.1
        obtain ⟨a, vs, ev, h1, h2, h3⟩ := S'.last
        subst ev
        refine ⟨a, rfl, ⟨vs, SqT.of h1⟩, h _ _ _ (cur_tup (k := .tup) (o := o) fun _ _ z => SqT.of z) ?_⟩
        rw [leftAt_zero]
        exact ⟨ow, S'⟩
      · rename_i e''; cases e''
      · cases e'
    · rename_i c r' e'
      split at e'
      · cases e'
      · rename_i e''; cases e''
      · cases e'
    · exact h.elim
end
end VL

namespace VL
open PySem PySem.Spec PyProof.Rows L2
section
variable {X : Cx} {G : GX} {C : Fc} {W : WX} {ow ow' : Ow} {r : Rho} {T T1 T2 : List (D × V)} {s : L2.St} {H H' : Hp} {fa fb fc : Ev} {f g : Sv} {fs : Av}

/-! ### ranges -/
def rngD (lo c : Int) (n : Nat) : List D := (List.range n).map fun i => .int (lo + (i : Nat) * c)
theorem rngD_get {lo c : Int} {n i : Nat} {d : D} (h : (rngD lo c n)[i]? = some d) : i < n ∧ d = .int (lo + (i : Nat) * c) := by
  unfold rngD at h
  rw [List.getElem?_map] at h
  cases e : (List.range n)[i]? with
  | none => rw [e] at h; cases h
  | some j =>
    rw [e] at h
    cases h
    obtain ⟨h1, h2⟩ := List.getElem?_eq_some_iff.mp e
    simp at h1 h2
    subst h2
    exact ⟨h1, rfl⟩
theorem rngD_length (lo c : Int) (n : Nat) : (rngD lo c n).length = n := by simp [rngD]
theorem cur_rng {lo : Int} {n : Nat} : CurOk G C (Itr lo n) (rngD lo 1 n) fun _ => [] := by
  refine ⟨fun i d r T s H hd S => ?_, fun r T s H S => by rw [rngD_length]; exact Nat.le_refl n⟩
  obtain ⟨h1, h2⟩ := rngD_get hd
  subst h2
  refine ⟨h1, fun x H' y => ?_⟩
  obtain ⟨e, y⟩ := y
  subst e; subst y
  rw [Int.mul_one]
  exact S.pushI _
theorem cur_rngC {lo c : Int} {n : Nat} : CurOk G C (Itc lo c n) (rngD lo c n) fun _ => [] := by
  refine ⟨fun i d r T s H hd S => ?_, fun r T s H S => by rw [rngD_length]; exact Nat.le_refl n⟩
  obtain ⟨h1, h2⟩ := rngD_get hd
  subst h2
  refine ⟨h1, fun x H' y => ?_⟩
  obtain ⟨e, y⟩ := y
  subst e; subst y
  exact S.pushI _
def within (i : Int) : Bool := decide (i.natAbs < 2 ^ 62)
theorem within_of {i : Int} (h : within i = true) : -(2 ^ 62) ≤ i ∧ i < 2 ^ 62 := by
  have h : i.natAbs < 2 ^ 62 := of_decide_eq_true h
  omega
/-- how many turns -/
def turns (i j c : Int) : Nat := (Builtin.Range.rangeSize i j c).toNat
def rngI1 (r : Rho) (xs : List R) : IO := match opds r xs with
  | some [.int j] => if within j = true then .ok (rngD 0 1 j.toNat) r else .bad
  | _ => .bad
def rngI2 (r : Rho) (xs : List R) : IO := match opds r xs with
  | some [.int i, .int j] => if (within i && within j) = true then .ok (rngD i 1 (j - i).toNat) r else .bad
  | _ => .bad
def rngI3 (r : Rho) (xs : List R) : IO := match opds r xs with
  | some [.int i, .int j, .int c] => if (decide (c ≠ 0) && decide (c.natAbs < 1073741824) && Builtin.Range.small i j c) = true then .ok (rngD i c (turns i j c)) r else .bad
  | _ => .bad
def iRng (g : Rho → List R → IO) (fs : Av) : Iv := fun r => match fs r with
  | .ok xs r1 => g r1 xs
  | .exc c r1 => .exc c r1
  | .bad => .bad
theorem opds_reps : ∀ {xs : List R} {vs : List V} {T : List (D × V)} {ds : List D}, StW G C ow r (T ++ pushs xs vs) s H → LocsOk s xs vs → opds r xs = some ds → ds.all atom = true → ∀ l i, Reps G ow H ds l i vs
  | [], [], _, ds, _, _, e, _, l, i => by cases e; exact rfl
  | [], _ :: _, _, _, _, l, _, _, _, _ => l.elim
  | _ :: _, [], _, _, _, l, _, _, _, _ => l.elim
  | x :: xs, v :: vs, T, ds, S, l, e, a, l', i => by
    unfold opds at e
    cases e1 : opd r x with
    | none => rw [e1] at e; cases e
    | some d =>
      cases e2 : opds r xs with
      | none => rw [e1, e2] at e; cases e
      | some ds' =>
        rw [e1, e2] at e
        cases e
        rw [List.all_cons, Bool.and_eq_true] at a
        have S' : StW G C ow r (T ++ (pushR x v ++ pushs xs vs)) s H := S
        exact ⟨v, vs, rfl, (opd_rep S' l.1 e1).of_atom a.1, opds_reps (T := T ++ pushR x v) (by rw [List.append_assoc]; exact S') l.2 e2 a.2 l' (i + 1)⟩
/-- what is wanted of a walk -/
def GoesI (G : GX) (C : Fc) (W : WX) (T : List (D × V)) (s : L2.St) (R : It → Hp → Prop) (o : IO) : Prop := match o with
  | .ok ds r' => ∀ J H' tk, CurOk G C J ds tk → StOk G C r' (T ++ tk 0) s H' → R J H'
  | .exc c r' => ∀ H', StOk G C r' T s H' → W (.ref (G c)) none s H'
  | .bad => False
theorem tV_rng {gg : Rho → List R → IO} {R : It → Hp → Prop} {K : List V → Hp → Prop} (S : StOk G C r T s H) (h : GoesI G C W T s R (iRng gg fs r)) (hk : ∀ xs vs r1 H1, StOk G C r1 (T ++ pushs xs vs) s H1 → LocsOk s xs vs → GoesI G C W T s R (gg r1 xs) → K vs H1) : tVA G C W fs s H K := by
  refine ⟨r, T, S, ?_⟩
  unfold iRng at h
  cases e : fs r with
  | ok xs r1 => rw [e] at h; exact fun vs H1 S1 l1 => hk xs vs r1 H1 S1 l1 h
  | exc c r1 => rw [e] at h; exact h
  | bad => rw [e] at h; exact h
theorem vi_range1 {tg a : Expr} {p pos : Pos} (hg : Gl X "range") (hm : X.mg "range" = none) (ha : VA X G C W [a] fs) (hs : starEach [a] X.env = [(false, eval a X.env)] := by rfl) : VI X G C W tg (.Call (.Name "range" p) [a] [] pos) (iRng rngI1 fs) := by
  refine PI.imp (pi_range1 hg hm ha hs) fun s H R h => ?_
  obtain ⟨r, T, S, h⟩ := h
  refine tV_rng S h fun xs vs r1 H1 S1 l1 g => ?_
  obtain ⟨ow, S1⟩ := S1
  unfold rngI1 at g
  split at g
  · rename_i j e1
    split at g
    · rename_i hw
      obtain ⟨v, ws, ev, h1, h2⟩ := opds_reps S1 l1 e1 rfl ⟨.fo, []⟩ 0
      have e2 : ws = [] := h2
      subst e2
      obtain ⟨w1, w2⟩ := within_of hw
      exact ⟨j, by rw [ev, rep_int h1], w1, w2, g _ _ _ cur_rng ⟨ow, by simpa using S1.drop⟩⟩
    · exact g.elim
  · exact g.elim
theorem vi_range2 {tg a b : Expr} {p pos : Pos} (hg : Gl X "range") (hm : X.mg "range" = none) (ha : VA X G C W [a, b] fs) (hs : starEach [a, b] X.env = [(false, eval a X.env), (false, eval b X.env)] := by rfl) (hs2 : starEach [b] X.env = [(false, eval b X.env)] := by rfl) : VI X G C W tg (.Call (.Name "range" p) [a, b] [] pos) (iRng rngI2 fs) := by
  refine PI.imp (pi_range2 hg hm ha hs hs2) fun s H R h => ?_
  obtain ⟨r, T, S, h⟩ := h
  refine tV_rng S h fun xs vs r1 H1 S1 l1 g => ?_
  obtain ⟨ow, S1⟩ := S1
  unfold rngI2 at g
  split at g
  · rename_i i j e1
    split at g
    · rename_i hw
      obtain ⟨v, ws, ev, h1, v2, ws2, ev2, h2, h3⟩ := opds_reps S1 l1 e1 rfl ⟨.fo, []⟩ 0
      have e2 : ws2 = [] := h3
      subst e2
      rw [Bool.and_eq_true] at hw
      obtain ⟨w1, w2⟩ := within_of hw.1
      obtain ⟨w3, w4⟩ := within_of hw.2
      exact ⟨i, j, by rw [ev, ev2, rep_int h1, rep_int h2], ⟨w1, w2, w3, w4⟩, g _ _ _ cur_rng ⟨ow, by simpa using S1.drop⟩⟩
    · exact g.elim
  · exact g.elim
theorem rangeSize_nonneg (i j c : Int) : 0 ≤ Builtin.Range.rangeSize i j c ∨ c = 0 := by
  by_cases h0 : c = 0
  · exact .inr h0
  · refine .inl ?_
    unfold Builtin.Range.rangeSize
    split
    · split
      · have := Int.ediv_nonneg (show (0 : Int) ≤ j - i - 1 by omega) (show (0 : Int) ≤ c by omega)
        omega
      · omega
    · split
      · have := Int.ediv_nonneg (show (0 : Int) ≤ i - j - 1 by omega) (show (0 : Int) ≤ -c by omega)
        omega
      · omega
theorem vi_range3 {tg a b c : Expr} {p pos : Pos} (hg : Gl X "range") (hm : X.mg "range" = none) (ha : VA X G C W [a, b, c] fs)
    (hs : starEach [a, b, c] X.env = (false, eval a X.env) :: starEach [b, c] X.env := by rfl) (hpl : (backTo pos (starEach [b, c] X.env)).any (·.1) = false := by rfl) : VI X G C W tg (.Call (.Name "range" p) [a, b, c] [] pos) (iRng rngI3 fs) := by
  refine PI.imp (pi_range3 hg hm ha hs hpl) fun s H R h => ?_
  obtain ⟨r, T, S, h⟩ := h
  refine tV_rng S h fun xs vs r1 H1 S1 l1 g => ?_
  obtain ⟨ow, S1⟩ := S1
  unfold rngI3 at g
  split at g
  · rename_i i j c e1
    split at g
    · rename_i hw
      obtain ⟨v, ws, ev, h1, v2, ws2, ev2, h2, v3, ws3, ev3, h3, h4⟩ := opds_reps S1 l1 e1 rfl ⟨.fo, []⟩ 0
      have e2 : ws3 = [] := h4
      subst e2
      simp only [Bool.and_eq_true, decide_eq_true_eq] at hw
      obtain ⟨⟨c0, c1⟩, c2⟩ := hw
      have nn : 0 ≤ Builtin.Range.rangeSize i j c := (rangeSize_nonneg i j c).elim id fun z => absurd z c0
      exact ⟨i, j, c, turns i j c, by rw [ev, ev2, ev3, rep_int h1, rep_int h2, rep_int h3], ⟨c0, c1, c2, by unfold turns; omega⟩, g _ _ _ cur_rngC ⟨ow, by simpa using S1.drop⟩⟩
    · exact g.elim
  · exact g.elim

/-! ### comprehensions -/
def W0 : WX := fun _ _ _ _ => False
def wipeR (r : Rho) : List Nat → Rho
  | [] => r
  | v :: vs => (wipeR r vs).set v none
inductive LO where
  | ok (acc : List D) (r : Rho) | bad
def tstR (fc : Option Ev) : Ev := fun r => match fc with
  | none => .ok (.val (.bl true)) r
  | some f => f r
/-- the turns: what is made so far, then each part of what is walked -/
def lcL (t : Tg) (fc : Option Ev) (fe : Ev) (vs : List Nat) : List D → List D → Rho → LO
  | [], acc, r => .ok acc r
  | d :: ds, acc, r => match tgt t d r with
    | none => .bad
    | some r1 => (match tstR fc r1 with
      | .ok (.val (.bl true)) r2 => (match cSet fe r2 with
        | .ok (.val e) r3 => if acc.length < 16777216 then lcL t fc fe vs ds (acc ++ [e]) (wipeR r3 vs) else .bad
        | _ => .bad)
      | .ok (.val (.bl false)) r2 => lcL t fc fe vs ds acc (wipeR r2 vs)
      | _ => .bad)
/-- the names that the comprehension bore tell what they told ahead, if that is a scalar -/
def backR (r0 r : Rho) : List Nat → Rho
  | [] => r
  | v :: vs => (backR r0 r vs).set v (match r0[v]? with
    | some (some d) => if atom d = true then (match d with
      | .exc _ => none
      | .any => none
      | d => some d) else none
    | _ => none)
def cLc (vs : List Nat) (t : Tg) (fi : Iv) (fc : Option Ev) (fe : Ev) : Ev := fun r => match fi r with
  | .ok ds r1 => (match lcL t fc fe vs ds [] (wipeR r1 vs) with
    | .ok acc r2 => .ok (.val (.node .lst true acc)) (backR r1 r2 vs)
    | .bad => .bad)
  | .exc c r1 => .exc c r1
  | .bad => .bad
theorem StW.wipes (S : StW G C ow r T s H) : ∀ {vs : List Nat}, (∀ p ∈ C.pin, p.1 ∉ vs) → StW G C ow (wipeR r vs) T (wipe s vs) H
  | [], _ => S
  | v :: vs, hp => by
    have S' := S.wipes (vs := vs) fun p hm z => hp p hm (List.mem_cons_of_mem _ z)
    have hv : ∀ p ∈ C.pin, p.1 ≠ v := fun p hm e => hp p hm (by rw [e]; exact List.mem_cons_self)
    show StW G C ow ((wipeR r vs).set v none) T ((wipe s vs).set v none) H
    refine ⟨by simpa using S'.len, fun j d q => ?_, S'.tm, S'.old, S'.own, S'.fo, S'.mu, fun p hm => ?_⟩
    · by_cases hj : j = v
      · subst hj
        by_cases hlt : j < (wipeR r vs).length
        · rw [List.getElem?_set_self hlt] at q; cases q
        · rw [List.getElem?_eq_none (by simpa using hlt)] at q; cases q
      · rw [List.getElem?_set_ne (Ne.symm hj)] at q
        obtain ⟨v', h1, h2⟩ := S'.sl j d q
        exact ⟨v', by rw [List.getElem?_set_ne (Ne.symm hj)]; exact h1, h2⟩
    · rw [List.getElem?_set_ne (Ne.symm (hv p hm))]
      exact S'.pin p hm
theorem wipe_out' {s : L2.St} {i : Nat} : ∀ {vs : List Nat}, i ∉ vs → (wipe s vs)[i]? = s[i]?
  | [], _ => rfl
  | v :: vs, h => by
    have h1 : v ≠ i := fun e => h (by rw [e]; exact List.mem_cons_self)
    have h2 : i ∉ vs := fun m => h (List.mem_cons_of_mem _ m)
    unfold wipe
    rw [List.getElem?_set_ne h1]
    exact wipe_out' h2
theorem wipe_in {s : L2.St} {i : Nat} (hi : i < s.length) : ∀ {vs : List Nat}, i ∈ vs → (wipe s vs)[i]? = some none
  | v :: vs, h => by
    unfold wipe
    by_cases hv : v = i
    · subst hv
      rw [List.getElem?_set_self (by rw [wipe_length]; exact hi)]
    · rw [List.getElem?_set_ne hv]
      exact wipe_in hi ((List.mem_cons.mp h).resolve_left (fun e => hv e.symm))
theorem wipe_but {is vs : List Nat} {s s' : L2.St} (b : But is (wipe s vs) s') (h : ∀ i ∈ is, i ∈ vs) : wipe s' vs = wipe s vs := by
  apply List.ext_getElem?
  intro j
  by_cases hj : j ∈ vs
  · by_cases hlt : j < s.length
    · rw [wipe_in hlt hj, wipe_in (by rw [b.1, wipe_length]; exact hlt) hj]
    · rw [List.getElem?_eq_none (by rw [wipe_length, b.1, wipe_length]; omega), List.getElem?_eq_none (by rw [wipe_length]; omega)]
  · rw [wipe_out' hj, b.2 j (fun z => hj (h j z))]
theorem wipeR_get {j : Nat} {d : D} : ∀ {vs : List Nat} {r : Rho}, (wipeR r vs)[j]? = some (some d) → r[j]? = some (some d) ∧ j ∉ vs
  | [], r, q => ⟨q, by simp⟩
  | v :: vs, r, q => by
    unfold wipeR at q
    by_cases hj : v = j
    · subst hj
      by_cases hlt : v < (wipeR r vs).length
      · rw [List.getElem?_set_self hlt] at q; cases q
      · rw [List.getElem?_eq_none (by simpa using hlt)] at q; cases q
    · rw [List.getElem?_set_ne hj] at q
      obtain ⟨h1, h2⟩ := wipeR_get q
      exact ⟨h1, by simp only [List.mem_cons, not_or]; exact ⟨fun e => hj e.symm, h2⟩⟩
theorem wipeR_length (r : Rho) : ∀ vs : List Nat, (wipeR r vs).length = r.length
  | [] => rfl
  | v :: vs => by unfold wipeR; rw [List.length_set, wipeR_length r vs]
/-- back behind the comprehension: the slots as they were -/
theorem StW.back {r0 : Rho} {T0 : List (D × V)} {ow0 : Ow} {H0 : Hp} {vs : List Nat} (S0 : StW G C ow0 r0 T0 s H0) (S : StW G C ow (wipeR r vs) T (wipe s vs) H) : StW G C ow (backR r0 (wipeR r vs) vs) T s H := by
  have blen : ∀ ws : List Nat, (backR r0 (wipeR r vs) ws).length = (wipeR r vs).length := by
    intro ws
    induction ws with
    | nil => rfl
    | cons w ws ih => unfold backR; rw [List.length_set, ih]
  have bget : ∀ (ws : List Nat) (j : Nat) (d : D), (backR r0 (wipeR r vs) ws)[j]? = some (some d) → (wipeR r vs)[j]? = some (some d) ∨ (r0[j]? = some (some d) ∧ atom d = true ∧ (∀ c, d ≠ .exc c) ∧ d ≠ .any) := by
    intro ws
    induction ws with
    | nil => exact fun j d q => .inl q
    | cons w ws ih =>
      intro j d q
      unfold backR at q
      by_cases hj : w = j
      · subst hj
        by_cases hlt : w < (backR r0 (wipeR r vs) ws).length
        · rw [List.getElem?_set_self hlt] at q
          have q := Option.some.inj q
          split at q
          · rename_i d' e
            split at q
            · rename_i a
              split at q
              · cases q
              · cases q
              · rename_i n1 n2
                cases q
                exact .inr ⟨e, a, fun c z => n1 c z, fun z => n2 z⟩
            · cases q
          · cases q
        · rw [List.getElem?_eq_none (by simpa using hlt)] at q; cases q
      · rw [List.getElem?_set_ne hj] at q
        exact ih j d q
  refine ⟨by rw [blen, S.len, wipe_length], fun j d q => ?_, S.tm, S.old, S.own, S.fo, S.mu, fun p hm => ?_⟩
  · rcases bget vs j d q with q | ⟨q, a, n1, n2⟩
    · obtain ⟨v, h1, h2⟩ := S.sl j d q
      exact ⟨v, (wipe_some h1).1, h2⟩
    · obtain ⟨v, h1, h2⟩ := S0.sl j d q
      refine ⟨v, h1, ?_⟩
      cases d with
      | any => exact absurd rfl n2
      | exc c => exact absurd rfl (n1 c)
      | node k o xs => cases a
      | _ => exact h2
  · exact (wipe_some (S.pin p hm)).1
/-- the last temporary is put behind the list ahead of it -/
def appAt (ow : Ow) (n k : Nat) : Ow := fun a => match ow a with
  | some ⟨.tm j, p⟩ => if j = n + 1 then some ⟨.tm n, k :: p⟩ else some ⟨.tm j, p⟩
  | x => x
theorem StW.appT {acc : List D} {d : D} {a : Addr} {v : V} (S : StW G C ow r (T ++ [(.node .lst true acc, .ref a), (d, v)]) s H) : ∃ vs, H a = some (.lst vs) ∧ vs.length = acc.length ∧ StW G C (appAt ow T.length acc.length) r (T ++ [(.node .lst true (acc ++ [d]), .ref a)]) s (upd H a (.lst (vs ++ [v]))) := by
  have z0 := S.tm T.length (.node .lst true acc) (.ref a) (by simp)
  obtain ⟨a', vs, ev, h1, h2, h3⟩ := z0
  cases ev
  have h1 : H a = some (.lst vs) := h1
  have h2 : ow a = some ⟨.tm T.length, []⟩ := by simpa [OwnAt] using h2
  have zd := S.tm (T.length + 1) d v (by rw [List.getElem?_append_right (by omega)]; simp)
  have ne : ∀ (b : Addr) (l : Loc) (q : List Nat), ow b = none ∨ (∃ q, ow b = some (l.app q)) → l.b ≠ .tm T.length ∨ l.p ≠ [] → b ≠ a := fun b l _ hb hl e => by
    subst e
    rw [h2] at hb
    rcases hb with hb | ⟨q, hb⟩
    · cases hb
    · have hb := Option.some.inj hb
      unfold Loc.app at hb
      injection hb with e1 e2
      rcases hl with hl | hl
      · exact hl e1.symm
      · exact hl (List.append_eq_nil_iff.mp e2.symm).1
  have exn : ∀ (b : Addr) (o : HO), H b = some o → ¬ OwnO (some o) → upd H a (.lst (vs ++ [v])) b = some o := fun b o z n => by
    rw [upd_ne (fun e => by rw [e, h1] at z; cases z; exact n trivial)]; exact z
  refine ⟨vs, h1, h3.length.symm, S.len, fun i d' q => ?_, fun j d' v' q => ?_, fun b o n q => ?_, fun b l q => ?_, fun b q => ?_, fun b l q => ?_, S.pin⟩
  · obtain ⟨v', z1, z2⟩ := S.sl i d' q
    refine ⟨v', z1, Rep.mono (l := ⟨.sl i, []⟩) d' (fun b o z y => by rw [upd_ne (ne b ⟨.sl i, []⟩ [] y (.inl (fun z => nomatch z)))]; exact z) (fun b o z n => exn b o z n) (fun a o _ n => by unfold appAt; rw [n]) (fun a o q _ n => ?_) z2⟩
    have n' : ow a = some ⟨.sl i, [] ++ q⟩ := n
    unfold appAt
    rw [n']
    rfl
  · by_cases hj : j < T.length
    · rw [List.getElem?_append_left hj] at q
      have z := S.tm j d' v' (by rw [List.getElem?_append_left hj]; exact q)
      refine Rep.mono (l := ⟨.tm j, []⟩) d' (fun b o z y => by rw [upd_ne (ne b ⟨.tm j, []⟩ [] y (.inl (fun z => by injection z with z; omega)))]; exact z) (fun b o z n => exn b o z n) (fun a o _ n => by unfold appAt; rw [n]) (fun a o q _ n => ?_) z
      have n' : ow a = some ⟨.tm j, [] ++ q⟩ := n
      unfold appAt
      rw [n']
      have : ¬ j = T.length + 1 := by omega
      simp [Loc.app, this]
    · rw [List.getElem?_append_right (by omega)] at q
      have e : j = T.length := by
        have := (List.getElem?_eq_some_iff.mp q).1
        simp at this; omega
      subst e
      simp at q
      obtain ⟨e1, e2⟩ := q
      subst e1; subst e2
      refine ⟨a, vs ++ [v], rfl, upd_same, .mk ?_, Reps.of_get (by simp [h3.length]) fun m dm vm q1 q2 => ?_⟩
      · unfold appAt; rw [h2]; simp
      · by_cases hm : m < acc.length
        · rw [List.getElem?_append_left hm] at q1
          rw [List.getElem?_append_left (by rw [← h3.length]; exact hm)] at q2
          obtain ⟨vm', y1, y2⟩ := h3.get m dm q1
          rw [q2] at y1
          cases y1
          refine Rep.mono (l := Loc.sub ⟨.tm T.length, []⟩ (0 + m)) dm (fun b o z y => by rw [upd_ne (ne b (Loc.sub ⟨.tm T.length, []⟩ (0 + m)) [] y (.inr (by simp [Loc.sub])))]; exact z) (fun b o z n => exn b o z n) (fun a o _ n => by unfold appAt; rw [n]) (fun a o q _ n => ?_) y2
          have n' : ow a = some ⟨.tm T.length, m :: q⟩ := by rw [n]; simp [Loc.sub, Loc.app]
          unfold appAt
          rw [n']
          simp [Loc.app, Loc.sub]
        · rw [List.getElem?_append_right (by omega)] at q1
          rw [List.getElem?_append_right (by rw [← h3.length]; omega), ← h3.length] at q2
          have em : m = acc.length := by
            have := (List.getElem?_eq_some_iff.mp q1).1
            simp at this; omega
          subst em
          simp at q1 q2
          subst q1; subst q2
          refine Rep.mono (l := ⟨.tm (T.length + 1), []⟩) d (fun b o z y => by rw [upd_ne (ne b ⟨.tm (T.length + 1), []⟩ [] y (.inl (fun z => by injection z with z; omega)))]; exact z) (fun b o z n => exn b o z n) (fun a o _ n => by unfold appAt; rw [n]) (fun a o q _ n => ?_) zd
          have n' : ow a = some ⟨.tm (T.length + 1), [] ++ q⟩ := n
          unfold appAt
          rw [n']
          simp [Loc.app, Loc.sub]
  · by_cases hb : b = a
    · subst hb
      have z := S.old b o n q
      rcases S.own b _ h2 with z2 | z2 | z2
      · cases z2
      · rw [z2] at q; cases q
      · exact absurd z2 n
    · rw [upd_ne hb]; exact S.old b o n q
  · cases e : ow b with
    | none => unfold appAt at q; rw [e] at q; cases q
    | some m =>
      obtain ⟨mb, mp⟩ := m
      cases mb with
      | fo =>
        unfold appAt at q; rw [e] at q; cases q
        exact .inl rfl
      | sl j => exact (S.own b _ e).elim (fun z => nomatch z) .inr
      | tm j => exact (S.own b _ e).elim (fun z => nomatch z) .inr
  · have z := S.fo b q
    unfold appAt; rw [z]
  · by_cases hb : b = a
    · subst hb; rw [upd_same]; trivial
    · rw [upd_ne hb]
      cases e : ow b with
      | none => unfold appAt at q; rw [e] at q; cases q
      | some m => exact S.mu b m e
/-- the temporaries in another order -/
def permT (ow : Ow) (f : Nat → Nat) : Ow := fun a => match ow a with
  | some ⟨.tm j, p⟩ => some ⟨.tm (f j), p⟩
  | x => x
theorem StW.perm {f : Nat → Nat} (S : StW G C ow r T1 s H) (hf : ∀ (j : Nat) (p : D × V), T2[j]? = some p → ∃ i, T1[i]? = some p ∧ f i = j) : StW G C (permT ow f) r T2 s H where
  len := S.len
  sl := fun i d q => by
    obtain ⟨v', z1, z2⟩ := S.sl i d q
    refine ⟨v', z1, Rep.mono (l := ⟨.sl i, []⟩) d (fun _ _ z _ => z) (fun _ _ z _ => z) (fun a o _ n => by unfold permT; rw [n]) (fun a o q _ n => ?_) z2⟩
    have n' : ow a = some ⟨.sl i, [] ++ q⟩ := n
    unfold permT
    rw [n']
    rfl
  tm := fun j d v q => by
    obtain ⟨i, h1, h2⟩ := hf j (d, v) q
    refine Rep.mono (l := ⟨.tm i, []⟩) d (fun _ _ z _ => z) (fun _ _ z _ => z) (fun a o _ n => by unfold permT; rw [n]) (fun a o q _ n => ?_) (S.tm i d v h1)
    have n' : ow a = some ⟨.tm i, [] ++ q⟩ := n
    unfold permT
    rw [n']
    simp [Loc.app, h2]
  old := S.old
  own := fun a l q => by
    cases e : ow a with
    | none => unfold permT at q; rw [e] at q; cases q
    | some m =>
      obtain ⟨mb, mp⟩ := m
      cases mb with
      | fo =>
        unfold permT at q; rw [e] at q; cases q
        exact .inl rfl
      | sl j => exact (S.own a _ e).elim (fun z => nomatch z) .inr
      | tm j => exact (S.own a _ e).elim (fun z => nomatch z) .inr
  fo := fun a q => by
    have z := S.fo a q
    unfold permT; rw [z]
  mu := fun a l q => by
    cases e : ow a with
    | none => unfold permT at q; rw [e] at q; cases q
    | some m => exact S.mu a m e
  pin := S.pin
theorem StOk.swap {A B : List (D × V)} (S : StOk G C r (T ++ (A ++ B)) s H) : StOk G C r (T ++ (B ++ A)) s H := by
  obtain ⟨ow, S⟩ := S
  refine ⟨_, S.perm (f := fun i => if i < T.length then i else if i < T.length + A.length then i + B.length else i - A.length) fun j p q => ?_⟩
  by_cases h1 : j < T.length
  · refine ⟨j, ?_, if_pos h1⟩
    rw [List.getElem?_append_left h1] at q ⊢
    exact q
  · rw [List.getElem?_append_right (by omega)] at q
    by_cases h2 : j < T.length + B.length
    · rw [List.getElem?_append_left (by omega)] at q
      refine ⟨j + A.length, ?_, ?_⟩
      · rw [List.getElem?_append_right (by omega), List.getElem?_append_right (by omega), show j + A.length - T.length - A.length = j - T.length by omega]
        exact q
      · rw [if_neg (by omega), if_neg (by omega)]
        omega
    · rw [List.getElem?_append_right (by omega)] at q
      have hlt := (List.getElem?_eq_some_iff.mp q).1
      refine ⟨j - B.length, ?_, ?_⟩
      · rw [List.getElem?_append_right (by omega), List.getElem?_append_left (by omega), show j - B.length - T.length = j - T.length - B.length by omega]
        exact q
      · show (if j - B.length < T.length then j - B.length else if j - B.length < T.length + A.length then j - B.length + B.length else j - B.length - A.length) = j
        rw [if_neg (by omega), if_pos (by omega)]
        omega
theorem tail_two {α : Type} (l : List α) (x y : α) : l ++ [x] ++ [y] = l ++ [x, y] := by simp
abbrev VTs (X : Cx) (G : GX) (C : Fc) (W : WX) (ifs : List Expr) (fc : Option Ev) : Prop := PTs X ifs (tVT G C W (tstR fc))
theorem vts_nil : VTs X G C W [] none := by
  refine ⟨fun pins s σ H Q I h => pts_nil.run pins s σ H Q I ?_⟩
  obtain ⟨r, T, S, h⟩ := h
  exact h _ S
theorem vts_one {c : Expr} (h : VT X G C W c fc) : VTs X G C W [c] (some fc) := pts_one h
abbrev Blk := ∀ (s : Shared) (H : Hp) (C : Addr) (cl : List (Str × Addr)) (fp : List Addr), Prop
/-- the reading of a comprehension, by the turns -/
theorem lc_go {vs : List Nat} {t : Tg} {fi : Iv} {fc : Option Ev} {fe : Ev} {Q : VK} (hpin : ∀ p ∈ C.pin, p.1 ∉ vs) (ht : ∀ i ∈ t.slots, i ∈ vs) (h : tV G C W (cLc vs t fi fc fe) s H Q) :
    tLc (tVI G C W fi) (tVG G C t) (tVT G C W0 (tstR fc)) (tV G C W0 (cSet fe)) vs s H Q := by
  obtain ⟨r, T, S, h⟩ := h
  refine ⟨r, T, S, ?_⟩
  have h : Goes G C W T s Q (cLc vs t fi fc fe r) := h
  unfold cLc at h
  cases e : fi r with
  | exc c r1 => simp only [e] at h; exact h
  | bad => simp only [e] at h; exact h.elim
  | ok ds r1 =>
    simp only [e] at h
    intro J H1 tk hk S1 da hD
    have pins : ∀ {r' : Rho} {T' : List (D × V)} {s' : L2.St} {H' : Hp}, StOk G C r' T' s' H' → StOk G C (wipeR r' vs) T' (wipe s' vs) H' := fun {r' T' s' H'} ⟨ow', S'⟩ => ⟨ow', S'.wipes hpin⟩
    cases eL : lcL t fc fe vs ds [] (wipeR r1 vs) with
    | bad => rw [eL] at h; exact h.elim
    | ok acc r2 =>
      simp only [eL] at h
      -- the list is laid ahead of what is walked
      have S2 : StOk G C (wipeR r1 vs) (T ++ ([(.node .lst true [], .ref da)] ++ tk 0)) (wipe s vs) (upd H1 da (.lst [])) := by
        have z : StOk G C r1 ((T ++ tk 0) ++ [(.node .lst true [], .ref da)]) s (upd H1 da (.lst [])) := StOk.alloc (ds := []) (vs := []) true (by simpa using S1) rfl hD holds_lst (fun _ => trivial)
        rw [List.append_assoc] at z
        exact pins z.swap
      refine ⟨fun i m H' => m = ds.length - i ∧ i ≤ ds.length ∧ ∃ ac r', StOk G C (wipeR r' vs) (T ++ ([(.node .lst true ac, .ref da)] ++ tk i)) (wipe s vs) H' ∧ lcL t fc fe vs (ds.drop i) ac (wipeR r' vs) = .ok acc r2,
        ⟨ds.length, by simp, Nat.zero_le _, [], r1, S2, by simpa using eL⟩, ?_⟩
      rintro i m H' ⟨rfl, hi', ac, r', S', h'⟩
      rw [← List.append_assoc] at S'
      by_cases hlt : i < ds.length
      · have ed : ds[i]? = some ds[i] := List.getElem?_eq_getElem hlt
        obtain ⟨k1, k2⟩ := hk.1 i ds[i] _ _ _ H' ed S'
        rw [List.drop_eq_getElem_cons hlt] at h'
        refine .inr ⟨k1, fun H' => i + 1 ≤ ds.length ∧ ∃ ac r', StOk G C (wipeR r' vs) (T ++ ([(.node .lst true ac, .ref da)] ++ tk (i + 1))) (wipe s vs) H' ∧ lcL t fc fe vs (ds.drop (i + 1)) ac (wipeR r' vs) = .ok acc r2,
          fun H2 n2 => ⟨ds.length - (i + 1), by omega, rfl, n2.1, n2.2⟩, fun x H2 y => ?_⟩
        have S3 := k2 x H2 y
        refine ⟨_, _, ds[i], S3, ?_⟩
        unfold lcL at h'
        cases e1 : tgt t ds[i] (wipeR r' vs) with
        | none => simp only [e1] at h'; cases h'
        | some r3 =>
          simp only [e1] at h' ⊢
          intro s4 H4 S4 b4
          have hw : wipe s4 vs = wipe s vs := wipe_but b4 ht
          refine ⟨hw, _, _, S4, ?_⟩
          cases e2 : tstR fc r3 with
          | exc c r4 => simp only [e2] at h'; cases h'
          | bad => simp only [e2] at h'; cases h'
          | ok xb r4 =>
            simp only [e2] at h' ⊢
            cases xb with
            | loc _ => cases h'
            | val db =>
              cases db with
              | bl b =>
                cases b with
                | false =>
                  intro H5 S5
                  rw [if_neg Bool.false_ne_true]
                  have S6 := pins S5
                  rw [hw] at S6
                  rw [List.append_assoc] at S6
                  exact ⟨hlt, ac, r4, S6, h'⟩
                | true =>
                  intro H5 S5
                  rw [if_pos rfl]
                  refine ⟨_, _, S5, ?_⟩
                  simp only at h'
                  cases e3 : cSet fe r4 with
                  | exc c r5 => simp only [e3] at h'; cases h'
                  | bad => simp only [e3] at h'; cases h'
                  | ok xe r5 =>
                    cases xe with
                    | loc _ => simp only [e3] at h'; cases h'
                    | val d =>
                      simp only [e3] at h'
                      split at h'
                      · rename_i hz
                        intro yv H6 P6
                        have S6 : StOk G C r5 (T ++ [(.node .lst true ac, .ref da)] ++ tk (i + 1) ++ [(d, yv)]) s4 H6 := P6.1
                        have S7 : StOk G C r5 (T ++ (([(.node .lst true ac, .ref da)] ++ tk (i + 1)) ++ [(d, yv)])) s4 H6 := by simpa [List.append_assoc] using S6
                        have S8 : StOk G C r5 ((T ++ tk (i + 1)) ++ [(.node .lst true ac, .ref da), (d, yv)]) s4 H6 := by
                          have z : StOk G C r5 (T ++ ([(.node .lst true ac, .ref da)] ++ (tk (i + 1) ++ [(d, yv)]))) s4 H6 := by simpa [List.append_assoc] using S6
                          have z2 : StOk G C r5 ((T ++ tk (i + 1)) ++ ([(d, yv)] ++ [(.node .lst true ac, .ref da)])) s4 H6 := by simpa [List.append_assoc] using z.swap
                          exact z2.swap
                        obtain ⟨ow8, S8⟩ := S8
                        obtain ⟨vs', q1, q2, S9⟩ := S8.appT
                        refine ⟨vs', q1, by rw [q2, sizeLine_eq]; exact hz, hlt, ac ++ [d], r5, ?_, h'⟩
                        have S10 : StOk G C r5 (T ++ (tk (i + 1) ++ [(.node .lst true (ac ++ [d]), .ref da)])) s4 (upd H6 da (.lst (vs' ++ [yv]))) := ⟨_, by rw [← List.append_assoc]; exact S9⟩
                        have S11 := pins S10.swap
                        rw [hw] at S11
                        exact S11
                      · cases h'
              | _ => cases h'
      · have ei : i = ds.length := by omega
        subst ei
        rw [List.drop_length] at h'
        unfold lcL at h'
        injection h' with e1 e2
        subst e1
        subst e2
        refine .inl ⟨hk.2 _ _ _ H' S', ?_⟩
        have S3 : StOk G C (wipeR r' vs) (T ++ [(.node .lst true ac, .ref da)]) (wipe s vs) H' := S'.drop
        obtain ⟨ow0, S0⟩ := S1
        obtain ⟨ow3, S3⟩ := S3
        exact h _ _ ⟨⟨ow3, S0.back S3⟩, trivial⟩
end
end VL

namespace VL
open PySem PySem.Spec PyProof.Rows L2
section
variable {X : Cx} {G : GX} {C : Fc} {W : WX} {ow ow' : Ow} {r : Rho} {T T1 T2 : List (D × V)} {s : L2.St} {H H' : Hp} {fa fb fc : Ev} {f g : Sv} {fs : Av}
theorem ve_lc {elt tg iter : Expr} {ifs : List Expr} {scope : Scope} {own : List (Str × Nat)} {pos : Pos} {fi : Iv} {t : Tg} {ft : Option Ev} {fe : Ev} (hc : X.calm = true) (hN : X.N.Nodup) (hi : VI X G C W tg iter fi) (ok : BlkOk X.N X.env.scope scope own)
    (hpin : ∀ p ∈ C.pin, p.1 ∉ own.map (·.2)) (hts : ∀ i ∈ t.slots, i ∈ own.map (·.2))
    (hg : ∀ (s : Shared) (H : Hp) (ca : Addr) (cl : List (Str × Addr)) (fp : List Addr), VG (X.blk s H scope (compEnvC scope cl ca X.env) fp) G C tg t) (ht : ∀ (s : Shared) (H : Hp) (ca : Addr) (cl : List (Str × Addr)) (fp : List Addr), VTs (X.blk s H scope (compEnvC scope cl ca X.env) fp) G C W0 ifs ft)
    (he : ∀ (s : Shared) (H : Hp) (ca : Addr) (cl : List (Str × Addr)) (fp : List Addr), VE (X.blk s H scope (compEnvC scope cl ca X.env) fp) G C W0 elt fe) (hs : ∀ x, foldedSetIterable iter X.env x = pure x := by intro _; rfl) :
    VE X G C W (.ListComp elt [⟨tg, iter, ifs, 0⟩] scope pos) (cLc (own.map (·.2)) t fi ft fe) :=
  PE.imp (pe_lc hc hN hi ok hg ht (fun s H ca cl fp => ve_set (he s H ca cl fp)) hs) fun s H Q h => lc_go hpin hts h
theorem vs_setLc {i : Nat} {y : Str} {py : Pos} {elt tg iter : Expr} {ifs : List Expr} {scope : Scope} {own : List (Str × Nat)} {pos spos : Pos} {fi : Iv} {t : Tg} {ft : Option Ev} {fe : Ev} (hc : X.calm = true) (hN : X.N.Nodup) (hy : X.N[i]? = some y) (hyl : X.env.scope.names.lookup y = some .local) (hp : ∀ p ∈ C.pin, p.1 ≠ i)
    (hsw : swapsWith (.ListComp elt [⟨tg, iter, ifs, 0⟩] scope pos) (some (.Name y py)) spos.line X.env = pure true) (hi : VI X G C W tg iter fi) (ok : BlkOk X.N X.env.scope scope own)
    (hpin : ∀ p ∈ C.pin, p.1 ∉ own.map (·.2)) (hts : ∀ i ∈ t.slots, i ∈ own.map (·.2))
    (hg : ∀ (s : Shared) (H : Hp) (ca : Addr) (cl : List (Str × Addr)) (fp : List Addr), VG (X.blk s H scope (compEnvC scope cl ca X.env) fp) G C tg t) (ht : ∀ (s : Shared) (H : Hp) (ca : Addr) (cl : List (Str × Addr)) (fp : List Addr), VTs (X.blk s H scope (compEnvC scope cl ca X.env) fp) G C W0 ifs ft)
    (he : ∀ (s : Shared) (H : Hp) (ca : Addr) (cl : List (Str × Addr)) (fp : List Addr), VE (X.blk s H scope (compEnvC scope cl ca X.env) fp) G C W0 elt fe) (hs : ∀ x, foldedSetIterable iter X.env x = pure x := by intro _; rfl) :
    VS X G C W (.Assign [.Name y py] (.ListComp elt [⟨tg, iter, ifs, 0⟩] scope pos) spos) (cAsg (.nm i) (cLc (own.map (·.2)) t fi ft fe)) := by
  refine PS.imp (ps_setLc hc hN hy hyl hsw hi ok hg ht (fun s H ca cl fp => ve_set (he s H ca cl fp)) hs) fun D s H h => ?_
  obtain ⟨r, T, S, h⟩ := h
  have z : tV G C W (cSet (cLc (own.map (·.2)) t fi ft fe)) s H fun x H1 => gName i x s H1 D.nx := by
    refine oneS (fa := cSet (cLc (own.map (·.2)) t fi ft fe)) S h fun x v r1 H1 P g => ?_
    cases x with
    | loc i => exact g.elim
    | val d => exact g _ _ (P.1.set hp)
  refine lc_go hpin hts ?_
  -- a comprehension's value is its own: handing it on changes nothing
  obtain ⟨r', T', S', g⟩ := z
  refine ⟨r', T', S', ?_⟩
  unfold cSet at g
  cases e : cLc (own.map (·.2)) t fi ft fe r' with
  | exc c r1 => rw [e] at g; exact g
  | bad => rw [e] at g; exact g
  | ok x r1 =>
    rw [e] at g
    cases x with
    | val d => exact g
    | loc j =>
      unfold cLc at e
      split at e
      · split at e <;> cases e
      · cases e
      · cases e

/-! ### a def's promise -/
inductive FO where
  | ok (d : D) | exc (c : Nat) | bad
/-- what lies behind a call: the value, with all that it owns new -/
def Behind (G : GX) (ow0 : Ow) (H H' : Hp) (d : D) (v : V) : Prop :=
  ∃ (ow1 : Ow) (b : Bs), b ≠ .fo ∧ Rep G ow1 H' d ⟨b, []⟩ v ∧ (∀ a l, ow1 a = some l → l.b ≠ .fo → H a = none) ∧ (∀ a, ow0 a ≠ none → ow1 a = some ⟨.fo, []⟩) ∧ ∀ a l, ow1 a = some l → OwnO (H' a)
def spV (G : GX) (n : Nat) (F : List D → FO) : Sp := fun vs H Q E => ∃ (ds : List D) (ow0 : Ow), ds.length = n ∧ frzs ds = ds ∧ (∀ a l, ow0 a = some l → OwnO (H a)) ∧ Reps G ow0 H ds ⟨.fo, []⟩ 0 vs ∧ match F ds with
  | .ok d => ∀ v H', Ext H H' → Behind G ow0 H H' d v → Q v H'
  | .exc c => ∀ H', Ext H H' → E (.ref (G c)) none H'
  | .bad => False
theorem spV_len {n : Nat} {F : List D → FO} {vs : List V} {Q : VK} {E : XK} (h : spV G n F vs H Q E) : vs.length = n := by
  obtain ⟨ds, ow0, h1, _, _, h4, _⟩ := h
  rw [← h4.length, h1]
def startR (n : Nat) (ds : List D) : Rho := ds.map some ++ List.replicate (n - ds.length) none
/-- a def by its body: n names -/
def runF (n : Nat) (f : Sv) (ds : List D) : FO := match f (startR n ds) with
  | .rt x r => (match opd r x with
    | some d => .ok d
    | none => .bad)
  | .nx _ => .ok .non
  | .exc c _ => .exc c
  | _ => .bad
def FO.app (x : FO) (k : D → EO) (e : Nat → EO) : EO := match x with
  | .ok d => k d
  | .exc c => e c
  | .bad => .bad
def fcOf (H : Hp) (ow0 : Ow) : Fc := ⟨H, fun _ => False, fun a => ow0 a ≠ none, []⟩
def owOf (ow0 : Ow) : Ow := fun a => match ow0 a with
  | some _ => some ⟨.fo, []⟩
  | none => none
theorem start_get {N : List Str} {vs : List V} {i : Nat} {v : V} (h : vs[i]? = some v) : (L2.start N vs)[i]? = some (some v) := by
  unfold L2.start
  rw [List.getElem?_append_left (by simpa using (List.getElem?_eq_some_iff.mp h).1), List.getElem?_map, h]; rfl
theorem startR_get {n : Nat} {ds : List D} {i : Nat} {d : D} (h : (startR n ds)[i]? = some (some d)) : ds[i]? = some d := by
  unfold startR at h
  by_cases hi : i < ds.length
  · rw [List.getElem?_append_left (by simpa using hi), List.getElem?_map] at h
    cases e : ds[i]? with
    | none => rw [e] at h; cases h
    | some a => rw [e] at h; cases h; rfl
  · rw [List.getElem?_append_right (by simpa using hi), List.getElem?_replicate] at h
    split at h <;> cases h
theorem start_ok {N : List Str} {ds : List D} {vs : List V} {ow0 : Ow} (hm : ∀ a l, ow0 a = some l → OwnO (H a)) (e : frzs ds = ds) (h : Reps G ow0 H ds ⟨.fo, []⟩ 0 vs) : StW G (fcOf H ow0) (owOf ow0) (startR N.length ds) [] (L2.start N vs) H where
  len := by
    unfold startR L2.start
    simp [h.length]
  sl := fun i d q => by
    obtain ⟨v, h1, h2⟩ := h.get i d (startR_get q)
    have f : frz d = d := by
      have := congrArg (·[i]?) e
      simp only [frzs_map, List.getElem?_map, startR_get q, Option.map_some] at this
      exact Option.some.inj this
    exact ⟨v, start_get h1, Rep.moveF d f (fun a o z q => ⟨z, by unfold owOf; rw [q]⟩) (fun _ _ z _ => z) h2⟩
  tm := fun j d v q => by simp at q
  old := fun a o _ z => z
  own := fun a l q => by
    unfold owOf at q
    split at q
    · cases q; exact .inl rfl
    · cases q
  fo := fun a q => by
    unfold owOf
    cases e : ow0 a with
    | none => exact absurd e q
    | some l => rfl
  mu := fun a l q => by
    unfold owOf at q
    split at q
    · rename_i m e; exact hm a m e
    · cases q
  pin := fun p hp => by simp [fcOf] at hp
theorem behind_of {ow0 : Ow} {d : D} {v : V} {b : Bs} (hb : b ≠ .fo) {r : Rho} {T : List (D × V)} {s : L2.St} (S : StW G (fcOf H ow0) ow r T s H') (h : Rep G ow H' d ⟨b, []⟩ v) : Behind G ow0 H H' d v :=
  ⟨ow, b, hb, h, fun a l q n => (S.own a l q).elim (fun z => absurd z n) fun z => z.elim id False.elim, fun a q => S.fo a q, S.mu⟩
theorem ext_of {ow0 : Ow} {r : Rho} {T : List (D × V)} {s : L2.St} (S : StW G (fcOf H ow0) ow r T s H') : Ext H H' := fun a o q => S.old a o (fun z => z) q
end
section
variable {P : Program} {w : World} {K : PySem.W.Frag} {mg : Str → Option Value} {base : Heap} {G : GX}
/-- THE RULE for a def -/
theorem fnV {x qual : Str} {st : Stmt} {f : Addr} {fd : FuncData} {N ps : List Str} {k : Nat} {fb : Sv} (F : Fun K x qual st f fd) (S : FnScope N ps (defScope st))
    (hbody : ∀ (X : Cx) (C : Fc) (W : WX), X.prog = P → X.w = w → X.K = K → X.mg = mg → X.base = base → X.N = N → X.env.scope = defScope st → X.calm = true → X.ex = [] → Room k X.A → (∀ x, X.fn x = true) → C.pin = [] → Takes X W → PassesOwn (model X.prog X.w) X.A X.env X.xe → X.stack = X.env :: X.outer → X.env.frame = some X.env.locals → X.env.scope.kind = .function → VSs X G C W (defBody st) fb) :
    FnOk P w K mg base (L2.CX P w) (k + 1) f fd ps (spV G ps.length (runF N.length fb)) := by
  refine F.okX S (fun vs H Q E h => spV_len h) (fun cdv A outer s H vs Q E hr h => ?_)
  obtain ⟨ds, ow0, h1, h2, h3, h4, h5⟩ := h
  refine ⟨_, hbody (cxOf (L2.CX P w) P w K mg base N qual (defScope st) f cdv A outer s H E) (fcOf H ow0) (fun cls d _ H => E cls d H) rfl rfl rfl rfl rfl rfl rfl rfl rfl hr (fun _ => rfl) rfl (takes_of rfl rfl rfl rfl) (passes_of rfl) rfl rfl S.kind, ?_⟩
  refine ⟨startR N.length ds, [], ⟨_, start_ok (N := N) h3 h2 h4⟩, ?_⟩
  unfold runF at h5
  cases e : fb (startR N.length ds) with
  | nx r =>
    rw [e] at h5
    intro s' H' S'
    obtain ⟨ow, S'⟩ := S'
    exact h5 .non H' (ext_of S') (behind_of (b := .tm 0) (fun z => nomatch z) S' rfl)
  | rt x r =>
    simp only [e] at h5
    intro s' v H' P'
    cases e2 : opd r x with
    | none => rw [e2] at h5; exact h5.elim
    | some d =>
      rw [e2] at h5
      obtain ⟨⟨ow, S'⟩, l⟩ := P'
      have z := opd_rep (T := []) (T2 := []) (by simpa using S') l e2
      refine h5 v H' (ext_of S') ?_
      cases x with
      | val d' => exact behind_of (b := .tm 0) (fun z => nomatch z) S' z
      | loc i => exact behind_of (b := .sl i) (fun z => nomatch z) S' z
  | exc c r =>
    simp only [e] at h5
    intro s' H' S'
    obtain ⟨ow, S'⟩ := S'
    exact h5 H' (ext_of S')
  | bk r => rw [e] at h5; exact h5.elim
  | ct r => rw [e] at h5; exact h5.elim
  | bad => rw [e] at h5; exact h5.elim
end

/-! ### a call -/
def isTup : Kd → Bool
  | .tup => true
  | _ => false
mutual
/-- no list, dict or instance in it is shared -/
def noL : D → Bool
  | .node k o xs => (o || isTup k) && noLs xs
  | .any => false
  | _ => true
def noLs : List D → Bool
  | [] => true
  | d :: ds => noL d && noLs ds
end
def callK (F : List D → FO) (xs : List R) (r : Rho) : EO := match opds r xs with
  | some ds => (match F (frzs ds) with
    | .ok d => if noL d = true then .ok (.val d) r else .ok (.val d) (settles r xs)
    | .exc c => .exc c r
    | .bad => .bad)
  | none => .bad
def cCall (n : Nat) (F : List D → FO) (fs : Av) : Ev := fun r => (fs r).bd fun xs r1 => if xs.length = n then callK F xs r1 else .bad
section
variable {X : Cx} {G : GX} {C : Fc} {W : WX} {ow ow' : Ow} {r : Rho} {T T1 T2 : List (D × V)} {s : L2.St} {H H' : Hp} {fs : Av}
/-- who owns what behind a call -/
def aft (H : Hp) (ow ow1 : Ow) (n : Nat) : Ow := fun a => match H a with
  | none => (match ow1 a with
    | some l => some ⟨.tm n, l.p⟩
    | none => none)
  | some _ => ow a
mutual
theorem Rep.aft : ∀ (d : D) {l l' : Loc} {v : V} {ow1 : Ow} {n : Nat}, (∀ a k vs, k ≠ .rd → Holds G H' a k vs → (isTup k = true ∨ VL.noL d = false) → ow1 a = none → H a ≠ none → ow a = none) → (∀ a m, ow1 a = some m → m.b ≠ .fo → H a = none) → l.b ≠ .fo → l'.b = .tm n → l'.p = l.p → Rep G ow1 H' d l v → Rep G (VL.aft H ow ow1 n) H' d l' v
  | .any, _, _, _, _, _, _, _, _, _, _, _ => trivial
  | .non, _, _, _, _, _, _, _, _, _, _, h => h
  | .bl _, _, _, _, _, _, _, _, _, _, _, h => h
  | .int _, _, _, _, _, _, _, _, _, _, _, h => h
  | .str _, _, _, _, _, _, _, _, _, _, _, h => h
  | .exc _, _, _, _, _, _, _, _, _, _, _, h => h
  | .ty _, _, _, _, _, _, _, _, _, _, _, h => h
  | .cls _, _, _, _, _, _, _, _, _, _, _, h => h
  | .node k o xs, l, l', v, ow1, n, hz, hn, hb, hb', hp, h => by
    obtain ⟨a, vs, ev, h1, h2, h3⟩ := h
    have un : VL.noLs xs = false → VL.noL (.node k o xs) = false := fun z => by
      show ((o || isTup k) && VL.noLs xs) = false
      rw [z, Bool.and_false]
    refine ⟨a, vs, ev, h1, ?_, Reps.aft xs (fun a k' vs' nr z y => hz a k' vs' nr z (y.imp id un)) hn hb hb' hp h3⟩
    by_cases hrd : k = .rd
    · subst hrd; trivial
    have h2 := h2.cases.resolve_left hrd
    refine .mk ?_
    cases o with
    | true =>
      have q : ow1 a = some l := by simpa using h2
      have z := hn a l q hb
      unfold VL.aft
      rw [z, q]
      obtain ⟨lb, lp⟩ := l'
      cases hb'
      cases hp
      rfl
    | false =>
      have q : ow1 a = none := by simpa using h2
      have hk : isTup k = true ∨ VL.noL (.node k false xs) = false := by
        cases e : isTup k with
        | true => exact .inl rfl
        | false =>
          refine .inr ?_
          show ((false || isTup k) && VL.noLs xs) = false
          rw [e]; rfl
      unfold VL.aft
      cases z : H a with
      | none => simp only [q]; rfl
      | some u => exact hz a k vs hrd h1 hk q (by rw [z]; exact fun y => nomatch y)
theorem Reps.aft : ∀ (ds : List D) {l l' : Loc} {i : Nat} {vs : List V} {ow1 : Ow} {n : Nat}, (∀ a k vs, k ≠ .rd → Holds G H' a k vs → (isTup k = true ∨ VL.noLs ds = false) → ow1 a = none → H a ≠ none → ow a = none) → (∀ a m, ow1 a = some m → m.b ≠ .fo → H a = none) → l.b ≠ .fo → l'.b = .tm n → l'.p = l.p → Reps G ow1 H' ds l i vs → Reps G (VL.aft H ow ow1 n) H' ds l' i vs
  | [], _, _, _, _, _, _, _, _, _, _, _, h => h
  | d :: ds, l, l', i, vs, ow1, n, hz, hn, hb, hb', hp, h => by
    obtain ⟨v, ws, ev, h1, h2⟩ := h
    have u1 : VL.noL d = false → VL.noLs (d :: ds) = false := fun z => by show (VL.noL d && VL.noLs ds) = false; rw [z]; rfl
    have u2 : VL.noLs ds = false → VL.noLs (d :: ds) = false := fun z => by show (VL.noL d && VL.noLs ds) = false; rw [z, Bool.and_false]
    exact ⟨v, ws, ev, Rep.aft (l := l.sub i) (l' := l'.sub i) d (fun a k vs nr z y => hz a k vs nr z (y.imp id u1)) hn hb hb' (by show l'.p ++ [i] = l.p ++ [i]; rw [hp]) h1, Reps.aft ds (fun a k vs nr z y => hz a k vs nr z (y.imp id u2)) hn hb hb' hp h2⟩
end
/-- behind a call, the state with the value -/
theorem StW.aft {d : D} {v : V} {ow1 : Ow} (S : StW G C ow r T s H) (hx : Ext H H') (hm : ∀ a m, ow1 a = some m → OwnO (H' a)) (hr : Rep G (VL.aft H ow ow1 T.length) H' d ⟨.tm T.length, []⟩ v) : StW G C (VL.aft H ow ow1 T.length) r (T ++ [(d, v)]) s H' := by
  have keep : ∀ a o, H a = some o → VL.aft H ow ow1 T.length a = ow a := fun a o z => by unfold VL.aft; rw [z]
  have S' : StW G C (VL.aft H ow ow1 T.length) r T s H' := by
    refine ⟨S.len, fun i d q => ?_, fun j d v q => ?_, fun a o n q => hx a o (S.old a o n q), fun a l q => ?_, fun a q => ?_, fun a l q => ?_, S.pin⟩
    · obtain ⟨v', z1, z2⟩ := S.sl i d q
      exact ⟨v', z1, Rep.mono (l := ⟨.sl i, []⟩) d (fun a o z _ => hx a o z) (fun a o z _ => hx a o z) (fun a o z n => by rw [keep a o z, n]) (fun a o q z n => by rw [keep a o z, n]) z2⟩
    · exact Rep.mono (l := ⟨.tm j, []⟩) d (fun a o z _ => hx a o z) (fun a o z _ => hx a o z) (fun a o z n => by rw [keep a o z, n]) (fun a o q z n => by rw [keep a o z, n]) (S.tm j d v q)
    · cases z : H a with
      | some o => rw [keep a o z] at q; exact S.own a l q
      | none =>
        refine .inr ?_
        cases e : C.H0 a with
        | none => exact .inl rfl
        | some u =>
          by_cases hi : C.io a
          · exact .inr hi
          · rw [S.old a u hi e] at z; cases z
    · have z := S.fo a q
      have m := S.mu a _ z
      cases y : H a with
      | none => rw [y] at m; exact m.elim
      | some o => rw [keep a o y]; exact z
    · cases z : H a with
      | some o =>
        rw [keep a o z] at q
        have m := S.mu a l q
        rw [z] at m
        rw [hx a o z]
        exact m
      | none =>
        unfold VL.aft at q
        rw [z] at q
        cases y : ow1 a with
        | none => rw [y] at q; cases q
        | some m => exact hm a m y
  exact S'.push hr
theorem call_go {n : Nat} {F : List D → FO} {Q : VK} {xs : List R} {vs : List V} (S : StOk G C r (T ++ pushs xs vs) s H) (l : LocsOk s xs vs) (h : Goes G C W T s Q (if xs.length = n then callK F xs r else .bad)) : spV G n F vs H Q (WE W s) := by
  split at h
  · rename_i hn
    unfold callK at h
    cases e : opds r xs with
    | none => rw [e] at h; exact h.elim
    | some ds =>
      simp only [e] at h
      obtain ⟨ow, S⟩ := S
      obtain ⟨ow0, S0, h1, h2, h3⟩ := S.settles l e
      refine ⟨frzs ds, ow0, ?_, frzs_frzs ds, S0.mu, h1 _ _, ?_⟩
      · rw [(h1 ⟨.fo, []⟩ 0).length, ← l.length, hn]
      cases e2 : F (frzs ds) with
      | bad => rw [e2] at h; exact h.elim
      | exc c =>
        simp only [e2] at h
        exact fun H' hx => h H' ⟨ow, S.drop.ext hx⟩
      | ok d =>
        simp only [e2] at h
        intro v H' hx hb
        obtain ⟨ow1, b, b1, b2, b3, b4, b5⟩ := hb
        split at h
        · rename_i hno
          have hr : Rep G (VL.aft H ow ow1 T.length) H' d ⟨.tm T.length, []⟩ v := Rep.aft (l := ⟨b, []⟩) d (fun a k vs _ z y q nz => by
            rcases y with y | y
            · cases k with
              | tup =>
                cases y2 : ow a with
                | none => rfl
                | some m =>
                  have mu := S.mu a m y2
                  cases z2 : H a with
                  | none => exact absurd z2 nz
                  | some u =>
                    have z3 := hx a u z2
                    rw [show H' a = some (.tup vs) from z] at z3
                    cases z3
                    rw [z2] at mu
                    exact mu.elim
              | _ => cases y
            · rw [hno] at y; cases y) b3 b1 rfl rfl b2
          exact h v H' ⟨⟨_, StW.aft S.drop hx b5 hr⟩, trivial⟩
        · have hr : Rep G (VL.aft H ow0 ow1 T.length) H' d ⟨.tm T.length, []⟩ v := Rep.aft (l := ⟨b, []⟩) d (fun a k vs _ z y q nz => by
            cases y2 : ow0 a with
            | none => rfl
            | some m =>
              have := b4 a (by rw [y2]; exact fun z => nomatch z)
              rw [q] at this
              cases this) b3 b1 rfl rfl b2
          exact h v H' ⟨⟨_, StW.aft S0 hx b5 hr⟩, trivial⟩
  · exact h.elim
theorem ve_call {n k : Nat} {F : List D → FO} {f : Addr} {fd : FuncData} {ps : List Str} {x : Str} {p pos : Pos} {e : Expr} {es : List Expr} (tk : Takes X W) (Fk : FnOk X.prog X.w X.K X.mg X.base (L2.CX X.prog X.w) k f fd ps (spV G n F)) (hr : Room k X.A) (hg : Gl X x) (hm : X.mg x = some (.ref f))
    (hk : PySem.W.keepIn X.K (.ref f) = true) (hb : Binds X.K fd ps []) (ha : VA X G C W (e :: es) fs) (hdb : (x == ("__debug__" : Str)) = false := by decide) (he : starEach (e :: es) X.env = (false, eval e X.env) :: starEach es X.env := by rfl) (hpl : (backTo pos (starEach es X.env)).any (·.1) = false := by rfl) :
    VE X G C W (.Call (.Name x p) (e :: es) [] pos) (cCall n F fs) := by
  refine PE.imp (pe_callS Fk hr hg hm hk hb (fun σ => passAt tk σ) ha hdb he hpl) fun s H Q h => ?_
  obtain ⟨r, T, S, g⟩ := h
  exact many (T2 := []) (by simpa using S) g fun xs vs r1 H1 S1 l1 g1 => call_go (by simpa using S1) l1 g1
end
end VL

namespace VL
open PySem PySem.Spec PyProof.Rows L2
section
variable {X : Cx} {G : GX} {C : Fc} {W : WX} {ow ow' : Ow} {r : Rho} {T T1 T2 : List (D × V)} {s : L2.St} {H H' : Hp} {fa fb fc : Ev} {fs : Av}
/-! ### a name's own list, dict, .. is changed -/
/-- b stands in a tree elsewhere: it isn't the cell a of slot i -/
theorem apart {i : Nat} {a b : Addr} {l : Loc} (ha : ow a = some ⟨.sl i, []⟩) (hb : ow b = none ∨ ∃ q, ow b = some (l.app q)) (hl : l.b ≠ .sl i ∨ l.p ≠ []) : b ≠ a := fun e => by
  subst e
  rw [ha] at hb
  rcases hb with hb | ⟨q, hb⟩
  · cases hb
  · have hb := Option.some.inj hb
    unfold Loc.app at hb
    injection hb with e1 e2
    rcases hl with hl | hl
    · exact hl e1.symm
    · exact hl (List.append_eq_nil_iff.mp e2.symm).1
theorem StW.write {i : Nat} {k k' : Kd} (hk : k ≠ .rd) {ds ds' : List D} {a : Addr} {vs' : List V} {ho : HO} {T' : List (D × V)} (S : StW G C ow r T s H) (q : r[i]? = some (some (.node k true ds))) (ha : s[i]? = some (some (.ref a)))
    (hm : OwnO (some ho)) (hh : Holds G (upd H a ho) a k' vs')
    (h1 : ∀ b, ow b = none → ow' b = none) (h2 : ∀ b j p, ow b = some ⟨.sl j, p⟩ → j ≠ i → ow' b = some ⟨.sl j, p⟩) (h4 : ∀ b p, ow b = some ⟨.fo, p⟩ → ow' b = some ⟨.fo, p⟩)
    (h5 : ∀ b l, ow' b = some l → ∃ l', ow b = some l' ∧ (l.b = .fo → l'.b = .fo)) (h5' : ∀ b l, ow' b = some l → l.b ≠ .fo → ∀ l', ow b = some l' → l'.b ≠ .fo) (h6 : ow' a = some ⟨.sl i, []⟩)
    (h7 : Reps G ow' (upd H a ho) ds' ⟨.sl i, []⟩ 0 vs') (h8 : ∀ (j : Nat) d v, T'[j]? = some (d, v) → Rep G ow' (upd H a ho) d ⟨.tm j, []⟩ v) :
    StW G C ow' (r.set i (some (.node k' true ds'))) T' s (upd H a ho) := by
  obtain ⟨v, z1, a', vs, ev, z2, z3, z4⟩ := S.sl i _ q
  rw [ha] at z1
  cases z1
  cases ev
  have oa : ow a = some ⟨.sl i, []⟩ := by simpa using z3.cases.resolve_left hk
  have exn : ∀ (b : Addr) (o : HO), H b = some o → ¬ OwnO (some o) → upd H a ho b = some o := fun b o z n => by
    rw [upd_ne (fun e => by have m := S.mu a _ oa; rw [e] at z; rw [z] at m; exact n m)]; exact z
  refine ⟨by simpa using S.len, fun j d' y => ?_, h8, fun b o n y => ?_, fun b l y => ?_, fun b y => h4 b _ (S.fo b y), fun b l y => ?_, S.pin⟩
  · by_cases hj : j = i
    · subst hj
      have hlt : j < r.length := (List.getElem?_eq_some_iff.mp q).1
      rw [List.getElem?_set_self hlt] at y
      cases y
      exact ⟨_, ha, a, vs', rfl, hh, .mk (by simpa using h6), h7⟩
    · rw [List.getElem?_set_ne (Ne.symm hj)] at y
      obtain ⟨v', y1, y2⟩ := S.sl j d' y
      refine ⟨v', y1, Rep.mono (l := ⟨.sl j, []⟩) d' (fun b o z w => by rw [upd_ne (apart oa w (.inl (fun z => hj (by injection z))))]; exact z) (fun b o z n => exn b o z n) (fun b o _ n => h1 b n) (fun b o p _ n => ?_) y2⟩
      exact h2 b j ([] ++ p) n hj
  · by_cases hb : b = a
    · subst hb
      rcases S.own b _ oa with z | z | z
      · cases z
      · rw [z] at y; cases y
      · exact absurd z n
    · rw [upd_ne hb]; exact S.old b o n y
  · obtain ⟨l', y1, y2⟩ := h5 b l y
    by_cases hf : l.b = .fo
    · exact .inl hf
    · rcases S.own b l' y1 with z | z
      · exact absurd z (h5' b l y hf l' y1)
      · exact .inr z
  · by_cases hb : b = a
    · subst hb; rw [upd_same]; exact hm
    · rw [upd_ne hb]
      obtain ⟨l', y1, _⟩ := h5 b l y
      exact S.mu b l' y1
/-- the last temporary becomes the k-th part of slot i's list -/
def intoSl (ow : Ow) (n i k : Nat) : Ow := fun a => match ow a with
  | some ⟨.tm j, p⟩ => if j = n then some ⟨.sl i, k :: p⟩ else some ⟨.tm j, p⟩
  | some ⟨.sl j, p⟩ => if j = i ∧ p.head? = some k then none else some ⟨.sl j, p⟩
  | x => x
theorem into_fo {n i k : Nat} {b : Addr} {l : Loc} (h : intoSl ow n i k b = some l) : ∃ l', ow b = some l' ∧ (l.b = .fo ↔ l'.b = .fo) := by
  unfold intoSl at h
  cases e : ow b with
  | none => rw [e] at h; cases h
  | some m =>
    rw [e] at h
    obtain ⟨mb, mp⟩ := m
    refine ⟨_, rfl, ?_⟩
    cases mb with
    | tm j =>
      simp only at h
      split at h <;> (cases h; exact ⟨(fun z => nomatch z), (fun z => nomatch z)⟩)
    | sl j =>
      simp only at h
      split at h
      · cases h
      · cases h; exact ⟨(fun z => nomatch z), (fun z => nomatch z)⟩
    | fo => cases h; exact Iff.rfl
/-- x[k] = the last temporary, or x.append of it (k the length) -/
theorem StW.into {i k : Nat} {ds ds' : List D} {d : D} {a : Addr} {v : V} (S : StW G C ow r (T ++ [(d, v)]) s H) (q : r[i]? = some (some (.node .lst true ds))) (ha : s[i]? = some (some (.ref a)))
    (hds : (ds' = ds.set k d ∧ k < ds.length) ∨ (ds' = ds ++ [d] ∧ k = ds.length)) : ∃ vs, H a = some (.lst vs) ∧ vs.length = ds.length ∧
    StW G C (intoSl ow T.length i k) (r.set i (some (.node .lst true ds'))) T s (upd H a (.lst (if k < ds.length then vs.set k v else vs ++ [v]))) := by
  obtain ⟨v', z1, a', vs, ev, z2, z3, z4⟩ := S.sl i _ q
  rw [ha] at z1
  cases z1
  cases ev
  have oa : ow a = some ⟨.sl i, []⟩ := by simpa [OwnAt] using z3
  have hl := z4.length
  have exn : ∀ (b : Addr) (o ho : HO), H b = some o → ¬ OwnO (some o) → upd H a ho b = some o := fun b o ho z n => by
    rw [upd_ne (fun e => by rw [e, show H a = some (.lst vs) from z2] at z; cases z; exact n trivial)]; exact z
  refine ⟨vs, z2, hl.symm, StW.write (k := .lst) (ow' := intoSl ow T.length i k) (fun z => nomatch z) S q ha trivial (vs' := if k < ds.length then vs.set k v else vs ++ [v]) upd_same (fun b n => by unfold intoSl; rw [n]) (fun b j p n hj => ?_) (fun b p n => by unfold intoSl; rw [n]) (fun b l y => ?_) (fun b l y n l' y2 => ?_) ?_ ?_ (fun j d' w y => ?_)⟩
  · unfold intoSl; rw [n]; exact if_neg (fun z => hj z.1)
  · obtain ⟨l', y1, y2⟩ := into_fo y
    exact ⟨l', y1, y2.mp⟩
  · obtain ⟨l2, y1, y3⟩ := into_fo y
    rw [y2] at y1
    cases y1
    exact fun z => n (y3.mpr z)
  · unfold intoSl; rw [oa]; simp
  · -- the parts
    have old : ∀ (m : Nat) dm vm, m ≠ k → ds[m]? = some dm → vs[m]? = some vm → Rep G (intoSl ow T.length i k) (upd H a (.lst (if k < ds.length then vs.set k v else vs ++ [v]))) dm (Loc.sub ⟨.sl i, []⟩ (0 + m)) vm := fun m dm vm hm q1 q2 => by
      obtain ⟨vm', y1, y2⟩ := z4.get m dm q1
      rw [q2] at y1
      cases y1
      refine Rep.mono (l := Loc.sub ⟨.sl i, []⟩ (0 + m)) dm (fun b o z w => by rw [upd_ne (apart oa w (.inr (by simp [Loc.sub])))]; exact z) (fun b o z n => exn b o _ z n) (fun b o _ n => by unfold intoSl; rw [n]) (fun b o p _ n => ?_) y2
      have n' : ow b = some ⟨.sl i, m :: p⟩ := by rw [n]; simp [Loc.sub, Loc.app]
      unfold intoSl
      rw [n']
      have : ¬ (i = i ∧ (m :: p).head? = some k) := by simp [hm]
      simp [Loc.sub, Loc.app, hm]
    have new : Rep G (intoSl ow T.length i k) (upd H a (.lst (if k < ds.length then vs.set k v else vs ++ [v]))) d (Loc.sub ⟨.sl i, []⟩ (0 + k)) v := by
      refine Rep.mono (l := ⟨.tm T.length, []⟩) d (fun b o z w => by rw [upd_ne (apart oa w (.inl (fun z => nomatch z)))]; exact z) (fun b o z n => exn b o _ z n) (fun b o _ n => by unfold intoSl; rw [n]) (fun b o p _ n => ?_) S.last
      have n' : ow b = some ⟨.tm T.length, [] ++ p⟩ := n
      unfold intoSl
      rw [n']
      simp [Loc.sub, Loc.app]
    rcases hds with ⟨e, hk⟩ | ⟨e, hk⟩
    · subst e
      refine Reps.of_get (by rw [if_pos hk]; simp [hl]) fun m dm vm q1 q2 => ?_
      rw [if_pos hk] at q2
      by_cases hm : m = k
      · subst hm
        rw [List.getElem?_set_self hk] at q1
        rw [List.getElem?_set_self (by omega)] at q2
        cases q1; cases q2
        exact new
      · rw [List.getElem?_set_ne (Ne.symm hm)] at q1 q2
        exact old m dm vm hm q1 q2
    · subst e
      subst hk
      refine Reps.of_get (by rw [if_neg (by omega)]; simp [hl]) fun m dm vm q1 q2 => ?_
      rw [if_neg (by omega)] at q2
      by_cases hm : m < ds.length
      · rw [List.getElem?_append_left hm] at q1
        rw [List.getElem?_append_left (by omega)] at q2
        exact old m dm vm (by omega) q1 q2
      · rw [List.getElem?_append_right (by omega)] at q1
        rw [List.getElem?_append_right (by omega), ← hl] at q2
        have em : m = ds.length := by
          have := (List.getElem?_eq_some_iff.mp q1).1
          simp at this; omega
        subst em
        simp at q1 q2
        subst q1; subst q2
        exact new
  · have hj : j < T.length := (List.getElem?_eq_some_iff.mp y).1
    have z := S.tm j d' w (by rw [List.getElem?_append_left hj]; exact y)
    refine Rep.mono (l := ⟨.tm j, []⟩) d' (fun b o z w => by rw [upd_ne (apart oa w (.inl (fun z => nomatch z)))]; exact z) (fun b o z n => exn b o _ z n) (fun b o _ n => by unfold intoSl; rw [n]) (fun b o p _ n => ?_) z
    have n' : ow b = some ⟨.tm j, [] ++ p⟩ := n
    unfold intoSl
    rw [n']
    have : ¬ j = T.length := by omega
    simp [Loc.app, this]

/-! ### x.append(e) -/
def isLst (r : Rho) (i : Nat) : Bool := match r[i]? with
  | some (some (.node .lst _ _)) => true
  | _ => false
def appK (i : Nat) (x : R) (r1 : Rho) : EO := match x, r1[i]? with
  | .val d, some (some (.node .lst true ds)) => if ds.length < 16777216 then .ok (.val .non) (r1.set i (some (.node .lst true (ds ++ [d])))) else .bad
  | _, _ => .bad
def cApp (i : Nat) (fa : Ev) : Ev := fun r => if isLst r i = true then (cSet fa r).bd (appK i) else .bad
theorem isLst_at {i : Nat} (h : isLst r i = true) : ∃ o ds, r[i]? = some (some (.node .lst o ds)) := by
  unfold isLst at h
  split at h
  · rename_i o ds e; exact ⟨o, ds, e⟩
  · cases h
theorem ve_app {i : Nat} {x : Str} {e : Expr} {p apos cpos : Pos} (hN : X.N[i]? = some x) (hv : Vis X.env.scope x) (hd : (x == ("__debug__" : Str)) = false) (hcd : (x == ("__classdict__" : Str)) = false) (ha : VE X G C W e fa)
    (hbase : attributeBase (.Name x p) "append" X.env (eval (.Name x p) X.env) = eval (.Name x p) X.env := by rfl)
    (hfew : ((backTo cpos (starEach [e] X.env)).all (fun x => !x.1) && (backToKw cpos (keywordEach [] X.env)).all (fun x => x.1.isSome)
      && decide ([e].length + ([] : List Keyword).length + (if ([] : List Keyword).isEmpty then 0 else 1) < 30)) = true := by rfl)
    (hline : (apos.endLine == cpos.line) = true := by rfl) (hs : starEach [e] X.env = (false, eval e X.env) :: starEach [] X.env := by rfl) (hplain : (backTo cpos (starEach [] X.env)).any (·.1) = false := by rfl) :
    VE X G C W (.Call (.Attribute (.Name x p) "append" apos) [e] [] cpos) (cApp i fa) := by
  refine PE.imp (pe_bm PySem.F.plainAttrs_list PySem.F.slot_list_append PySem.F.type_list_append mt_append (pe_var hN hv hd hcd) (pa_cons (ve_set ha) pa_nil hs) hbase hfew hline hs hplain) fun s H Q h => ?_
  obtain ⟨r, T, S, g⟩ := h
  have g : Goes G C W T s Q (cApp i fa r) := g
  unfold cApp at g
  split at g
  · rename_i hi
    obtain ⟨o, ds, hr⟩ := isLst_at hi
    obtain ⟨ow, S0⟩ := S
    obtain ⟨v, v1, a, vs, ev, v2, v3, v4⟩ := S0.sl i _ hr
    subst ev
    refine ⟨_, v1, .inl ⟨rfl, vs, SqL.of v2⟩, ?_⟩
    refine one (fa := cSet fa) ⟨ow, S0⟩ g fun x v' r1 H1 P g1 => ?_
    unfold appK at g1
    split at g1
    · rename_i d ds' q
      split at g1
      · rename_i hz
        obtain ⟨ow1, S1⟩ := P.1
        obtain ⟨vs', w1, w2, S2⟩ := StW.into S1 q v1 (.inr ⟨rfl, rfl⟩)
        rw [if_neg (Nat.lt_irrefl _)] at S2
        exact ⟨a, vs', v', rfl, rfl, w1, by rw [w2, sizeLine_eq]; exact hz, g1 _ _ ⟨StOk.pushN ⟨_, S2⟩, trivial⟩⟩
      · exact g1.elim
    · exact g1.elim
  · exact g.elim

/-! ### x[k] = e -/
def setIxK (i : Nat) (x y : R) (r1 : Rho) : SO := match x, opd r1 y, r1[i]? with
  | .val d, some (.int k), some (some (.node .lst true ds)) => (match ixN ds.length k with
    | some j => .nx (r1.set i (some (.node .lst true (ds.set j d))))
    | none => .bad)
  | _, _, _ => .bad
def cSetIx (i : Nat) (fk fa : Ev) : Sv := fun r => (cSet fa r).st fun x r1 => if isLst r1 i = true then (fk r1).st (setIxK i x) else .bad
theorem vs_setIx {i : Nat} {x : Str} {k e : Expr} {p tpos pos : Pos} {fk : Ev} (hN : X.N[i]? = some x) (hv : Vis X.env.scope x) (hd : (x == ("__debug__" : Str)) = false) (hcd : (x == ("__classdict__" : Str)) = false) (hk : VE X G C W k fk) (ha : VE X G C W e fa)
    (has : ∀ v, assign (.Subscript (.Name x p) k tpos) X.env v = (do
      let ov ← holding [v] (eval (.Name x p) X.env)
      let iv ← holding [v, ov] (eval k X.env)
      standAt tpos
      holding [v, ov, iv] (setItem ov iv v)
      release [v, ov, iv] []) := by intro _; rfl)
    (hs : swapsWithSole [.Subscript (.Name x p) k tpos] e pos.line X.env = pure false := by rfl) (hw : swappedStores [.Subscript (.Name x p) k tpos] e X.env = pure none := by rfl)
    (h1 : (assignEach [.Subscript (.Name x p) k tpos] X.env).map (·.2) = [assign (.Subscript (.Name x p) k tpos) X.env] := by rfl) : VS X G C W (.Assign [.Subscript (.Name x p) k tpos] e pos) (cSetIx i fk fa) := by
  refine PS.imp (ps_asg (ve_set ha) (pg_sub (pe_var hN hv hd hcd) hk set_list has) hs hw h1) fun D s H h => ?_
  obtain ⟨r, T, S, g⟩ := h
  refine oneS (fa := cSet fa) S g fun x v r1 H1 P g1 => ?_
  split at g1
  · rename_i hi
    obtain ⟨o, ds, hr⟩ := isLst_at hi
    obtain ⟨ow1, S1⟩ := P.1
    obtain ⟨w, v1, a, vs, ev, v2, v3, v4⟩ := S1.sl i _ hr
    subst ev
    refine ⟨_, v1, ?_⟩
    refine ⟨r1, T ++ pushR x v, ⟨ow1, S1⟩, ?_⟩
    cases e1 : fk r1 with
    | exc c r2 => rw [e1] at g1; exact fun H' S' => g1 s H' S'.drop
    | bad => rw [e1] at g1; exact g1.elim
    | ok y r2 =>
      rw [e1] at g1
      simp only [st_ok] at g1
      intro u H2 P2
      unfold setIxK at g1
      split at g1
      · rename_i d k' ds' e2 q
        split at g1
        · rename_i j ej
          obtain ⟨ow2, S2⟩ := P2.1
          have eu := opd_rep (T := T ++ pushR (.val d) v) (T2 := []) (by rw [List.append_nil]; exact S2) P2.2 e2
          have S3 : StW G C ow2 r2 (T ++ [(d, v)]) s H2 := StW.drop (T := T ++ [(d, v)]) (T2 := pushR y u) S2
          obtain ⟨m1, m2, _⟩ := ixN_seq ej
          obtain ⟨vs', w1, w2, S4⟩ := StW.into S3 q v1 (.inl ⟨rfl, m2⟩)
          rw [if_pos m2] at S4
          exact ⟨a, vs', k', j, rfl, eu, w1, by rw [w2]; exact ej, g1 _ _ ⟨_, S4⟩⟩
        · exact g1.elim
      · exact g1.elim
  · exact g1.elim

/-! ### x.index(y) of flat things -/
def idxD (ds : List D) (d : D) : Option Nat := ds.findIdx? fun e => PyData.eqv (toPy e) (toPy d)
def gIndex : G2 := fun x y r => match opd r x, opd r y with
  | some (.node .lst _ ds), some d => if (flatD d && ds.all flatD) = true then (match idxD ds d with
    | some j => .ok (.val (.int (j : Nat))) r
    | none => .bad) else .bad
  | _, _ => .bad
theorem all_get {ds : List D} {j : Nat} {d : D} (f : ds.all flatD = true) (h : ds[j]? = some d) : flatD d = true := List.all_eq_true.mp f d (List.mem_of_getElem? h)
/-- a method of a list, one argument -/
theorem ve_index {i : Nat} {x : Str} {e : Expr} {p apos cpos : Pos} (hN : X.N[i]? = some x) (hv : Vis X.env.scope x) (hd : (x == ("__debug__" : Str)) = false) (hcd : (x == ("__classdict__" : Str)) = false) (ha : VE X G C W e fa)
    (hbase : attributeBase (.Name x p) "index" X.env (eval (.Name x p) X.env) = eval (.Name x p) X.env := by rfl)
    (hfew : ((backTo cpos (starEach [e] X.env)).all (fun x => !x.1) && (backToKw cpos (keywordEach [] X.env)).all (fun x => x.1.isSome)
      && decide ([e].length + ([] : List Keyword).length + (if ([] : List Keyword).isEmpty then 0 else 1) < 30)) = true := by rfl)
    (hline : (apos.endLine == cpos.line) = true := by rfl) (hs : starEach [e] X.env = (false, eval e X.env) :: starEach [] X.env := by rfl) (hplain : (backTo cpos (starEach [] X.env)).any (·.1) = false := by rfl) :
    VE X G C W (.Call (.Attribute (.Name x p) "index" apos) [e] [] cpos) (fun r => if isLst r i = true then cBin gIndex (cVar i) fa r else .bad) := by
  refine PE.imp (pe_bm PySem.F.plainAttrs_list PySem.F.slot_list_index PySem.F.type_list_index mt_index (ve_var (C := C) (W := W) (G := G) hN hv hd hcd) (pa_cons ha pa_nil hs) hbase hfew hline hs hplain) fun s H Q h => ?_
  obtain ⟨r, T, S, g⟩ := h
  have g : Goes G C W T s Q (if isLst r i = true then cBin gIndex (cVar i) fa r else .bad) := g
  split at g
  · rename_i hi
    obtain ⟨o, ds, hr⟩ := isLst_at hi
    obtain ⟨ow, S0⟩ := S
    obtain ⟨v, v1, a, vs, ev, v2, v3, v4⟩ := S0.sl i _ hr
    have ec : cVar i r = .ok (.loc i) r := by unfold cVar; rw [hr]; rfl
    refine ⟨r, T, ⟨ow, S0⟩, ?_⟩
    rw [ec]
    intro v' H1 P
    have g : Goes G C W T s Q ((fa r).bd fun y r2 => gIndex (.loc i) y r2) := by
      unfold cBin at g; rw [ec] at g; exact g
    have hv' : s[i]? = some (some v') := P.2
    have S1 : StOk G C r T s H1 := by simpa [pushR] using P.1
    obtain ⟨ow1, S1'⟩ := S1
    obtain ⟨w, w1, a', vs', ew, w2, w3, w4⟩ := S1'.sl i _ hr
    rw [hv'] at w1
    cases w1
    subst ew
    refine ⟨.inl ⟨rfl, vs', SqL.of w2⟩, ?_⟩
    refine one ⟨ow1, S1'⟩ g fun y u r2 H2 P2 g2 => ?_
    unfold gIndex at g2
    split at g2
    · rename_i o' ds' d e1 e2
      split at g2
      · rename_i hf
        rw [Bool.and_eq_true] at hf
        split at g2
        · rename_i j ej
          obtain ⟨ow2, S2⟩ := P2.1
          have q := opd_loc e1
          obtain ⟨w', y1, a2, vs2, ew2, y2, y3, y4⟩ := S2.sl i _ q
          rw [hv'] at y1
          cases y1
          cases ew2
          have ru := opd_rep (T2 := []) (by rw [List.append_nil]; exact S2) P2.2 e2
          unfold idxD at ej
          rw [List.findIdx?_eq_some_iff_getElem] at ej
          obtain ⟨hj, z1, z2⟩ := ej
          obtain ⟨vj, y5, y6⟩ := y4.get j ds'[j] (List.getElem?_eq_getElem hj)
          refine ⟨a', vs2, u, j, vj, rfl, rfl, SqL.of y2, (flat_rep hf.1 ru).1, flat_all hf.2 y4, y5, ?_, fun m z' hm hz' => ?_, g2 _ _ ⟨StOk.pushI (j : Nat) ⟨ow2, S2.drop⟩, trivial⟩⟩
          · rw [flat_eq (all_get hf.2 (List.getElem?_eq_getElem hj)) hf.1 y6 ru]; exact z1
          · have hmd : m < ds'.length := by omega
            obtain ⟨vm, y7, y8⟩ := y4.get m ds'[m] (List.getElem?_eq_getElem hmd)
            rw [hz'] at y7
            cases y7
            rw [flat_eq (all_get hf.2 (List.getElem?_eq_getElem hmd)) hf.1 y8 ru]
            have := z2 m hm
            simpa using this
        · exact g2.elim
      · exact g2.elim
    · exact g2.elim
  · exact g.elim
end
end VL

namespace VL
open PySem PySem.Spec PyProof.Rows L2
/-! ### a def that changes its first argument -/
inductive MO where
  | ok (d d0 : D) | bad
def fcM (H : Hp) (ow0 : Ow) (v0 : V) : Fc := ⟨H, fun a => ∃ p, ow0 a = some ⟨.sl 0, p⟩, fun a => ow0 a = some ⟨.fo, []⟩, [(0, v0)]⟩
def spM (G : GX) (n : Nat) (F : D → List D → MO) : Sp := fun vs H Q E => ∃ (d0 : D) (ds : List D) (v0 : V) (us : List V) (ow0 : Ow), vs = v0 :: us ∧ ds.length = n ∧ frzs ds = ds ∧ Rep G ow0 H d0 ⟨.sl 0, []⟩ v0 ∧ Reps G ow0 H ds ⟨.fo, []⟩ 0 us ∧
  (∀ a l, ow0 a = some l → OwnO (H a) ∧ (l.b = .sl 0 ∨ l = ⟨.fo, []⟩)) ∧ match F d0 ds with
  | .ok d d0' => ∀ v H' (ow1 : Ow) (b : Bs), (∀ a o, (∀ p, ow0 a ≠ some ⟨.sl 0, p⟩) → H a = some o → H' a = some o) → b ≠ .fo → b ≠ .sl 0 → Rep G ow1 H' d ⟨b, []⟩ v → Rep G ow1 H' d0' ⟨.sl 0, []⟩ v0 →
      (∀ a l, ow1 a = some l → l.b ≠ .fo → H a = none ∨ ∃ p, ow0 a = some ⟨.sl 0, p⟩) → (∀ a, ow0 a = some ⟨.fo, []⟩ → ow1 a = some ⟨.fo, []⟩) → (∀ a l, ow1 a = some l → OwnO (H' a)) → Q v H'
  | .bad => False
theorem spM_len {G : GX} {n : Nat} {F : D → List D → MO} {vs : List V} {H : Hp} {Q : VK} {E : XK} (h : spM G n F vs H Q E) : vs.length = n + 1 := by
  obtain ⟨d0, ds, v0, us, ow0, e, h1, _, _, h4, _⟩ := h
  rw [e, List.length_cons, ← h4.length, h1]
def runM (n : Nat) (f : Sv) (d0 : D) (ds : List D) : MO := match f (startR n (d0 :: ds)) with
  | .rt (.val d) r => (match r[0]? with
    | some (some d0') => .ok d d0'
    | _ => .bad)
  | .rt (.loc i) r => if i = 0 then .bad else (match opd r (.loc i), r[0]? with
    | some d, some (some d0') => .ok d d0'
    | _, _ => .bad)
  | .nx r => (match r[0]? with
    | some (some d0') => .ok .non d0'
    | _ => .bad)
  | _ => .bad
section
variable {G : GX} {H H' : Hp} {ow ow0 : Ow}
theorem startM_ok {N : List Str} {d0 : D} {ds : List D} {v0 : V} {us : List V} (hm : ∀ a l, ow0 a = some l → OwnO (H a) ∧ (l.b = .sl 0 ∨ l = ⟨.fo, []⟩)) (e : frzs ds = ds) (h0 : Rep G ow0 H d0 ⟨.sl 0, []⟩ v0) (h : Reps G ow0 H ds ⟨.fo, []⟩ 0 us) : StW G (fcM H ow0 v0) ow0 (startR N.length (d0 :: ds)) [] (L2.start N (v0 :: us)) H where
  len := by
    unfold startR L2.start
    simp [h.length]
  sl := fun i d q => by
    have q' := startR_get q
    cases i with
    | zero =>
      simp at q'
      subst q'
      exact ⟨v0, start_get rfl, h0⟩
    | succ i =>
      have q2 : ds[i]? = some d := by simpa using q'
      obtain ⟨v, h1, h2⟩ := h.get i d q2
      have f : frz d = d := by
        have := congrArg (·[i]?) e
        simp only [frzs_map, List.getElem?_map, q2, Option.map_some] at this
        exact Option.some.inj this
      exact ⟨v, start_get (by simpa using h1), Rep.moveF d f (fun a o z q => ⟨z, q⟩) (fun _ _ z _ => z) h2⟩
  tm := fun j d v q => by simp at q
  old := fun a o _ z => z
  own := fun a l q => by
    obtain ⟨_, z | z⟩ := hm a l q
    · obtain ⟨lb, lp⟩ := l
      have z : lb = .sl 0 := z
      subst z
      exact .inr (.inr ⟨lp, q⟩)
    · subst z; exact .inl rfl
  fo := fun a q => q
  mu := fun a l q => (hm a l q).1
  pin := fun p hp => by
    have e : p = (0, v0) := by simpa [fcM] using hp
    subst e
    exact start_get rfl
end
section
variable {P : Program} {w : World} {K : PySem.W.Frag} {mg : Str → Option Value} {base : Heap} {G : GX}
theorem fnM {x qual : Str} {st : Stmt} {f : Addr} {fd : FuncData} {N ps : List Str} {k n : Nat} {fb : Sv} (F : Fun K x qual st f fd) (S : FnScope N ps (defScope st)) (hps : ps.length = n + 1)
    (hbody : ∀ (X : Cx) (C : Fc) (W : WX), X.prog = P → X.w = w → X.K = K → X.mg = mg → X.base = base → X.N = N → X.env.scope = defScope st → X.calm = true → X.ex = [] → Room k X.A → (∀ x, X.fn x = true) → (∀ p ∈ C.pin, p.1 = 0) → Takes X W → PassesOwn (model X.prog X.w) X.A X.env X.xe → X.stack = X.env :: X.outer → X.env.frame = some X.env.locals → X.env.scope.kind = .function → VSs X G C W (defBody st) fb) :
    FnOk P w K mg base (L2.CX P w) (k + 1) f fd ps (spM G n (runM N.length fb)) := by
  refine F.okX S (fun vs H Q E h => (spM_len h).trans hps.symm) (fun cdv A outer s H vs Q E hr h => ?_)
  obtain ⟨d0, ds, v0, us, ow0, ev, h1, h2, h3, h4, h5, h6⟩ := h
  subst ev
  refine ⟨_, hbody (cxOf (L2.CX P w) P w K mg base N qual (defScope st) f cdv A outer s H E) (fcM H ow0 v0) (fun cls d _ H => E cls d H) rfl rfl rfl rfl rfl rfl rfl rfl rfl hr (fun _ => rfl) (fun p hp => by
    have e : p = (0, v0) := by simpa [fcM] using hp
    rw [e]) (takes_of rfl rfl rfl rfl) (passes_of rfl) rfl rfl S.kind, ?_⟩
  refine ⟨startR N.length (d0 :: ds), [], ⟨_, startM_ok (N := N) h5 h2 h3 h4⟩, ?_⟩
  have fin : ∀ {d d0' : D} {v : V} {r : Rho} {T : List (D × V)} {s' : L2.St} {H' : Hp} {ow : Ow} {b : Bs}, StW G (fcM H ow0 v0) ow r T s' H' → r[0]? = some (some d0') → b ≠ .fo → b ≠ .sl 0 → Rep G ow H' d ⟨b, []⟩ v →
      (∀ v H' (ow1 : Ow) (b : Bs), (∀ a o, (∀ p, ow0 a ≠ some ⟨.sl 0, p⟩) → H a = some o → H' a = some o) → b ≠ .fo → b ≠ .sl 0 → Rep G ow1 H' d ⟨b, []⟩ v → Rep G ow1 H' d0' ⟨.sl 0, []⟩ v0 →
      (∀ a l, ow1 a = some l → l.b ≠ .fo → H a = none ∨ ∃ p, ow0 a = some ⟨.sl 0, p⟩) → (∀ a, ow0 a = some ⟨.fo, []⟩ → ow1 a = some ⟨.fo, []⟩) → (∀ a l, ow1 a = some l → OwnO (H' a)) → Q v H') → Q v H' :=
    fun {d d0' v r T s' H' ow b} S' h0 b1 b2 hr hq => by
      obtain ⟨v0', z1, z2⟩ := S'.sl 0 d0' h0
      have p0 := S'.pin (0, v0) (by simp [fcM])
      have p0 : s'[0]? = some (some v0) := p0
      rw [p0] at z1
      cases z1
      exact hq v H' ow b (fun a o n q => S'.old a o (fun ⟨p, z⟩ => n p z) q) b1 b2 hr z2 (fun a l q n => (S'.own a l q).elim (fun z => absurd z n) id) (fun a q => S'.fo a q) S'.mu
  unfold runM at h6
  cases e : fb (startR N.length (d0 :: ds)) with
  | nx r =>
    rw [e] at h6
    intro s' H' S'
    cases e2 : r[0]? with
    | none => simp only [e2] at h6
    | some o =>
      cases o with
      | none => simp only [e2] at h6
      | some d0' =>
        simp only [e2] at h6
        obtain ⟨ow, S'⟩ := S'
        exact fin (d := .non) (b := .tm 0) S' e2 (fun z => nomatch z) (fun z => nomatch z) rfl h6
  | rt x r =>
    rw [e] at h6
    intro s' v H' P'
    obtain ⟨⟨ow, S'⟩, l⟩ := P'
    cases x with
    | val d =>
      cases e2 : r[0]? with
      | none => simp only [e2] at h6
      | some o =>
        cases o with
        | none => simp only [e2] at h6
        | some d0' =>
          simp only [e2] at h6
          have z := opd_rep (x := .val d) (T := []) (T2 := []) (by simpa using S') l rfl
          exact fin (b := .tm 0) S' e2 (fun z => nomatch z) (fun z => nomatch z) z h6
    | loc i =>
      by_cases hi : i = 0
      · simp only [hi, if_true] at h6
      · simp only [hi, if_false] at h6
        cases e3 : opd r (.loc i) with
        | none => simp only [e3] at h6
        | some d =>
          cases e2 : r[0]? with
          | none => simp only [e3, e2] at h6
          | some o =>
            cases o with
            | none => simp only [e3, e2] at h6
            | some d0' =>
              simp only [e3, e2] at h6
              have z := opd_rep (x := .loc i) (T := []) (T2 := []) (by simpa using S') l e3
              exact fin (b := .sl i) S' e2 (fun z => nomatch z) (fun z => hi (by injection z)) z h6
  | exc c r => rw [e] at h6; exact h6.elim
  | bk r => rw [e] at h6; exact h6.elim
  | ct r => rw [e] at h6; exact h6.elim
  | bad => rw [e] at h6; exact h6.elim
end
/-- the call: the first argument a name's own thing, the others handed on -/
def callKM (n i : Nat) (F : D → List D → MO) (xs : List R) (r : Rho) : EO := match xs with
  | .loc j :: rest => if j = i ∧ rest.length = n then (match opd r (.loc i), valsR rest with
    | some d0, some ds => (match F d0 (frzs ds) with
      | .ok d d0' => .ok (.val d) (r.set i (some d0'))
      | .bad => .bad)
    | _, _ => .bad) else .bad
  | _ => .bad
def cCallM (n i : Nat) (F : D → List D → MO) (fs : Av) : Ev := fun r => (fs r).bd (callKM n i F)
section
variable {X : Cx} {G : GX} {C : Fc} {W : WX} {ow ow' : Ow} {r : Rho} {T T1 T2 : List (D × V)} {s : L2.St} {H H' : Hp} {fs : Av}
def lent (ow : Ow) (i : Nat) : Ow := fun a => match ow a with
  | some l => if l.b = .sl i then some ⟨.sl 0, l.p⟩ else some ⟨.fo, []⟩
  | none => none
def repaid (ow ow1 : Ow) (n i : Nat) : Ow := fun a => match ow1 a with
  | some l => if l.b = .fo then ow a else if l.b = .sl 0 then some ⟨.sl i, l.p⟩ else some ⟨.tm n, l.p⟩
  | none => none
theorem lent_none {i : Nat} {a : Addr} : lent ow i a = none ↔ ow a = none := by
  unfold lent
  cases ow a with
  | none => simp
  | some l => by_cases h : l.b = .sl i <;> simp [h]
theorem lent_sl {i : Nat} {a : Addr} {p : List Nat} : lent ow i a = some ⟨.sl 0, p⟩ ↔ ow a = some ⟨.sl i, p⟩ := by
  unfold lent
  cases ow a with
  | none => simp
  | some l =>
    obtain ⟨lb, lp⟩ := l
    by_cases h : lb = .sl i <;> simp [h]
theorem lent_fo {i : Nat} {a : Addr} {l : Loc} (h : ow a = some l) (n : l.b ≠ .sl i) : lent ow i a = some ⟨.fo, []⟩ := by
  unfold lent; rw [h]; simp [n]
theorem valsR_frz : ∀ {xs : List R} {ds : List D}, valsR xs = some ds → opds r xs = some ds ∧ settles r xs = r ∧ ds.length = xs.length
  | [], ds, e => by cases e; exact ⟨rfl, rfl, rfl⟩
  | .loc _ :: _, _, e => by cases e
  | .val d :: xs, ds, e => by
    unfold valsR at e
    cases e2 : valsR xs with
    | none => rw [e2] at e; cases e
    | some ds' =>
      rw [e2] at e
      cases e
      obtain ⟨h1, h2, h3⟩ := valsR_frz e2
      refine ⟨?_, h2, by simp [h3]⟩
      show (match some d, opds r xs with | some d, some ds => some (d :: ds) | _, _ => none) = _
      rw [h1]
theorem callM_go {n i : Nat} {F : D → List D → MO} {Q : VK} {xs : List R} {vs : List V} {E : XK} (S : StOk G C r (T ++ pushs xs vs) s H) (l : LocsOk s xs vs) (h : Goes G C W T s Q (callKM n i F xs r)) : spM G n F vs H Q E := by
  unfold callKM at h
  split at h
  · rename_i j rest
    split at h
    · rename_i hc
      obtain ⟨hj, hn⟩ := hc
      subst hj
      cases vs with
      | nil => exact l.elim
      | cons v0 us =>
        cases e1 : opd r (.loc j) with
        | none => simp only [e1] at h; exact h.elim
        | some d0 =>
          cases e2 : valsR rest with
          | none => simp only [e1, e2] at h; exact h.elim
          | some ds =>
            simp only [e1, e2] at h
            obtain ⟨ow, S⟩ := S
            obtain ⟨g1, g2, g3⟩ := valsR_frz (r := r) e2
            obtain ⟨ow2, S2, r1, r2, r3⟩ := StW.settles (T := T) (show StW G C ow r (T ++ pushs rest us) s H from S) l.2 g1
            rw [g2] at S2
            have q := opd_loc e1
            obtain ⟨v', z1, z2⟩ := S2.sl j d0 q
            have l0 : s[j]? = some (some v0) := l.1
            rw [l0] at z1
            cases z1
            refine ⟨d0, frzs ds, v0, us, lent ow2 j, rfl, by rw [frzs_length, g3, hn], frzs_frzs ds, ?_, ?_, ?_, ?_⟩
            · refine Rep.mono (l := ⟨.sl j, []⟩) d0 (fun _ _ z _ => z) (fun _ _ z _ => z) (fun a o _ n => lent_none.mpr n) (fun a o p _ n => ?_) z2
              exact lent_sl.mpr n
            · exact Reps.moveF _ (frzs_frzs ds) (fun a o z n => ⟨z, lent_none.mpr n⟩) (fun _ _ z _ => z) (r1 ⟨.fo, []⟩ 0)
            · intro a m q
              unfold lent at q
              cases y : ow2 a with
              | none => rw [y] at q; cases q
              | some m' =>
                rw [y] at q
                refine ⟨S2.mu a m' y, ?_⟩
                simp only at q
                split at q
                · cases q; exact .inl rfl
                · cases q; exact .inr rfl
            · cases e3 : F d0 (frzs ds) with
              | bad => simp only [e3] at h; exact h.elim
              | ok d d0' =>
                simp only [e3] at h
                intro v H' ow1 b k1 b1 b2 hr h0 k2 k3 k4
                refine h v H' ⟨⟨repaid ow2 ow1 T.length j, ?_⟩, trivial⟩
                -- what stood in the heap, in the caller's own words
                have kept : ∀ a o, H a = some o → (∀ p, ow2 a ≠ some ⟨.sl j, p⟩) → H' a = some o := fun a o q n => k1 a o (fun p z => n p (lent_sl.mp z)) q
                have exn : ∀ a o, H a = some o → ¬ OwnO (some o) → H' a = some o := fun a o q n => kept a _ q fun p z => by
                  have m := S2.mu a _ z
                  rw [q] at m
                  exact n m
                have none_ : ∀ a o, H a = some o → ow2 a = none → repaid ow2 ow1 T.length j a = none := fun a o q n => by
                  unfold repaid
                  cases y : ow1 a with
                  | none => rfl
                  | some m =>
                    by_cases hf : m.b = .fo
                    · simp only [hf, if_true]; exact n
                    · rcases k2 a m y hf with z | ⟨p, z⟩
                      · rw [z] at q; cases q
                      · rw [lent_sl.mp z] at n; cases n
                have same_ : ∀ a m, ow2 a = some m → m.b ≠ .sl j → repaid ow2 ow1 T.length j a = some m := fun a m q n => by
                  unfold repaid
                  rw [k3 a (lent_fo q n)]
                  simp [q]
                have hpush : StW G C (repaid ow2 ow1 T.length j) (r.set j (some d0')) T s H' := by
                  refine ⟨by simpa using S2.len, fun i' d' y => ?_, fun j' d' w y => ?_, fun a o n y => ?_, fun a m y => ?_, fun a y => ?_, fun a m y => ?_, S2.pin⟩
                  · by_cases hi : i' = j
                    · subst hi
                      rw [List.getElem?_set_self (List.getElem?_eq_some_iff.mp q).1] at y
                      cases y
                      refine ⟨v0, l0, Rep.mono (l := ⟨.sl 0, []⟩) d0' (fun _ _ z _ => z) (fun _ _ z _ => z) (fun a o _ n => by unfold repaid; rw [n]) (fun a o p _ n => ?_) h0⟩
                      have n' : ow1 a = some ⟨.sl 0, [] ++ p⟩ := n
                      unfold repaid
                      rw [n']
                      simp [Loc.app]
                    · rw [List.getElem?_set_ne (Ne.symm hi)] at y
                      obtain ⟨w, y1, y2⟩ := S2.sl i' d' y
                      refine ⟨w, y1, Rep.mono (l := ⟨.sl i', []⟩) d' (fun a o z u => kept a o z fun p z2 => ?_) (fun a o z n => exn a o z n) (fun a o z n => none_ a o z n) (fun a o p _ n => ?_) y2⟩
                      · rcases u with u | ⟨p', u⟩
                        · rw [u] at z2; cases z2
                        · rw [u] at z2
                          have z2 := Option.some.inj z2
                          unfold Loc.app at z2
                          injection z2 with z3 _
                          injection z3 with z3
                          exact hi z3
                      · exact same_ a _ n (fun z => by unfold Loc.app at z; injection z with z; exact hi z)
                  · have z := S2.tm j' d' w y
                    refine Rep.mono (l := ⟨.tm j', []⟩) d' (fun a o z u => kept a o z fun p z2 => ?_) (fun a o z n => exn a o z n) (fun a o z n => none_ a o z n) (fun a o p _ n => ?_) z
                    · rcases u with u | ⟨p', u⟩
                      · rw [u] at z2; cases z2
                      · rw [u] at z2
                        have z2 := Option.some.inj z2
                        unfold Loc.app at z2
                        injection z2 with z3 _
                        cases z3
                    · exact same_ a _ n (fun z => nomatch z)
                  · refine kept a o (S2.old a o n y) fun p z => ?_
                    rcases S2.own a _ z with z2 | z2 | z2
                    · cases z2
                    · rw [z2] at y; cases y
                    · exact n z2
                  · unfold repaid at y
                    cases y1 : ow1 a with
                    | none => rw [y1] at y; cases y
                    | some m' =>
                      rw [y1] at y
                      by_cases hf : m'.b = .fo
                      · simp only [hf, if_true] at y
                        exact S2.own a m y
                      · refine .inr ?_
                        rcases k2 a m' y1 hf with z | ⟨p, z⟩
                        · cases e : C.H0 a with
                          | none => exact .inl rfl
                          | some u =>
                            by_cases hi : C.io a
                            · exact .inr hi
                            · rw [S2.old a u hi e] at z; cases z
                        · rcases S2.own a _ (lent_sl.mp z) with z2 | z2
                          · cases z2
                          · exact z2
                  · exact same_ a _ (S2.fo a y) (fun z => nomatch z)
                  · unfold repaid at y
                    cases y1 : ow1 a with
                    | none => rw [y1] at y; cases y
                    | some m' => exact k4 a m' y1
                refine hpush.push (Rep.mono (l := ⟨b, []⟩) d (fun _ _ z _ => z) (fun _ _ z _ => z) (fun a o _ n => by unfold repaid; rw [n]) (fun a o p _ n => ?_) hr)
                have n' : ow1 a = some ⟨b, [] ++ p⟩ := n
                unfold repaid
                rw [n']
                simp [Loc.app, b1, b2]
    · exact h.elim
  · exact h.elim
theorem ve_callM {n i k : Nat} {F : D → List D → MO} {f : Addr} {fd : FuncData} {ps : List Str} {x : Str} {p pos : Pos} {e : Expr} {es : List Expr} (tk : Takes X W) (Fk : FnOk X.prog X.w X.K X.mg X.base (L2.CX X.prog X.w) k f fd ps (spM G n F)) (hr : Room k X.A) (hg : Gl X x) (hm : X.mg x = some (.ref f))
    (hk : PySem.W.keepIn X.K (.ref f) = true) (hb : Binds X.K fd ps []) (ha : VA X G C W (e :: es) fs) (hdb : (x == ("__debug__" : Str)) = false := by decide) (he : starEach (e :: es) X.env = (false, eval e X.env) :: starEach es X.env := by rfl) (hpl : (backTo pos (starEach es X.env)).any (·.1) = false := by rfl) :
    VE X G C W (.Call (.Name x p) (e :: es) [] pos) (cCallM n i F fs) := by
  refine PE.imp (pe_callS Fk hr hg hm hk hb (fun σ => passAt tk σ) ha hdb he hpl) fun s H Q h => ?_
  obtain ⟨r, T, S, g⟩ := h
  exact many (T2 := []) (by simpa using S) g fun xs vs r1 H1 S1 l1 g1 => callM_go (by simpa using S1) l1 g1
end
end VL

namespace VL
open PySem PySem.Spec PyProof.Rows L2
/-! ### a caught exception is kept as a value -/
section
variable {X : Cx} {pins : List (Addr × Obj)} {q : L2.St} {H : Hp} {s sI s' : Shared} {B h4 : Heap} {a : Addr}
theorem trackExc {cls : Value} {oe : Obj} {vs : Array Value} (J : Inv X pins q H sI) (grd : ∀ b o, sI.heap.get? b = some o → b ∉ frs X.stack → B.get? b = some o) (fresh : B.get? a = none) (noex : X.ex = []) (off : a ∉ frs (X.env :: X.outer))
    (J4 : Inv X pins q H { s' with heap := h4 }) (at4 : h4.get? a = some oe) (cl4 : Zc cls none oe) (dt4 : oe.data = .fields vs) (free : H a = none) : Inv X pins q (upd H a (ExT cls a)) { s' with heap := h4 } := by
  have out : a ∉ frs X.stack := by
    intro hm
    rcases J.ok.stk with e | ⟨e, _⟩
    · refine off ?_
      rw [e] at hm
      obtain ⟨x, p1, p2⟩ := List.mem_filterMap.mp hm
      exact List.mem_filterMap.mpr ⟨x, List.mem_cons_of_mem _ p1, p2⟩
    · exact off (e ▸ hm)
  have absent : sI.heap.get? a = none := by
    cases e : sI.heap.get? a with
    | none => rfl
    | some o => exact nomatch fresh.symm.trans (grd a o e out)
  have other : ∀ {b : Addr} {o : Obj}, sI.heap.get? b = some o → b ≠ a := by
    intro b o e z
    rw [z, absent] at e
    exact nomatch e
  have trk : ∀ {b : Addr} {o : HO}, H b = some o → upd H a (ExT cls a) b = some o := by
    intro b o e
    rw [upd_ne (ne_of_none e free)]
    exact e
  have unt : ∀ {b : Addr}, b ≠ a → H b = none → upd H a (ExT cls a) b = none := by
    intro b n e
    rw [upd_ne n]
    exact e
  have base' : Un X.fs X.ex X.H_0 (upd H a (ExT cls a)) X.s_0.heap h4 :=
    { keep := J4.base.keep, slot := J4.base.slot, there := J4.base.there
      free := fun b o e n hx => by
        obtain ⟨o2, e2⟩ := J.base.there b o e hx
        exact unt (other e2) (J4.base.free b o e n hx)
      tups := fun b xs e => trk (J4.base.tups b xs e)
      frzs := fun b o u e => trk (J4.base.frzs b o u e)
      tbls := fun b ps e => let ⟨m, e2⟩ := J4.base.tbls b ps e; ⟨m, trk e2⟩ }
  have own : ObjOk X.prog X.w (upd H a (ExT cls a)) h4 a (ExT cls a) := ⟨⟨oe, vs, at4, cl4, dt4⟩, ⟨oe, at4⟩, fun _ _ ⟨o, w, p1, p2⟩ k => ⟨o, w, k o p1, p2⟩⟩
  have hok' : HOk X.prog X.w (upd H a (ExT cls a)) h4 := fun b u e => by
    rcases Decidable.em (b = a) with rfl | n
    · rw [upd_same] at e
      exact Option.some.inj e ▸ own
    · rw [upd_ne n] at e
      exact ObjOk.stay (J4.hok b u e) (fun _ _ _ k => k) (fun _ k => trk k) (fun _ _ k => trk k)
  have fr' : upd H a (ExT cls a) X.env.locals = none := by
    obtain ⟨_, ⟨o, _, _, e, _⟩, _⟩ := J.loc
    exact unt (other e) J4.free
  exact { ok := J4.ok, os := J4.os, bare := J4.bare, base := base', loc := J4.loc, cell := J4.cell, free := fr', hok := hok', len := J4.len
          freeC := fun x c e => by
            obtain ⟨_, o, e2, _⟩ := J.cell x c e
            exact unt (other e2) (J4.freeC x c e)
          pin := fun p hp => by
            have z := J4.pin p hp
            exact ⟨z.1, unt (other (J.pin p hp).1) z.2.1, z.2.2⟩ }
theorem inSuite (I : Inv X pins q H s) : Inv (X.suite a (X.pn ++ pins)) [] q H s where
  ok := I.ok.suite a _
  os := I.os
  bare := I.bare
  base := I.base
  loc := I.loc
  cell := I.cell
  free := I.free
  freeC := I.freeC
  pin := fun p hp => I.pin p (by simpa using hp)
  hok := I.hok
  len := I.len
theorem outSuite {pn' : List (Addr × Obj)} (I : Inv (X.suite a (X.pn ++ pins)) pn' q H s) (ok : X.Ok) : Inv X pins q H s where
  ok := ok
  os := I.os
  bare := I.bare
  base := I.base
  loc := I.loc
  cell := I.cell
  free := I.free
  freeC := I.freeC
  pin := fun p hp => I.pin p (List.mem_append_left _ hp)
  hok := I.hok
  len := I.len
end
/-- the wish of a try: what the clause of the class c does (i: the slot of its name, where it has one) -/
def aft1 (i : Option Nat) (s : L2.St) : L2.St := match i with
  | some i => s.set i none
  | none => s
def bef1 (i : Option Nat) (a : Addr) (s : L2.St) : L2.St := match i with
  | some i => s.set i (some (.ref a))
  | none => s
def endsAt (i : Option Nat) (D : Ends) : Ends := ⟨fun s H => D.nx (aft1 i s) H, D.rt, fun s H => D.bk (aft1 i s) H, fun s H => D.ct (aft1 i s) H⟩
def wTry (K : PySem.W.Frag) (c : Value) (i : Option Nat) (ts : TS) (Wout : WX) (D : Ends) : WX := fun cls d s H =>
  ∃ b, PySem.W.exmOne K cls c = some b ∧ if b = true then d = none ∧ ∀ a, H a = none → ts (endsAt i D) (bef1 i a s) (upd H a (ExT cls a)) else Wout cls d s H
section
variable {X : Cx} {pins : List (Addr × Obj)} {Wout : WX} {D : Ends}
/-- no clause takes it: it goes on -/
theorem goesOn {a : Addr} {B h3 : Heap} {sI s' : Shared} {pn : List (Addr × Obj)} {q : L2.St} {H : Hp} {cls : Value} {d : Option Addr} (tk : Takes X Wout) (hs : X.stack = X.env :: X.outer) (hf : X.env.frame = some X.env.locals) (J : Inv X pins q H sI)
    (grd : ∀ b o, sI.heap.get? b = some o → b ∉ frs X.stack → B.get? b = some o) (fl : HandSPX.FlyingZ B (X.env :: X.outer) a (Zc cls d) h3) (up : sI.heap.UpToSlots h3) (free : H a = none) (os : s'.os = sI.os) (ag : AllBare s'.gens) (w : Wout cls d q H) :
    wpAny (model X.prog X.w) X.A (handleBy (.ref a) X.env []) (SP X pn D) X.xe { s' with heap := h3 } := by
  obtain ⟨_, _, _, oe, vs, t0, t1, t2, at3, z3, dt3, f1, _⟩ := id fl
  have last : wpAny (model X.prog X.w) X.A (setFlight (.ref a) X.env.frame) (fun _ s4 => wpAny (model X.prog X.w) X.A (throw (.ref a) : Sem Flow) (SP X pn D) X.xe s4) X.xe { s' with heap := h3 } := by
    rw [hf]
    apply HandSPX.setFlight_upZ fl
    intro h5 held5 up5
    apply wpAny_throw
    apply tk
    exact ⟨a, B, sI, pins, q, H, cls, d, rfl, J, grd, up.trans up5, .inr (.inr (hs ▸ held5)), free, os, ag, w⟩
  apply wpAny_handleBy_nil
  show wpAny _ _ (PySem.passOn _ _ _) _ _ _
  unfold PySem.passOn
  apply wpAny_bind
  apply wpAny_field at3 dt3 f1
  rw [if_neg (show ¬ (Value.ref t0 == Value.none) = true from by simp)]
  first
    | exact wpAny_bind last
    | exact wpAny_bind (wpAny_pure (wpAny_bind last))
/-- what a clause's suite leaves -/
theorem suiteEnd {a : Addr} {i : Option Nat} {f : Flow} {s6 : Shared} (ok : X.Ok) {Qf : Flow → Shared → Prop} (fin : ∀ {q6 : L2.St} {H6 : Hp} {f : Flow}, Inv X pins q6 H6 s6 → (∀ s7, Inv X pins (aft1 i q6) H6 s7 → SP X pins D f s7) → Qf f s6)
    (h : SP (X.suite a (X.pn ++ pins)) [] (endsAt i D) f s6) : Qf f s6 := by
  cases f with
  | next => obtain ⟨q6, H6, S6, w6⟩ := h; exact fin (outSuite S6 ok) fun s7 J7 => ⟨_, _, J7, w6⟩
  | brk => obtain ⟨q6, H6, S6, w6⟩ := h; exact fin (outSuite S6 ok) fun s7 J7 => ⟨_, _, J7, w6⟩
  | cont => obtain ⟨q6, H6, S6, w6⟩ := h; exact fin (outSuite S6 ok) fun s7 J7 => ⟨_, _, J7, w6⟩
  | ret u => obtain ⟨v6, q6, H6, S6, r6, w6⟩ := h; exact fin (outSuite S6 ok) fun s7 J7 => ⟨_, _, _, J7, r6, w6⟩
theorem tryTrk {x : Str} {c : Value} {i : Option Nat} {nm : Option Str} {body suite : List Stmt} {b0 : Stmt} {np pos pos' : Pos} {tb : WX → TS} {ts : TS} (noex : X.ex = []) (hs : X.stack = X.env :: X.outer) (hf : X.env.frame = some X.env.locals) (hN : X.N.Nodup)
    (hn : (i = none ∧ nm = none) ∨ ∃ j n, i = some j ∧ nm = some n ∧ X.N[j]? = some n ∧ X.env.kindOf n = some .local) (hc : Names X x c) (tk : Takes X Wout)
    (hb : ∀ (W : WX) (pn : List (Addr × Obj)) (xe : Value → Shared → Prop), Takes (X.tr pn xe) W → PassesOwn (model X.prog X.w) X.A X.env xe → PSs (X.tr pn xe) body (tb W))
    (hsu : ∀ (a : Addr) (pn : List (Addr × Obj)), PSs (X.suite a pn) (b0 :: suite) ts) :
    PS X (.Try body [.ExceptHandler (some (.Name x np)) nm (b0 :: suite) pos'] [] [] pos) (fun D q H => tb (wTry X.K c i ts Wout D) D q H) := by
  constructor
  intro pins s q H D I h
  have ok := I.ok
  apply wpAny_Try_except
  have run := (hb (wTry X.K c i ts Wout D) (X.pn ++ pins) (fun e s₁ => wpAny (model X.prog X.w) X.A (noteFrame e X.env) (fun _ s₂ => wpAny (model X.prog X.w) X.A (setFlight e none) (fun _ s₃ =>
    wpAny (model X.prog X.w) X.A (handleBy e X.env [.ExceptHandler (some (.Name x np)) nm (b0 :: suite) pos']) (SP X pins D) X.xe s₃) X.xe s₂) X.xe s₁) ?tk PassesOwn.looking).run [] s q H D (I.toTry _) h
  case tk =>
    rintro u s2 ⟨a, B, sI, pins2, q2, H2, cls, d, rfl, J2, grd, up, sky, free, os, ag, b, eb, w⟩
    have J : Inv X pins q2 H2 sI := J2.ofTry ok
    have fr : X.A.frames = some (X.env :: X.outer) := hs ▸ ok.frames
    show wpAny (model X.prog X.w) X.A (noteFrame (.ref a) X.env) _ _ _
    refine Sky.land Zc.steady fr hf (show Sky B (X.env :: X.outer) a (Zc cls d) X.env.locals s2.heap from hs ▸ sky) fun h3 fl3 up3 => ?_
    obtain ⟨oe3, vs3, at3, z3, dt3⟩ := fl3.there
    have off : a ∉ frs (X.env :: X.outer) := fun hm => by
      obtain ⟨_, o, e, nd⟩ := fl3.2.2.1.mem hm
      exact nd vs3 (Option.some.inj (at3.symm.trans e) ▸ dt3)
    have J3 : Inv X pins q2 H2 { s2 with heap := h3 } := J.landed grd fl3.1 (up.trans up3) os ag
    have S3 : Inv (X.suite a (X.pn ++ pins)) [] q2 H2 { s2 with heap := h3 } := inSuite J3
    have kind : PySem.W.Looks (model X.prog X.w) h3 (excMatches (.ref a) c) b := PySem.W.exm_one J3.kIn (fun A Q E s k q => wpAny_typeOf_ref (k _ _ at3) (z3.1.symm ▸ q)) eb
    refine wpAny_handleBy_cons (codeAny_handlers_test ?_) (fun z => nomatch z)
    have named : ∀ {Q : Value → Shared → Prop} {E : Value → Shared → Prop}, Q c { s2 with heap := h3 } → wpAny (model X.prog X.w) (X.A.mark (some (.ref a))) (eval (.Name x np) X.env) Q E { s2 with heap := h3 } := fun {Q E} k => by
      obtain ⟨g1, g2, g3 | ⟨g3, g4, g5⟩⟩ := hc
      · exact ld_glob (X := X.suite a (X.pn ++ pins)) S3 g1 g3 k g2
      · exact ld_blt (X := X.suite a (X.pn ++ pins)) S3 g1 g3 g4 k g5 g2
    refine named (kind.here ?_)
    cases b with
    | false => exact goesOn tk hs hf J grd fl3 (up.trans up3) free os ag w
    | true =>
      obtain ⟨rfl, w⟩ := w
      have tr : ∀ h4, HandSPX.FlyingZ B (X.env :: X.outer) a (Zc cls none) h4 → h3.UpToSlots h4 → Inv (X.suite a (X.pn ++ pins)) [] q2 (upd H2 a (ExT cls a)) { s2 with heap := h4 } := fun h4 fl4 up4 => by
        obtain ⟨oe4, vs4, at4, z4, dt4⟩ := fl4.there
        exact inSuite (trackExc J grd fl3.2.1 noex off (J.landed grd fl4.1 ((up.trans up3).trans up4) os ag) at4 z4 dt4 free)
      rcases hn with ⟨rfl, rfl⟩ | ⟨j, n, rfl, rfl, hj, hl⟩
      · apply codeAny_handlers_suite
        refine HandSPX.lands_againZ fl3 fun h4 fl4 up4 => ?_
        refine wpAny_mono ((hsu a (X.pn ++ pins)).run [] _ _ _ (endsAt none D) (tr h4 fl4 up4) (w a free)) (fun f s6 k6 => ?_) (fun _ _ z => z.elim)
        exact suiteEnd (i := none) (Qf := fun f s6 => SP X pins D f s6) ok (fun J6 k => k _ J6) k6
      · apply codeAny_handlers_suite_as
        refine HandSPX.lands_againZ fl3 fun h4 fl4 up4 => ?_
        refine store_ok (X := X.suite a (X.pn ++ pins)) (v := .ref a) (tr h4 fl4 up4) hN hj (.inl hl) rfl (fun s5 S5 => ?_) (.inr hl)
        refine wpAny_mono ((hsu a (X.pn ++ pins)).run [] s5 _ _ (endsAt (some j) D) S5 (w a free)) (fun f s6 k6 => ?_) (fun _ _ z => z.elim)
        exact suiteEnd (i := some j) (Qf := fun f s6 => wpAny (model X.prog X.w) X.A (do bindName X.env n .none; unbindBehindTheSuite X.env n pos') (fun _ s7 => SP X pins D f s7) X.xe s6) ok (fun J6 k => gone_ok J6 hN hj hl k) k6
  refine wpAny_mono run (fun f s1 k => ?_) (fun e s1 k => k)
  cases f with
  | next => obtain ⟨q1, H1, J1, w⟩ := k; exact wpAny_execs_nil ⟨q1, H1, J1.ofTry ok, w⟩
  | brk => obtain ⟨q1, H1, J1, w⟩ := k; exact ⟨q1, H1, J1.ofTry ok, w⟩
  | cont => obtain ⟨q1, H1, J1, w⟩ := k; exact ⟨q1, H1, J1.ofTry ok, w⟩
  | ret u => obtain ⟨v, q1, H1, J1, rr, w⟩ := k; exact ⟨v, q1, H1, J1.ofTry ok, rr, w⟩
end
end VL

namespace VL
open PySem PySem.Spec PyProof.Rows L2
/-! ### try -/
def putE (i : Option Nat) (c : Nat) (r : Rho) : Rho := match i with
  | some j => r.set j (some (.exc c))
  | none => r
def remE (i : Option Nat) (r : Rho) : Rho := match i with
  | some j => r.set j none
  | none => r
def inClause (i : Option Nat) (o : SO) : SO := match o with
  | .nx r => .nx (remE i r)
  | .bk r => .bk (remE i r)
  | .ct r => .ct (remE i r)
  | .rt x r => .rt x r
  | _ => .bad
def cTry (tb : Nat → Option Bool) (i : Option Nat) (fb fs : Sv) : Sv := fun r => match fb r with
  | .exc c r1 => (match tb c with
    | some true => inClause i (fs (putE i c r1))
    | some false => .exc c r1
    | none => .bad)
  | o => o
section
variable {X : Cx} {G : GX} {C : Fc} {W : WX} {ow ow' : Ow} {r : Rho} {T T1 T2 : List (D × V)} {s : L2.St} {H H' : Hp}
theorem vs_try {x : Str} {cv : Value} {i : Option Nat} {nm : Option Str} {body suite : List Stmt} {b0 : Stmt} {np pos pos' : Pos} {tb : Nat → Option Bool} {fb fs : Sv} (noex : X.ex = []) (hs : X.stack = X.env :: X.outer) (hf : X.env.frame = some X.env.locals) (hN : X.N.Nodup)
    (hn : (i = none ∧ nm = none) ∨ ∃ j n, i = some j ∧ nm = some n ∧ X.N[j]? = some n ∧ X.env.kindOf n = some .local) (hp : ∀ j, i = some j → ∀ p ∈ C.pin, p.1 ≠ j) (hc : Names X x cv) (tk : Takes X W) (hE : ∀ c b, tb c = some b → PySem.W.exmOne X.K (.ref (G c)) cv = some b)
    (hb : ∀ (W' : WX) (pn : List (Addr × Obj)) (xe : Value → Shared → Prop), Takes (X.tr pn xe) W' → PassesOwn (model X.prog X.w) X.A X.env xe → VSs (X.tr pn xe) G C W' body fb)
    (hsu : ∀ (a : Addr) (pn : List (Addr × Obj)), VSs (X.suite a pn) G C W0 (b0 :: suite) fs) :
    VS X G C W (.Try body [.ExceptHandler (some (.Name x np)) nm (b0 :: suite) pos'] [] [] pos) (cTry tb i fb fs) := by
  refine PS.imp (tryTrk (Wout := W) (tb := fun W' => tVS G C W' fb) (ts := tVS G C W0 fs) noex hs hf hN hn hc tk hb hsu) fun D s H h => ?_
  obtain ⟨r, T, S, g⟩ := h
  refine ⟨r, T, S, ?_⟩
  unfold cTry at g
  cases e : fb r with
  | nx r1 => rw [e] at g; exact g
  | rt x r1 => rw [e] at g; exact g
  | bk r1 => rw [e] at g; exact g
  | ct r1 => rw [e] at g; exact g
  | bad => rw [e] at g; exact g
  | exc c r1 =>
    simp only [e] at g
    intro s' H' S'
    cases e1 : tb c with
    | none => simp only [e1] at g; exact g.elim
    | some b =>
      refine ⟨b, hE c b e1, ?_⟩
      simp only [e1] at g
      cases b with
      | false => rw [if_neg Bool.false_ne_true]; exact g s' H' S'
      | true =>
        rw [if_pos rfl]
        refine ⟨rfl, fun a ha => ?_⟩
        have S1 : StOk G C r1 T s' (upd H' a (ExT (.ref (G c)) a)) := S'.ext (Ext.new ha)
        have S2 : StOk G C (putE i c r1) T (bef1 i a s') (upd H' a (ExT (.ref (G c)) a)) := by
          cases i with
          | none => exact S1
          | some j => exact StOk.set (d := .exc c) (v := .ref a) (S1.pushA rfl fun ow l => ⟨a, rfl, upd_same⟩) (hp j rfl)
        refine ⟨_, T, S2, ?_⟩
        have rem : ∀ {r2 : Rho} {s2 : L2.St} {H2 : Hp}, StOk G C r2 T s2 H2 → StOk G C (remE i r2) T (aft1 i s2) H2 := fun {r2 s2 H2} S3 => by
          cases i with
          | none => exact S3
          | some j => exact S3.wipe1 (hp j rfl)
        simp only at g
        cases e2 : fs (putE i c r1) with
        | nx r2 => rw [e2] at g; exact fun s2 H2 S3 => g _ _ (rem S3)
        | bk r2 => rw [e2] at g; exact fun s2 H2 S3 => g _ _ (rem S3)
        | ct r2 => rw [e2] at g; exact fun s2 H2 S3 => g _ _ (rem S3)
        | rt x r2 => rw [e2] at g; exact g
        | exc c' r2 => rw [e2] at g; exact g.elim
        | bad => rw [e2] at g; exact g.elim

/-! ### isinstance -/
def tyN : D → Option String
  | .non => some "NoneType"
  | .bl _ => some "bool"
  | .int _ => some "int"
  | .str _ => some "str"
  | .node .lst _ _ => some "list"
  | .node .tup _ _ => some "tuple"
  | .node (.dK _) _ _ => some "dict"
  | .node (.dT _) _ _ => some "dict"
  | _ => none
def tyNames : List String := ["NoneType", "bool", "int", "str", "list", "tuple", "dict"]
def isB (a b : String) : Option Bool := if tyNames.contains a && tyNames.contains b then some (a == b || (a == "bool" && b == "int")) else none
theorem kitB_all : (tyNames.all fun a => tyNames.all fun b => decide (kitB a b = some (a == b || (a == "bool" && b == "int")))) = true := by decide +kernel
theorem isB_ok {K : PySem.W.Frag} {a b : String} {r : Bool} (h : isB a b = some r) : PySem.W.kitOne K (.type a) (.type b) = some r := by
  unfold isB at h
  split at h
  · rename_i c
    rw [Bool.and_eq_true] at c
    cases h
    have z := kitB_all
    rw [List.all_eq_true] at z
    have z2 := z a (by simpa using c.1)
    rw [List.all_eq_true] at z2
    exact kit_ty (of_decide_eq_true (z2 b (by simpa using c.2)))
  · cases h
/-- a class as a value of the text's -/
def clsU (G : GX) : D → Option Value
  | .ty n => some (.type n)
  | .cls c => some (.ref (G c))
  | _ => none
abbrev ETab := Nat → D → Option Bool
def isiB (a : Option String) (c : D) : Option Bool := match a, c with
  | some a, .ty n => isB a n
  | _, _ => none
def isi1 (E : ETab) (d c : D) : Option Bool := match d with
  | .exc k => E k c
  | d => isiB (tyN d) c
def isiAny (E : ETab) (d : D) : List D → Option Bool
  | [] => some false
  | c :: cs => match isi1 E d c with
    | some true => some true
    | some false => isiAny E d cs
    | none => none
def isiD (E : ETab) (d c : D) : Option D := match c with
  | .node .tup _ cs => (isiAny E d cs).map .bl
  | c => (isi1 E d c).map .bl
def ETabOk (K : PySem.W.Frag) (G : GX) (E : ETab) : Prop := ∀ k c b, E k c = some b → ExcC K (G k) ∧ ∃ u, clsU G c = some u ∧ PySem.W.kitOne K (.ref (G k)) u = some b
def rIx (K : PySem.W.Frag) : List V → Hp → VK → Prop := fun xs H Q => ∃ (a A : Addr) (c : V) (u : Value) (b : Bool), xs = [.ref a, c] ∧ H a = some (ExT (.ref A) a) ∧ ExcC K A ∧ ClsV c u ∧ PySem.W.kitOne K (.ref A) u = some b ∧ Q (.bl b) H
def rIxT (K : PySem.W.Frag) : List V → Hp → VK → Prop := fun xs H Q => ∃ (a A tp : Addr) (cs : List V) (us : List Value) (b : Bool), xs = [.ref a, .ref tp] ∧ H a = some (ExT (.ref A) a) ∧ ExcC K A ∧ H tp = some (.tup cs) ∧ Paired ClsV cs us ∧ PySem.W.kitAny K (.ref A) us = some b ∧ Q (.bl b) H
theorem exc_kit {K : PySem.W.Frag} {a A : Addr} (E : ExcC K A) {pins : List (Addr × Obj)} {σ : L2.St} {H : Hp} {s : Shared} (I : Inv X pins σ H s) (h : H a = some (ExT (.ref A) a)) : ∃ oe, PySem.W.InstAt s.heap a oe A none ∧ PySem.W.KitX K (.ref a) (.ref A) (fun h => PySem.W.InstAt h a oe A none) := by
  obtain ⟨⟨oe, vs, e, z, d⟩, _⟩ := I.hok a _ h
  refine ⟨oe, ?_, PySem.W.handS_kitx_exc E.hg E.hk E.hs E.hd E.ha E.hn E.ht E.hm⟩
  obtain ⟨oc, od, oda, osl⟩ := oe
  obtain ⟨z1, z2⟩ := z
  dsimp only at z1 z2 d
  subst z1 z2 d
  exact ⟨e, rfl, rfl, trivial⟩
theorem call_ix : CallR X (.builtin "isinstance") (rIx X.K) := by
  intro pins s σ H xs us Q I r h
  obtain ⟨a, A, c, u, b, rfl, ha, E, k, e, q⟩ := h
  obtain ⟨u1, u2, rfl, r1, r2⟩ := vals2 r
  cases (show u1 = Value.ref a from r1)
  have e2 := k.eq r2
  subst e2
  obtain ⟨oe, J, Z⟩ := exc_kit E I ha
  exact PySem.W.kia_one Z I.kIn J e (fun z => nomatch z) fun tk => ⟨.bl b, H, I.tok tk, rfl, q⟩
theorem call_ixT : CallR X (.builtin "isinstance") (rIxT X.K) := by
  intro pins s σ H xs us Q I r h
  obtain ⟨a, A, tp, cs, ws, b, rfl, ha, E, hT, k, e, q⟩ := h
  obtain ⟨u1, u2, rfl, r1, r2⟩ := vals2 r
  cases (show u1 = Value.ref a from r1)
  cases (show u2 = Value.ref tp from r2)
  obtain ⟨oe, J, Z⟩ := exc_kit E I ha
  obtain ⟨_, its, rv, o, h1, h2, n, h3⟩ := I.hok tp _ hT
  have e3 := ClsV.all k rv
  subst e3
  obtain ⟨oc, od, dt, sl⟩ := o
  dsimp only at h2 h3
  subst h2 h3
  exact PySem.W.kia_tup Z I.kIn J h1 e (fun z => nomatch z) fun tk => ⟨.bl b, H, I.tok tk, rfl, q⟩
theorem tyN_ok {K : PySem.W.Frag} {d : D} {l : Loc} {v : V} {a : String} (h : Rep G ow H d l v) (e : tyN d = some a) : TyX K H v (.type a) := by
  cases d with
  | non => cases e; have z := rep_non h; subst z; exact .base .non
  | bl b => cases e; have z := rep_bl h; subst z; exact .base (.bl b)
  | int b => cases e; have z := rep_int h; subst z; exact .base (.int b)
  | str b => cases e; have z := rep_str h; subst z; exact .base (.str b)
  | node k o xs =>
    obtain ⟨p, vs, ev, h1, h2, h3⟩ := h
    subst ev
    cases k with
    | lst => cases e; exact .base (.lst h1)
    | rd => cases e
    | tup => cases e; exact .base (.tup h1)
    | dK ks => cases e; exact .base (.dK h1.1)
    | dT ks => cases e; exact .base (.dT h1.1)
    | ins c fs => cases e
  | _ => cases e
theorem clsU_ok {d : D} {l : Loc} {v : V} {u : Value} (h : Rep G ow H d l v) (e : clsU G d = some u) : ClsV v u := by
  cases d with
  | ty n => cases e; have z : v = .ty n := h; subst z; exact .ty n
  | cls c => cases e; have z : v = .ref (G c) := h; subst z; exact .own _
  | _ => cases e
/-- one class: its value, the answer -/
theorem isi1_ok {K : PySem.W.Frag} {E : ETab} (hE : ETabOk K G E) {d c : D} {b : Bool} (e : isi1 E d c = some b) : (∃ k u, d = .exc k ∧ ExcC K (G k) ∧ clsU G c = some u ∧ PySem.W.kitOne K (.ref (G k)) u = some b) ∨ ∃ a u, tyN d = some a ∧ clsU G c = some u ∧ PySem.W.kitOne K (.type a) u = some b := by
  have go : ∀ a, tyN d = some a → isiB (some a) c = some b → ∃ a u, tyN d = some a ∧ clsU G c = some u ∧ PySem.W.kitOne K (.type a) u = some b := fun a ha z => by
    cases c with
    | ty n => exact ⟨a, _, ha, rfl, isB_ok z⟩
    | _ => cases z
  cases d with
  | exc k =>
    obtain ⟨h1, u, h2, h3⟩ := hE k c b e
    exact .inl ⟨k, u, rfl, h1, h2, h3⟩
  | non => exact .inr (go _ rfl e)
  | bl _ => exact .inr (go _ rfl e)
  | int _ => exact .inr (go _ rfl e)
  | str _ => exact .inr (go _ rfl e)
  | node k o xs =>
    cases k with
    | ins c fs => cases e
    | rd => cases e
    | _ => exact .inr (go _ rfl e)
  | _ => cases e
theorem kitAny_of {K : PySem.W.Frag} {t : Value} {E : ETab} {d : D} (hd : ∀ c b, isi1 E d c = some b → ∃ u, clsU G c = some u ∧ PySem.W.kitOne K t u = some b) : ∀ {cs : List D} {b : Bool} {l : Loc} {i : Nat} {vs : List V}, isiAny E d cs = some b → (∀ c ∈ cs, ∃ u, clsU G c = some u) → Reps G ow H cs l i vs → ∃ us, Paired ClsV vs us ∧ PySem.W.kitAny K t us = some b
  | [], b, _, _, vs, e, _, h => by
    have z : vs = [] := h
    subst z
    cases e
    exact ⟨[], .nil, rfl⟩
  | c :: cs, b, l, i, vs, e, hu, h => by
    obtain ⟨v, ws, ev, h1, h2⟩ := h
    subst ev
    unfold isiAny at e
    cases e1 : isi1 E d c with
    | none => rw [e1] at e; cases e
    | some b1 =>
      rw [e1] at e
      obtain ⟨u, g1, g2⟩ := hd c b1 e1
      cases b1 with
      | true =>
        cases e
        have rest : ∀ {cs : List D} {l : Loc} {i : Nat} {vs : List V}, (∀ c ∈ cs, ∃ u, clsU G c = some u) → Reps G ow H cs l i vs → ∃ us, Paired ClsV vs us := by
          intro cs
          induction cs with
          | nil => intro l i vs _ h; have z : vs = [] := h; subst z; exact ⟨[], .nil⟩
          | cons c cs ih =>
            intro l i vs hu h
            obtain ⟨v, ws, ev, h1, h2⟩ := h
            subst ev
            obtain ⟨u, hc⟩ := hu c List.mem_cons_self
            obtain ⟨us, p⟩ := ih (fun c hc => hu c (List.mem_cons_of_mem _ hc)) h2
            exact ⟨u :: us, .cons (clsU_ok h1 hc) p⟩
        obtain ⟨us, p⟩ := rest (fun c hc => hu c (List.mem_cons_of_mem _ hc)) h2
        refine ⟨u :: us, .cons (clsU_ok h1 g1) p, ?_⟩
        unfold PySem.W.kitAny
        rw [g2]
      | false =>
        obtain ⟨us, p, k⟩ := kitAny_of hd e (fun c hc => hu c (List.mem_cons_of_mem _ hc)) h2
        refine ⟨u :: us, .cons (clsU_ok h1 g1) p, ?_⟩
        unfold PySem.W.kitAny
        rw [g2]
        exact k
def isCls : D → Bool
  | .ty _ => true
  | .cls _ => true
  | _ => false
def gIsi (E : ETab) : List R → Rho → EO := fun xs r => match xs with
  | [x, .val (.node .tup _ cs)] => (match opd r x with
    | some d => if (cs.all isCls && !cs.isEmpty) = true then (match isiAny E d cs with
      | some b => .ok (.val (.bl b)) r
      | none => .bad) else .bad
    | none => .bad)
  | [x, .val c] => (match opd r x with
    | some d => (match isi1 E d c with
      | some b => .ok (.val (.bl b)) r
      | none => .bad)
    | none => .bad)
  | _ => .bad
theorem isCls_u {c : D} (h : isCls c = true) : ∃ u, clsU G c = some u := by
  cases c with
  | ty n => exact ⟨_, rfl⟩
  | cls n => exact ⟨_, rfl⟩
  | _ => cases h
def rIsiAll (K : PySem.W.Frag) : List V → Hp → VK → Prop := fun vs H Q => rIsi K vs H Q ∨ rIsiT K vs H Q ∨ rIx K vs H Q ∨ rIxT K vs H Q
theorem call_isiAll : CallR X (.builtin "isinstance") (rIsiAll X.K) := call_isi.or (call_isiT.or (call_ix.or call_ixT))
theorem isi_go {E : ETab} (hE : ETabOk X.K G E) {xs : List R} {vs : List V} {Q : VK} (S : StOk G C r (T ++ pushs xs vs) s H) (l : LocsOk s xs vs) (q : Goes G C W T s Q (gIsi E xs r)) : rIsiAll X.K vs H Q := by
  obtain ⟨ow, S⟩ := S
  unfold gIsi at q
  split at q
  · rename_i x o cs
    cases vs with
    | nil => exact l.elim
    | cons v vs =>
      cases vs with
      | nil => exact l.2.elim
      | cons u vs =>
        cases vs with
        | cons _ _ => exact l.2.2.elim
        | nil =>
          have S' : StW G C ow r (T ++ (pushR x v ++ [(.node .tup o cs, u)])) s H := by simpa [pushs, pushR] using S
          split at q
          · rename_i d e1
            split at q
            · rename_i hc
              split at q
              · rename_i b eb
                have hd := opd_rep S' l.1 e1
                have ht := StW.last (T := T ++ pushR x v) (by rw [List.append_assoc]; exact S')
                obtain ⟨tp, ws, eu, h1, h2, h3⟩ := ht
                subst eu
                rw [Bool.and_eq_true] at hc
                have hu : ∀ c ∈ cs, ∃ u, clsU G c = some u := fun c hcm => isCls_u (List.all_eq_true.mp hc.1 c hcm)
                obtain ⟨c0, cs', rfl⟩ : ∃ c0 cs', cs = c0 :: cs' := by
                  cases cs with
                  | nil => exact absurd hc.2 (by simp)
                  | cons c0 cs' => exact ⟨c0, cs', rfl⟩
                obtain ⟨b1, e2⟩ : ∃ b1, isi1 E d c0 = some b1 := by
                  unfold isiAny at eb
                  cases e2 : isi1 E d c0 with
                  | none => rw [e2] at eb; cases eb
                  | some b1 => exact ⟨b1, rfl⟩
                have fin : Q (.bl b) H := goes_val q ⟨ow, S.drop⟩ rfl fun _ _ => rfl
                by_cases hx : ∃ k, d = .exc k
                · obtain ⟨k, rfl⟩ := hx
                  obtain ⟨a, ev, ha⟩ := hd
                  subst ev
                  have hex : ExcC X.K (G k) := (hE k c0 b1 e2).1
                  obtain ⟨us, p, kk⟩ := kitAny_of (E := E) (d := .exc k) (t := .ref (G k)) (fun c b hb => (hE k c b hb).2) eb hu h3
                  exact .inr (.inr (.inr ⟨a, G k, tp, ws, us, b, rfl, ha, hex, h1, p, kk, fin⟩))
                · rcases isi1_ok hE e2 with ⟨k, _, e, _⟩ | ⟨a, _, ht, _⟩
                  · exact absurd ⟨k, e⟩ hx
                  · obtain ⟨us, p, kk⟩ := kitAny_of (K := X.K) (t := .type a) (fun c b hb => by
                      rcases isi1_ok hE hb with ⟨k, _, e, _⟩ | ⟨a', u, g1, g2, g3⟩
                      · exact absurd ⟨k, e⟩ hx
                      · rw [ht] at g1; cases g1; exact ⟨u, g2, g3⟩) eb hu h3
                    exact .inr (.inl ⟨v, tp, ws, _, us, b, rfl, h1, p, tyN_ok hd ht, kk, fin⟩)
              · exact q.elim
            · exact q.elim
          · exact q.elim
  · rename_i x c hnt
    cases vs with
    | nil => exact l.elim
    | cons v vs =>
      cases vs with
      | nil => exact l.2.elim
      | cons u vs =>
        cases vs with
        | cons _ _ => exact l.2.2.elim
        | nil =>
          have S' : StW G C ow r (T ++ (pushR x v ++ [(c, u)])) s H := by simpa [pushs, pushR] using S
          split at q
          · rename_i d e1
            split at q
            · rename_i b eb
              have hd := opd_rep S' l.1 e1
              have hc := StW.last (T := T ++ pushR x v) (by rw [List.append_assoc]; exact S')
              have fin : Q (.bl b) H := goes_val q ⟨ow, S.drop⟩ rfl fun _ _ => rfl
              rcases isi1_ok hE eb with ⟨k, w, rfl, hex, hu, kk⟩ | ⟨a, w, ht, hu, kk⟩
              · obtain ⟨p, ev, hp⟩ := hd
                subst ev
                exact .inr (.inr (.inl ⟨p, G k, u, w, b, rfl, hp, hex, clsU_ok hc hu, kk, fin⟩))
              · exact .inl ⟨v, u, _, w, b, rfl, clsU_ok hc hu, tyN_ok hd ht, kk, fin⟩
            · exact q.elim
          · exact q.elim
  · exact q.elim
theorem ve_isi {E : ETab} {fs : Av} {x : Str} {p pos : Pos} {e : Expr} {es : List Expr} (hE : ETabOk X.K G E) (hg : Gl X x) (hm : X.mg x = none) (hv : bootBuiltins x = some (.builtin "isinstance")) (ha : VA X G C W (e :: es) fs) (hn : x ≠ "__name__" := by decide) (hdb : (x == ("__debug__" : Str)) = false := by decide)
    (he : starEach (e :: es) X.env = (false, eval e X.env) :: starEach es X.env := by rfl) (hpl : (backTo pos (starEach es X.env)).any (·.1) = false := by rfl) : VE X G C W (.Call (.Name x p) (e :: es) [] pos) (cB (gIsi E) fs) := by
  refine PE.imp (pe_callB call_isiAll hg hm hv ha hn hdb he hpl) fun s H Q h => ?_
  obtain ⟨r, T, S, g⟩ := h
  exact many (T2 := []) (by simpa using S) g fun xs vs r1 H1 S1 l1 g1 => isi_go hE (by simpa using S1) l1 g1
/-- a class's name -/
theorem ve_gcls {c : Nat} {x : Str} {pos : Pos} (hg : Gl X x) (hm : X.mg x = some (.ref (G c))) (hd : (x == ("__debug__" : Str)) = false := by decide) : VE X G C W (.Name x pos) (cC (.cls c)) :=
  ve_c (pe_glob (v := .ref (G c)) hg hm rfl hd) rfl fun _ _ _ => rfl
theorem ve_gty {n : String} {x : Str} {pos : Pos} (hg : Gl X x) (hm : X.mg x = none) (hv : bootBuiltins x = some (.type n)) (hn : x ≠ "__name__" := by decide) (hd : (x == ("__debug__" : Str)) = false := by decide) : VE X G C W (.Name x pos) (cC (.ty n)) :=
  ve_c (pe_bltn (v := .ty n) hg hm hv rfl hn hd) rfl fun _ _ _ => rfl
end
end VL

namespace VL
open PySem PySem.Spec PyProof.Rows L2
section
variable {P : Program} {w : World} {K : PySem.W.Frag} {mg : Str → Option Value} {base : Heap} {G : GX}
/-- THE RULE for a def, the context given -/
theorem fnV2 {x qual : Str} {st : Stmt} {f : Addr} {fd : FuncData} {N ps : List Str} {k : Nat} {fb : Sv} (F : Fun K x qual st f fd) (S : FnScope N ps (defScope st))
    (hbody : ∀ (cdv : Value) (A : Around) (outer : List Env) (s : Shared) (H : Hp) (E : XK) (C : Fc), Room k (A.deeper (envOfC qual (defScope st) s.heap.objs.size f cdv)) → C.pin = [] → VSs (cxOf (L2.CX P w) P w K mg base N qual (defScope st) f cdv A outer s H E) G C (fun cls d _ H => E cls d H) (defBody st) fb) :
    FnOk P w K mg base (L2.CX P w) (k + 1) f fd ps (spV G ps.length (runF N.length fb)) := by
  refine F.okX S (fun vs H Q E h => spV_len h) (fun cdv A outer s H vs Q E hr h => ?_)
  obtain ⟨ds, ow0, h1, h2, h3, h4, h5⟩ := h
  refine ⟨_, hbody cdv A outer s H E (fcOf H ow0) hr rfl, ?_⟩
  refine ⟨startR N.length ds, [], ⟨_, start_ok (N := N) h3 h2 h4⟩, ?_⟩
  unfold runF at h5
  cases e : fb (startR N.length ds) with
  | nx r =>
    rw [e] at h5
    intro s' H' S'
    obtain ⟨ow, S'⟩ := S'
    exact h5 .non H' (ext_of S') (behind_of (b := .tm 0) (fun z => nomatch z) S' rfl)
  | rt x r =>
    simp only [e] at h5
    intro s' v H' P'
    cases e2 : opd r x with
    | none => rw [e2] at h5; exact h5.elim
    | some d =>
      rw [e2] at h5
      obtain ⟨⟨ow, S'⟩, l⟩ := P'
      have z := opd_rep (T := []) (T2 := []) (by simpa using S') l e2
      refine h5 v H' (ext_of S') ?_
      cases x with
      | val d' => exact behind_of (b := .tm 0) (fun z => nomatch z) S' z
      | loc i => exact behind_of (b := .sl i) (fun z => nomatch z) S' z
  | exc c r =>
    simp only [e] at h5
    intro s' H' S'
    obtain ⟨ow, S'⟩ := S'
    exact h5 H' (ext_of S')
  | bk r => rw [e] at h5; exact h5.elim
  | ct r => rw [e] at h5; exact h5.elim
  | bad => rw [e] at h5; exact h5.elim
/-- the same for a def that changes its first argument -/
theorem fnM2 {x qual : Str} {st : Stmt} {f : Addr} {fd : FuncData} {N ps : List Str} {k n : Nat} {fb : Sv} (F : Fun K x qual st f fd) (S : FnScope N ps (defScope st)) (hps : ps.length = n + 1)
    (hbody : ∀ (cdv : Value) (A : Around) (outer : List Env) (s : Shared) (H : Hp) (E : XK) (C : Fc), Room k (A.deeper (envOfC qual (defScope st) s.heap.objs.size f cdv)) → (∀ p ∈ C.pin, p.1 = 0) → VSs (cxOf (L2.CX P w) P w K mg base N qual (defScope st) f cdv A outer s H E) G C (fun cls d _ H => E cls d H) (defBody st) fb) :
    FnOk P w K mg base (L2.CX P w) (k + 1) f fd ps (spM G n (runM N.length fb)) := by
  refine F.okX S (fun vs H Q E h => (spM_len h).trans hps.symm) (fun cdv A outer s H vs Q E hr h => ?_)
  obtain ⟨d0, ds, v0, us, ow0, ev, h1, h2, h3, h4, h5, h6⟩ := h
  subst ev
  refine ⟨_, hbody cdv A outer s H E (fcM H ow0 v0) hr (fun p hp => by
    have e : p = (0, v0) := by simpa [fcM] using hp
    rw [e]), ?_⟩
  refine ⟨startR N.length (d0 :: ds), [], ⟨_, startM_ok (N := N) h5 h2 h3 h4⟩, ?_⟩
  have fin : ∀ {d d0' : D} {v : V} {r : Rho} {T : List (D × V)} {s' : L2.St} {H' : Hp} {ow : Ow} {b : Bs}, StW G (fcM H ow0 v0) ow r T s' H' → r[0]? = some (some d0') → b ≠ .fo → b ≠ .sl 0 → Rep G ow H' d ⟨b, []⟩ v →
      (∀ v H' (ow1 : Ow) (b : Bs), (∀ a o, (∀ p, ow0 a ≠ some ⟨.sl 0, p⟩) → H a = some o → H' a = some o) → b ≠ .fo → b ≠ .sl 0 → Rep G ow1 H' d ⟨b, []⟩ v → Rep G ow1 H' d0' ⟨.sl 0, []⟩ v0 →
      (∀ a l, ow1 a = some l → l.b ≠ .fo → H a = none ∨ ∃ p, ow0 a = some ⟨.sl 0, p⟩) → (∀ a, ow0 a = some ⟨.fo, []⟩ → ow1 a = some ⟨.fo, []⟩) → (∀ a l, ow1 a = some l → OwnO (H' a)) → Q v H') → Q v H' :=
    fun {d d0' v r T s' H' ow b} S' h0 b1 b2 hr hq => by
      obtain ⟨v0', z1, z2⟩ := S'.sl 0 d0' h0
      have p0 := S'.pin (0, v0) (by simp [fcM])
      have p0 : s'[0]? = some (some v0) := p0
      rw [p0] at z1
      cases z1
      exact hq v H' ow b (fun a o n q => S'.old a o (fun ⟨p, z⟩ => n p z) q) b1 b2 hr z2 (fun a l q n => (S'.own a l q).elim (fun z => absurd z n) id) (fun a q => S'.fo a q) S'.mu
  unfold runM at h6
  cases e : fb (startR N.length (d0 :: ds)) with
  | nx r =>
    rw [e] at h6
    intro s' H' S'
    cases e2 : r[0]? with
    | none => simp only [e2] at h6
    | some o =>
      cases o with
      | none => simp only [e2] at h6
      | some d0' =>
        simp only [e2] at h6
        obtain ⟨ow, S'⟩ := S'
        exact fin (d := .non) (b := .tm 0) S' e2 (fun z => nomatch z) (fun z => nomatch z) rfl h6
  | rt x r =>
    rw [e] at h6
    intro s' v H' P'
    obtain ⟨⟨ow, S'⟩, l⟩ := P'
    cases x with
    | val d =>
      cases e2 : r[0]? with
      | none => simp only [e2] at h6
      | some o =>
        cases o with
        | none => simp only [e2] at h6
        | some d0' =>
          simp only [e2] at h6
          have z := opd_rep (x := .val d) (T := []) (T2 := []) (by simpa using S') l rfl
          exact fin (b := .tm 0) S' e2 (fun z => nomatch z) (fun z => nomatch z) z h6
    | loc i =>
      by_cases hi : i = 0
      · simp only [hi, if_true] at h6
      · simp only [hi, if_false] at h6
        cases e3 : opd r (.loc i) with
        | none => simp only [e3] at h6
        | some d =>
          cases e2 : r[0]? with
          | none => simp only [e3, e2] at h6
          | some o =>
            cases o with
            | none => simp only [e3, e2] at h6
            | some d0' =>
              simp only [e3, e2] at h6
              have z := opd_rep (x := .loc i) (T := []) (T2 := []) (by simpa using S') l e3
              exact fin (b := .sl i) S' e2 (fun z => nomatch z) (fun z => hi (by injection z)) z h6
  | exc c r => rw [e] at h6; exact h6.elim
  | bk r => rw [e] at h6; exact h6.elim
  | ct r => rw [e] at h6; exact h6.elim
  | bad => rw [e] at h6; exact h6.elim
end
/-! ### pins -/
theorem pinV {C : Fc} (h : C.pin = []) (i : Nat) : ∀ p ∈ C.pin, p.1 ≠ i := fun p hp => by rw [h] at hp; simp at hp
theorem pinVo {C : Fc} (h : C.pin = []) (l : List Nat) : ∀ p ∈ C.pin, p.1 ∉ l := fun p hp => by rw [h] at hp; simp at hp
theorem pinM {C : Fc} (h : ∀ p ∈ C.pin, p.1 = 0) (i : Nat) (hi : i ≠ 0) : ∀ p ∈ C.pin, p.1 ≠ i := fun p hp z => hi ((h p hp).symm.trans z).symm
theorem pinMo {C : Fc} (h : ∀ p ∈ C.pin, p.1 = 0) (l : List Nat) (hl : 0 ∉ l) : ∀ p ∈ C.pin, p.1 ∉ l := fun p hp z => hl (by rw [h p hp] at z; exact z)
/-! ### the text's exception classes -/
def keyOf : D → Option (Nat ⊕ String)
  | .cls j => some (.inl j)
  | .ty n => some (.inr n)
  | _ => none
abbrev Tab := List (Nat × (Nat ⊕ String) × Bool)
def findT (k : Nat) (q : Nat ⊕ String) : Tab → Option Bool
  | [] => none
  | (i, p, b) :: t => if i = k ∧ p = q then some b else findT k q t
def etab (t : Tab) : ETab := fun k c => match keyOf c with
  | some q => findT k q t
  | none => none
def tbOf (t : Tab) (j : Nat) : Nat → Option Bool := fun k => findT k (.inl j) t
def tbTy (t : Tab) (n : String) : Nat → Option Bool := fun k => findT k (.inr n) t
def valOf (G : GX) : Nat ⊕ String → Value
  | .inl j => .ref (G j)
  | .inr n => .type n
/-- a row of the table, told of the written part -/
structure RowT (K : PySem.W.Frag) (G : GX) (k : Nat) (q : Nat ⊕ String) (b : Bool) : Prop where
  ex : ExcC K (G k)
  base : PySem.W.subIn K (valOf G q) (.type "BaseException") = some true ∨ ∃ n, q = .inr n
  kit : PySem.W.kitCls K (.ref (G k)) (valOf G q) = some b
  self : Value.ref (G k) = valOf G q → b = true
def AllT (K : PySem.W.Frag) (G : GX) : Tab → Prop
  | [] => True
  | (k, q, b) :: t => RowT K G k q b ∧ AllT K G t
theorem AllT.find {K : PySem.W.Frag} {G : GX} {k : Nat} {q : Nat ⊕ String} {b : Bool} : ∀ {t : Tab}, AllT K G t → findT k q t = some b → RowT K G k q b
  | [], _, e => by cases e
  | (i, p, c) :: t, h, e => by
    unfold findT at e
    split at e
    · rename_i z
      obtain ⟨rfl, rfl⟩ := z
      cases e
      exact h.1
    · exact AllT.find h.2 e
theorem AllT.etab {K : PySem.W.Frag} {G : GX} {t : Tab} (h : AllT K G t) : ETabOk K G (VL.etab t) := fun k c b e => by
  unfold VL.etab at e
  cases e2 : keyOf c with
  | none => rw [e2] at e; cases e
  | some q =>
    rw [e2] at e
    have r := h.find e
    refine ⟨r.ex, valOf G q, ?_, ?_⟩
    · cases c with
      | ty n => cases e2; rfl
      | cls j => cases e2; rfl
      | _ => cases e2
    · unfold PySem.W.kitOne
      by_cases z : (Value.ref (G k) == valOf G q) = true
      · rw [if_pos z, r.self (by simpa using z)]
      · rw [if_neg z]; exact r.kit
theorem AllT.exm {K : PySem.W.Frag} {G : GX} {t : Tab} (h : AllT K G t) (j : Nat) : ∀ c b, tbOf t j c = some b → PySem.W.exmOne K (.ref (G c)) (.ref (G j)) = some b := fun c b e => by
  have r := h.find e
  unfold PySem.W.exmOne
  rcases r.base with z | ⟨n, z⟩
  · have z : PySem.W.subIn K (.ref (G j)) (.type "BaseException") = some true := z
    rw [z]
    exact r.kit
  · cases z
theorem kitCls_ref {K : PySem.W.Frag} {S : Addr} {t : Value} {b : Bool} (h2 : PySem.W.isClsIn K S = true) (h3 : PySem.W.typeIn K (.ref S) = some (.type "type")) (h4 : PySem.W.subIn K t (.ref S) = some b) : PySem.W.kitCls K t (.ref S) = some b := by
  have e2 : ((PySem.W.clsIn K S).isSome && PySem.W.typeIn K (.ref S) == some (.type "type")) = true := by
    have h2' : (PySem.W.clsIn K S).isSome = true := h2
    rw [h2', h3] <;> rfl
  show (if ((PySem.W.clsIn K S).isSome && PySem.W.typeIn K (.ref S) == some (.type "type")) = true then PySem.W.subIn K t (.ref S) else none) = some b
  rw [if_pos e2]
  exact h4
/-- what the written part says of a class of the text's -/
structure ClsF (K : PySem.W.Frag) (S : Addr) : Prop where
  ic : PySem.W.isClsIn K S = true
  tc : PySem.W.typeIn K (.ref S) = some (.type "type")
  bc : PySem.W.subIn K (.ref S) (.type "BaseException") = some true
theorem row_cls {K : PySem.W.Frag} {G : GX} {k j : Nat} {b : Bool} (hk : ExcC K (G k)) (hj : ClsF K (G j)) (self : PySem.W.subIn K (.ref (G k)) (.ref (G k)) = some true) (h : PySem.W.subIn K (.ref (G k)) (.ref (G j)) = some b) : RowT K G k (.inl j) b :=
  ⟨hk, .inl hj.bc, kitCls_ref hj.ic hj.tc h, fun e => by
    have e : Value.ref (G k) = Value.ref (G j) := e
    rw [← e, self] at h
    exact (Option.some.inj h).symm⟩
theorem row_ty {K : PySem.W.Frag} {G : GX} {k : Nat} {n : String} {b : Bool} (hk : ExcC K (G k)) (hm : PySem.W.kitMeta n = true) (h : PySem.W.subIn K (.ref (G k)) (.type n) = some b) : RowT K G k (.inr n) b :=
  ⟨hk, .inr ⟨n, rfl⟩, by
    show (if PySem.W.kitMeta n = true then PySem.W.subIn K (.ref (G k)) (.type n) else none) = some b
    rw [if_pos hm]; exact h, fun e => nomatch e⟩

/-! ### the law -/
def spLaw (K : PySem.W.Frag) : Sp := fun vs H Q _ => ∃ (a : Addr) (ns : List Int), vs = [.ref a] ∧ Holds ⟨fun _ => a, K⟩ H a .rd (ns.map V.int) ∧ ns.length ≤ 63 ∧ ∀ H', Q (.bl true) H'
theorem frzs_ints (ns : List Int) : frzs (ns.map D.int) = ns.map D.int := by
  rw [frzs_map, List.map_map]
  exact List.map_congr_left fun _ _ => rfl
theorem reps_ints {G : GX} {ow : Ow} {H : Hp} : ∀ (ns : List Int) (l : VL.Loc) (i : Nat), Reps G ow H (ns.map D.int) l i (ns.map V.int)
  | [], _, _ => rfl
  | n :: ns, l, i => ⟨_, _, rfl, rfl, reps_ints ns l (i + 1)⟩
def script (ns : List Int) : D := .node .rd false (ns.map D.int)
theorem law_imp {K : PySem.W.Frag} {G : GX} (hG : G.K = K) {F : List D → FO} (h : ∀ ns : List Int, ns.length ≤ 63 → F [script ns] = .ok (.bl true)) {vs : List V} {H : Hp} {Q : VK} {E : XK} (q : spLaw K vs H Q E) : spV G 1 F vs H Q E := by
  obtain ⟨a, ns, rfl, ha, hl, hq⟩ := q
  refine ⟨[script ns], fun _ => none, rfl, ?_, (fun a l z => nomatch z), ?_, ?_⟩
  · show [D.node .rd false (frzs (ns.map D.int))] = _
    rw [frzs_ints]; rfl
  · refine ⟨_, _, rfl, ⟨a, ns.map V.int, rfl, ?_, trivial, reps_ints ns _ _⟩, rfl⟩
    rcases ha with z | z
    · exact .inl z
    · exact .inr (by rw [hG]; exact z)
  · rw [h ns hl]
    intro v H' _ b
    obtain ⟨ow1, b, _, hr, _⟩ := b
    have e : v = .bl true := hr
    subst e
    exact hq H'
theorem law_in {K : PySem.W.Frag} {H : Hp} {a : Addr} {ns : List Int} (hl : ns.length ≤ 63) (hO : Only H) (hS : SqL K H a (ns.map V.int)) : spLaw K [.ref a] H (fun v _ => v = .bl true) fun _ _ _ => False := by
  refine ⟨a, ns, rfl, ?_, hl, fun _ => rfl⟩
  rcases hS with z | z
  · rcases hO a with q | ⟨o, xs, q⟩
    · rcases z with z | ⟨o, z⟩
      · rw [q] at z; cases z
      · exact .inl ⟨o, z⟩
    · rcases z with z | ⟨o, z⟩
      · rw [q] at z; cases z
      · exact .inl ⟨o, z⟩
  · exact .inr z
/-- so many turns may a while take -/
theorem fuel_ex : ∃ n : Nat, 1000000000 ≤ n := ⟨_, Nat.le_refl _⟩
noncomputable def fuel : Nat := Classical.choose fuel_ex
theorem fuel_ge : 1000000000 ≤ fuel := Classical.choose_spec fuel_ex
end VL

namespace VL
open PySem PySem.Spec PyProof.Rows L2
section
variable {X : Cx} {G : GX} {C : Fc} {W : WX} {ow ow' : Ow} {r : Rho} {T T1 T2 : List (D × V)} {s : L2.St} {H H' : Hp} {fa fb fc : Ev} {f g : Sv} {fs : Av}
theorem units65 {k : Nat} {A : Around} (h : Room k A) : A.units + 65 < cLine := by have := h.un; omega
def gRev (x : R) (r : Rho) : EO := match opd r x with
  | some (.node .lst _ xs) => .ok (.val (.node .lst true (frzs xs).reverse)) (touch r x)
  | some (.node .rd _ xs) => .ok (.val (.node .lst true (frzs xs).reverse)) (touch r x)
  | _ => .bad
/-- a[::-1] of a list -/
def cRev (fa : Ev) : Ev := fun r => (fa r).bd gRev
theorem Reps.rev {ds : List D} {l : Loc} {vs : List V} (e : VL.frzs ds = ds) (h : Reps G ow H ds l 0 vs) : Reps G ow H ds.reverse l 0 vs.reverse ∧ VL.frzs ds.reverse = ds.reverse := by
  have hl := h.length
  refine ⟨Reps.of_get (by simp [hl]) fun j d v q1 q2 => ?_, by rw [frzs_map, List.map_reverse, ← frzs_map, e]⟩
  have hj : j < ds.length := by
    have := (List.getElem?_eq_some_iff.mp q1).1
    simpa using this
  rw [List.getElem?_reverse hj] at q1
  rw [List.getElem?_reverse (by omega), ← hl] at q2
  obtain ⟨v', z1, z2⟩ := h.get _ d q1
  rw [q2] at z1
  cases z1
  have f : VL.frz d = d := by
    have := congrArg (·[ds.length - 1 - j]?) e
    simp only [frzs_map, List.getElem?_map, q1, Option.map_some] at this
    exact Option.some.inj this
  exact Rep.moveF d f (fun a o z q => ⟨z, q⟩) (fun _ _ z _ => z) z2
theorem ve_rev {a : Expr} {k : Nat} {p1 p2 p3 pos : Pos} (hK : G.K = X.K) (ha : VE X G C W a fa) : VE X G C W (.Subscript a (.Slice none none (some (.UnaryOp .USub (.Constant (.int 1) k p1) p2)) p3) pos) (cRev fa) := by
  refine PE.imp (pe_revL ha) fun s H Q h => ?_
  obtain ⟨r, T, S, g⟩ := h
  refine one S g fun x v r1 H1 P g1 => ?_
  obtain ⟨ow, S3⟩ := P.1
  unfold gRev at g1
  split at g1
  · rename_i o xs e1
    obtain ⟨ow', p, vs, S', ev, h1, rx, _⟩ := S3.parts P.2 e1
    subst ev
    obtain ⟨c1, c2⟩ := (rx ⟨.fo, []⟩).rev (frzs_frzs xs)
    exact ⟨p, vs, rfl, SqL.of h1, S'.made c2 c1 g1⟩
  · rename_i o xs e1
    obtain ⟨ow', p, vs, S', ev, h1, rx, _⟩ := S3.parts P.2 e1
    subst ev
    obtain ⟨c1, c2⟩ := (rx ⟨.fo, []⟩).rev (frzs_frzs xs)
    exact ⟨p, vs, rfl, hK ▸ h1.seq, S'.made c2 c1 g1⟩
  · exact g1.elim
def cIdx (i : Nat) (fa : Ev) : Ev := fun r => if isLst r i = true then cBin gIndex (cVar i) fa r else .bad
end
end VL
namespace VL
open PySem PySem.Spec PyProof.Rows L2
/-! ### the names of a block of its own, as its scope is told anew -/
theorem look_relabel {env : Env} {x : Str} {k : NameKind} : ∀ {names : List (Str × NameKind)}, names.lookup x = some k →
    (names.map fun (n, k) => if (k == NameKind.free && env.scope.kind == .function && env.kindOf n == some .cell) then (n, NameKind.cell) else (n, k)).lookup x = some k ∨
    (k = .free ∧ (names.map fun (n, k) => if (k == NameKind.free && env.scope.kind == .function && env.kindOf n == some .cell) then (n, NameKind.cell) else (n, k)).lookup x = some .cell)
  | [], h => by simp at h
  | (n, k') :: r, h => by
    have ih := @look_relabel env x k r
    show List.lookup x ((if (k' == NameKind.free && env.scope.kind == .function && env.kindOf n == some .cell) = true then (n, NameKind.cell) else (n, k')) :: _) = _ ∨ (_ ∧ List.lookup x ((if (k' == NameKind.free && env.scope.kind == .function && env.kindOf n == some .cell) = true then (n, NameKind.cell) else (n, k')) :: _) = _)
    cases hx : x == n with
    | true =>
      simp only [List.lookup_cons, hx] at h
      cases h
      by_cases hc : (k == NameKind.free && env.scope.kind == .function && env.kindOf n == some .cell) = true
      · rw [if_pos hc]
        refine .inr ⟨?_, by simp only [List.lookup_cons, hx]⟩
        simp only [Bool.and_eq_true] at hc
        exact of_decide_eq_true (by simpa using hc.1.1)
      · rw [if_neg hc]
        exact .inl (by simp only [List.lookup_cons, hx])
    | false =>
      simp only [List.lookup_cons, hx] at h
      by_cases hc : (k' == NameKind.free && env.scope.kind == .function && env.kindOf n == some .cell) = true
      · rw [if_pos hc]; simp only [List.lookup_cons, hx]; exact ih h
      · rw [if_neg hc]; simp only [List.lookup_cons, hx]; exact ih h
theorem cv_free {env : Env} {scope : Scope} {x : Str} (h : scope.names.lookup x = some .free) : Vis (relabel scope env) x := (look_relabel h).elim (fun z => .inr (.inr z)) fun z => .inr (.inl z.2)
theorem cv_own {env : Env} {scope : Scope} {x : Str} (h : scope.names.lookup x = some .local) : (relabel scope env).names.lookup x = some .local := (look_relabel h).elim id fun z => nomatch z.1
theorem cv_gl {env : Env} {scope : Scope} {x : Str} (h : scope.names.lookup x = some .globalImplicit) : (relabel scope env).names.lookup x = some .globalImplicit := (look_relabel h).elim id fun z => nomatch z.1
end VL
namespace VL
open PySem PySem.Spec PyProof.Rows L2
theorem no_exc {P : Program} {w : World} {H : Hp} {s : Shared} {e : Value} {s' : Shared} (z : L2.CX P w [] H s (fun _ _ _ => False) e s') : False := by
  obtain ⟨_, _, _, _, _, _, _, _, _, _, _, _, _, _, _, _, z⟩ := z
/-- the law row's walk -/
theorem walk_lawV {k : Nat} {l : PySem.W.OpenLaw} {q : Program} {loose : List Str} {XP : (Str → Option Value) → Heap → Prop} {YP : World → Heap → Prop} {d : DefRec} {K : Params → PySem.W.Frag} (hn : l.most = some 63) (hdf : d.params.defaults = []) (hr : Room k callerA)
    (hY : ∀ (w : World) (h : Heap), YP w h → (K w.params).In h)
    (F : ∀ (w : World) (mg : Str → Option Value) (fa : Addr) (h : Heap), (K w.params).In h → h.Ns mainGlobals mg → mg d.name = some (.ref fa) →
      ∃ fd : FuncData, (∀ (s : Shared) (u : Value), BindsTo s fd ⟨[u], []⟩ [("script", u)]) ∧ ∀ base : Heap, (K w.params).In base → base.Ns mainGlobals mg → FnOk l.prog w (K w.params) mg base (L2.CX l.prog w) k fa fd ["script"] (VL.spLaw (K w.params))) :
    PySem.W.WalkO q loose XP YP l.row.toRowW d [] (fun f vs => PySem.call f vs) :=
  L2.walk_of (n := 63) (k := k) (x := "script") (CX := fun w => L2.CX l.prog w) (sp := fun w => VL.spLaw (K w.params)) hn (by decide) hdf hr hY F (fun w H a ns hl hO hS => law_in hl hO hS) fun w H s e s' z => no_exc z
end VL

namespace VL
open PySem PySem.Spec PyProof.Rows L2
/-! ### what the meanings come to, step by step -/
section
variable {r r1 : Rho} {k : R → Rho → SO} {kE : R → Rho → EO} {g : Sv} {fa fb fc : Ev} {fs : Av} {x y : R} {d e : D} {i j : Nat} {n m : Int} {b : Bool}
@[simp] theorem q_sq1 : (SO.nx r).sq g = g r := rfl
@[simp] theorem q_sq2 : (SO.rt x r).sq g = .rt x r := rfl
@[simp] theorem q_sq3 {c : Nat} : (SO.exc c r).sq g = .exc c r := rfl
@[simp] theorem q_sq4 : (SO.bk r).sq g = .bk r := rfl
@[simp] theorem q_sq5 : (SO.ct r).sq g = .ct r := rfl
@[simp] theorem q_sq6 : SO.bad.sq g = .bad := rfl
@[simp] theorem q_st1 : (EO.ok y r).st k = k y r := rfl
@[simp] theorem q_st2 {c : Nat} : (EO.exc c r).st k = .exc c r := rfl
@[simp] theorem q_st3 : EO.bad.st k = .bad := rfl
@[simp] theorem q_abd1 {xs : List R} {kA : List R → Rho → EO} : (AO.ok xs r).bd kA = kA xs r := rfl
@[simp] theorem q_abd2 {c : Nat} {kA : List R → Rho → EO} : (AO.exc c r).bd kA = .exc c r := rfl
@[simp] theorem q_seq {f : Sv} : cSeq f g r = (f r).sq g := rfl
@[simp] theorem q_skip : cSkip r = .nx r := rfl
@[simp] theorem q_ret : cRet fa r = (fa r).st fun x r1 => .rt x r1 := rfl
@[simp] theorem q_raise {c : Nat} : cRaise c r = .exc c r := rfl
@[simp] theorem q_brk : cBrk r = .bk r := rfl
@[simp] theorem q_cnt : cCnt r = .ct r := rfl
@[simp] theorem q_expr : cExpr fa r = (fa r).st fun _ r1 => .nx r1 := rfl
@[simp] theorem q_ifs {f : Sv} : cIfS fa f g r = (fa r).st fun x r1 => match x with
  | .val (.bl true) => f r1
  | .val (.bl false) => g r1
  | _ => .bad := rfl
@[simp] theorem q_var : cVar i r = match r[i]? with
  | some (some d) => if atom d = true then .ok (.val d) r else .ok (.loc i) r
  | _ => .bad := rfl
@[simp] theorem q_c : cC d r = .ok (.val d) r := rfl
@[simp] theorem q_bin {gg : G2} : cBin gg fa fb r = (fa r).bd fun x r1 => (fb r1).bd fun y r2 => gg x y r2 := rfl
@[simp] theorem q_set : cSet fa r = (fa r).bd fun x r1 => match x with
  | .val d => .ok (.val d) r1
  | .loc i => (match opd r1 (.loc i) with
    | some d => .ok (.val (frz d)) (settle r1 (.loc i))
    | none => .bad) := rfl
@[simp] theorem q_asg {t : Tg} : cAsg t fa r = (cSet fa r).st (asgK t) := rfl
@[simp] theorem q_asgK {t : Tg} : asgK t (.val d) r = match tgt t d r with
    | some r2 => .nx r2
    | none => .bad := rfl
@[simp] theorem q_tgt : tgt (.nm i) d r = some (r.set i (some d)) := rfl
@[simp] theorem q_opd1 : opd r (.val d) = some d := rfl
@[simp] theorem q_opd2 : opd r (.loc i) = match r[i]? with
    | some (some d) => some d
    | _ => none := rfl
@[simp] theorem q_touch1 : touch r (.val d) = r := rfl
@[simp] theorem q_touch2 : touch r (.loc i) = match r[i]? with
    | some (some d) => r.set i (some (frzB d))
    | _ => r := rfl
@[simp] theorem q_settle2 : settle r (.loc i) = match r[i]? with
    | some (some d) => r.set i (some (frz d))
    | _ => r := rfl
@[simp] theorem q_settle1 : settle r (.val d) = r := rfl
@[simp] theorem q_at1 : atom (.int n) = true := rfl
@[simp] theorem q_at2 : atom (.bl b) = true := rfl
@[simp] theorem q_at3 : atom .non = true := rfl
@[simp] theorem q_at4 {s : Str} : atom (.str s) = true := rfl
@[simp] theorem q_at5 {c : Nat} : atom (.exc c) = true := rfl
@[simp] theorem q_at6 {c : Nat} : atom (.cls c) = true := rfl
@[simp] theorem q_at7 {s : String} : atom (.ty s) = true := rfl
@[simp] theorem q_at8 {k : Kd} {o : Bool} {xs : List D} : atom (.node k o xs) = false := rfl
@[simp] theorem q_g2 {f : D → D → Option D} : g2 f x y r = match opd r x, opd r y with
  | some d, some e => (match f d e with
    | some z => if atom z = true then .ok (.val z) r else .bad
    | none => .bad)
  | _, _ => .bad := rfl
@[simp] theorem q_fI {ok : Int → Int → Bool} {gg : Int → Int → D} : fI ok gg (.int n) (.int m) = if ok n m = true then some (gg n m) else none := rfl
@[simp] theorem q_yes : yes2 n m = true := rfl
@[simp] theorem q_lt : gLt x y r = g2 (fI yes2 fun i j => .bl (decide (i < j))) x y r := rfl
@[simp] theorem q_le : gLe x y r = g2 (fI yes2 fun i j => .bl (decide (i ≤ j))) x y r := rfl
@[simp] theorem q_gt : gGt x y r = g2 (fI yes2 fun i j => .bl (decide (j < i))) x y r := rfl
@[simp] theorem q_ge : gGe x y r = g2 (fI yes2 fun i j => .bl (decide (j ≤ i))) x y r := rfl
@[simp] theorem q_sub : gSub x y r = g2 (fI yes2 fun i j => .int (i - j)) x y r := rfl
@[simp] theorem q_div : gDiv x y r = g2 (fI divOk fun i j => .int (i / j)) x y r := rfl
@[simp] theorem q_mod : gMod x y r = g2 (fI posOk fun i j => .int (i % j)) x y r := rfl
@[simp] theorem q_eq : gEq x y r = g2 eqD x y r := rfl
@[simp] theorem q_ne : gNe x y r = g2 neD x y r := rfl
@[simp] theorem q_in : gIn x y r = g2 (fun d e => (inD d e).map .bl) x y r := rfl
@[simp] theorem q_eqI : eqD (.int n) (.int m) = some (.bl (decide (n = m))) := by
  have e : PyData.eqv (.int n) (.int m) = decide (n = m) := by
    show (n == m) = _
    by_cases h : n = m <;> simp [h]
  show (if (true && true) = true then some (D.bl (PyData.eqv (.int n) (.int m))) else none) = _
  rw [e]; rfl
@[simp] theorem q_neI : neD (.int n) (.int m) = some (.bl (!decide (n = m))) := by
  have e : PyData.eqv (.int n) (.int m) = decide (n = m) := by
    show (n == m) = _
    by_cases h : n = m <;> simp [h]
  show (if (true && true) = true then some (D.bl (!PyData.eqv (.int n) (.int m))) else none) = _
  rw [e]; rfl
@[simp] theorem q_addI : gAdd (.val (.int n)) (.val (.int m)) r = .ok (.val (.int (n + m))) r := by unfold gAdd; rfl
theorem q_add : gAdd x y r = match opd r x, opd r y with
  | some (.int i), some (.int j) => .ok (.val (.int (i + j))) r
  | some (.int i), some (.bl k) => .ok (.val (.int (i + b2i k))) r
  | some (.str a), some (.str b) => if a.length + b.length ≤ 16777216 then .ok (.val (.str (a ++ b))) r else .bad
  | some (.node .lst _ xs), some (.node .lst _ ys) => if xs.length + ys.length ≤ 16777216 then .ok (.val (.node .lst true (frzs xs ++ frzs ys))) (touch (touch r y) x) else .bad
  | _, _ => .bad := by unfold gAdd; rfl
@[simp] theorem q_mulI : gMul (.val (.int n)) (.val (.int m)) r = if mulOk n m = true then .ok (.val (.int (n * m))) r else .bad := by unfold gMul; rfl
theorem q_mulL {o : Bool} {xs : List D} (h : 0 ≤ n ∧ n < 9000000000000000000 ∧ xs.length * n.toNat ≤ 16777216) : gMul (.val (.node .lst o xs)) (.val (.int n)) r = .ok (.val (.node .lst true (List.replicate n.toNat (frzs xs)).flatten)) r := by
  unfold gMul
  show (if n.natAbs < 2 ^ 63 ∧ xs.length * n.toNat ≤ 16777216 then _ else _) = _
  rw [if_pos ⟨by omega, h.2.2⟩]; rfl
theorem q_mul : gMul x y r = match opd r x, opd r y with
  | some (.int i), some (.int j) => if mulOk i j = true then .ok (.val (.int (i * j))) r else .bad
  | some (.node .lst _ xs), some (.int k) => if k.natAbs < 2 ^ 63 ∧ xs.length * k.toNat ≤ 16777216 then .ok (.val (.node .lst true (List.replicate k.toNat (frzs xs)).flatten)) (touch r x) else .bad
  | _, _ => .bad := by unfold gMul; rfl
@[simp] theorem q_ix : gIx x y r = match opd r x, opd r y with
  | some (.node .lst _ xs), some (.int i) => (match atI xs i with | some d => pick r x d | none => .bad)
  | some (.node .rd _ xs), some (.int i) => (match atI xs i with | some d => pick r x d | none => .bad)
  | some (.node .tup _ xs), some (.int i) => (match atI xs i with | some d => pick r x d | none => .bad)
  | some (.str z), some (.int i) => if z.length ≤ 16777216 then (match atI z.cps.toList i with | some c => .ok (.val (.str ⟨#[c]⟩)) r | none => .bad) else .bad
  | _, _ => .bad := rfl
@[simp] theorem q_pick : pick r x d = if atom d = true then .ok (.val d) r else .ok (.val (frz d)) (touch r x) := rfl
@[simp] theorem q_and : cAnd fa fb r = (fa r).bd fun x r1 => match x with
  | .val (.bl true) => fb r1
  | .val (.bl false) => .ok (.val (.bl false)) r1
  | _ => .bad := rfl
@[simp] theorem q_or : cOr fa fb r = (fa r).bd fun x r1 => match x with
  | .val (.bl true) => .ok (.val (.bl true)) r1
  | .val (.bl false) => fb r1
  | _ => .bad := rfl
@[simp] theorem q_not : cNot fa r = (fa r).bd fun x r1 => match x with
  | .val (.bl b) => .ok (.val (.bl (!b))) r1
  | _ => .bad := rfl
@[simp] theorem q_neg : cNeg fa r = (fa r).bd fun x r1 => match x with
  | .val (.int i) => .ok (.val (.int (-i))) r1
  | _ => .bad := rfl
@[simp] theorem q_nil : cNil r = .ok [] r := rfl
@[simp] theorem q_cons : cCons fa fs r = match fa r with
  | .ok x r1 => (match fs r1 with
    | .ok xs r2 => .ok (x :: xs) r2
    | .exc c r2 => .exc c r2
    | .bad => .bad)
  | .exc c r1 => .exc c r1
  | .bad => .bad := rfl
@[simp] theorem q_opds0 : opds r [] = some [] := rfl
@[simp] theorem q_opds1 {xs : List R} : opds r (x :: xs) = match opd r x, opds r xs with
    | some d, some ds => some (d :: ds)
    | _, _ => none := rfl
@[simp] theorem q_settles0 : settles r [] = r := rfl
@[simp] theorem q_settles1 {xs : List R} : settles r (x :: xs) = settles (settle r x) xs := rfl
@[simp] theorem q_valsR0 : valsR [] = some [] := rfl
@[simp] theorem q_valsR1 {xs : List R} : valsR (.val d :: xs) = match valsR xs with
    | some ds => some (d :: ds)
    | none => none := rfl
@[simp] theorem q_lst : cLst fs r = (fs r).bd fun xs r1 => match valsR xs with
  | some ds => if ds.length ≤ 16777216 then .ok (.val (.node .lst true ds)) r1 else .bad
  | none => .bad := rfl
@[simp] theorem q_tup : cTup fs r = (fs r).bd fun xs r1 => match valsR xs with
  | some ds => if ds.length ≤ 16777216 then .ok (.val (.node .tup false ds)) r1 else .bad
  | none => .bad := rfl
@[simp] theorem q_B {gg : List R → Rho → EO} : cB gg fs r = (fs r).bd gg := rfl
@[simp] theorem q_b1 {f : D → Option D} : b1 f [x] r = match opd r x with
    | some d => (match f d with
      | some z => if atom z = true then .ok (.val z) r else .bad
      | none => .bad)
    | none => .bad := rfl
@[simp] theorem q_len1 {o : Bool} {xs : List D} : lenD (.node .lst o xs) = some (.int xs.length) := rfl
@[simp] theorem q_len2 {o : Bool} {xs : List D} : lenD (.node .rd o xs) = some (.int xs.length) := rfl
@[simp] theorem q_len3 {o : Bool} {xs : List D} : lenD (.node .tup o xs) = some (.int xs.length) := rfl
@[simp] theorem q_listOf : gListOf [x] r = match opd r x with
    | some (.node .lst _ xs) => .ok (.val (.node .lst true (frzs xs))) (touch r x)
    | some (.node .rd _ xs) => .ok (.val (.node .lst true (frzs xs))) (touch r x)
    | some (.node .tup _ xs) => .ok (.val (.node .lst true (frzs xs))) (touch r x)
    | _ => .bad := rfl
@[simp] theorem q_max2 : gMax2 [.val (.int n), .val (.int m)] r = .ok (.val (.int (if m > n then m else n))) r := rfl
@[simp] theorem q_min2 : gMin2 [.val (.int n), .val (.int m)] r = .ok (.val (.int (if m < n then m else n))) r := rfl
@[simp] theorem q_call {nn : Nat} {F : List D → FO} : cCall nn F fs r = (fs r).bd fun xs r1 => if xs.length = nn then callK F xs r1 else .bad := rfl
@[simp] theorem q_callK {F : List D → FO} {xs : List R} : callK F xs r = match opds r xs with
  | some ds => (match F (frzs ds) with
    | .ok d => if noL d = true then .ok (.val d) r else .ok (.val d) (settles r xs)
    | .exc c => .exc c r
    | .bad => .bad)
  | none => .bad := rfl
@[simp] theorem q_callM {nn : Nat} {F : D → List D → MO} : cCallM nn i F fs r = (fs r).bd (callKM nn i F) := rfl
@[simp] theorem q_callKM {nn : Nat} {F : D → List D → MO} {rest : List R} : callKM nn i F (.loc j :: rest) r = if j = i ∧ rest.length = nn then (match opd r (.loc i), valsR rest with
    | some d0, some ds => (match F d0 (frzs ds) with
      | .ok d d0' => .ok (.val d) (r.set i (some d0'))
      | .bad => .bad)
    | _, _ => .bad) else .bad := rfl
@[simp] theorem q_for {t : Tg} {fi : Iv} {f : Sv} : cFor t fi f r = match fi r with
  | .ok ds r1 => forL t f ds r1
  | .exc c r1 => .exc c r1
  | .bad => .bad := rfl
@[simp] theorem q_iLst : iLst fa r = match cSet fa r with
  | .ok (.val (.node .lst _ ds)) r1 => .ok ds r1
  | .ok (.val (.node .rd _ ds)) r1 => .ok ds r1
  | .exc c r1 => .exc c r1
  | _ => .bad := rfl
@[simp] theorem q_iRng {gg : Rho → List R → IO} : iRng gg fs r = match fs r with
  | .ok xs r1 => gg r1 xs
  | .exc c r1 => .exc c r1
  | .bad => .bad := rfl
@[simp] theorem q_rng1 : rngI1 r [.val (.int n)] = if within n = true then .ok (rngD 0 1 n.toNat) r else .bad := rfl
@[simp] theorem q_rng2 : rngI2 r [.val (.int n), .val (.int m)] = if (within n && within m) = true then .ok (rngD n 1 (m - n).toNat) r else .bad := rfl
@[simp] theorem q_lc {vs : List Nat} {t : Tg} {fi : Iv} {fc : Option Ev} {fe : Ev} : cLc vs t fi fc fe r = match fi r with
  | .ok ds r1 => (match lcL t fc fe vs ds [] (wipeR r1 vs) with
    | .ok acc r2 => .ok (.val (.node .lst true acc)) (backR r1 r2 vs)
    | .bad => .bad)
  | .exc c r1 => .exc c r1
  | .bad => .bad := rfl
@[simp] theorem q_wipe0 : wipeR r [] = r := rfl
@[simp] theorem q_wipe1 {vs : List Nat} : wipeR r (i :: vs) = (wipeR r vs).set i none := rfl
@[simp] theorem q_isLst : isLst r i = match r[i]? with
  | some (some (.node .lst _ _)) => true
  | _ => false := rfl
@[simp] theorem q_app : cApp i fa r = if isLst r i = true then (cSet fa r).bd (appK i) else .bad := rfl
@[simp] theorem q_appK : appK i (.val d) r = match r[i]? with
  | some (some (.node .lst true ds)) => if ds.length < 16777216 then .ok (.val .non) (r.set i (some (.node .lst true (ds ++ [d])))) else .bad
  | _ => .bad := by
  unfold appK
  split <;> rename_i h <;> simp_all
@[simp] theorem q_setIx {fk : Ev} : cSetIx i fk fa r = (cSet fa r).st fun x r1 => if isLst r1 i = true then (fk r1).st (setIxK i x) else .bad := rfl
@[simp] theorem q_setIxK : setIxK i (.val d) y r = match opd r y, r[i]? with
  | some (.int k), some (some (.node .lst true ds)) => (match ixN ds.length k with
    | some j => .nx (r.set i (some (.node .lst true (ds.set j d))))
    | none => .bad)
  | _, _ => .bad := by
  unfold setIxK
  split <;> rename_i h <;> simp_all <;> rfl
end
/-- a deck of the law's draws -/
def dk (a b c : Int) : D := .node .lst true [.int a, .int b, .int c]
def lints (o : Bool) (ns : List Int) : D := .node .lst o (ns.map .int)
@[simp] theorem frz_lints {o : Bool} {ns : List Int} : frz (lints o ns) = lints false ns := by
  show D.node .lst false (frzs (ns.map D.int)) = _
  rw [frzs_ints]; rfl
end VL
namespace VL
open PySem PySem.Spec PyProof.Rows L2
/-! ### laws of the meanings' parts -/
theorem posOk_of {i m : Int} (hm : 0 < m) : posOk i m = true := decide_eq_true hm
theorem divOk_of' {i m : Int} (hm : 0 < m) (hm2 : m < 1073741824) : divOk i m = true := by
  have h2 : m.natAbs < 1073741824 := by omega
  unfold divOk; simp [hm, h2]
theorem mulOk_l {i j : Int} (h : i.natAbs < 2 ^ 64) : mulOk i j = true := by unfold mulOk; simp [h]
theorem mulOk_r {i j : Int} (h : j.natAbs < 2 ^ 64) : mulOk i j = true := by
  unfold mulOk
  rw [decide_eq_true h]; simp
theorem canLay_ints : ∀ ns : List Int, PyData.canLayAll0 (toPys (ns.map D.int)) = true ∧ PyData.depthAll (toPys (ns.map D.int)) = 0
  | [] => ⟨rfl, rfl⟩
  | n :: ns => by
    obtain ⟨h1, h2⟩ := canLay_ints ns
    constructor
    · show (true && PyData.canLayAll0 (toPys (ns.map D.int))) = true
      rw [h1]; rfl
    · show max 0 (PyData.depthAll (toPys (ns.map D.int))) = 0
      rw [h2]; rfl
theorem eqOk_lints (o : Bool) (ns : List Int) : eqOk (.node .lst o (ns.map .int)) = true := by
  obtain ⟨h1, h2⟩ := canLay_ints ns
  show (PyData.canLayAll0 (toPys (ns.map D.int)) && decide (PyData.depthAll (toPys (ns.map D.int)) + 1 ≤ 64)) = true
  rw [h1, h2]; rfl
theorem eqv_ints : ∀ xs ys : List Int, PyData.eqvAll (toPys (xs.map D.int)) (toPys (ys.map D.int)) = decide (xs = ys)
  | [], [] => rfl
  | [], y :: ys => rfl
  | x :: xs, [] => rfl
  | x :: xs, y :: ys => by
    show ((x == y) && PyData.eqvAll (toPys (xs.map D.int)) (toPys (ys.map D.int))) = _
    rw [eqv_ints xs ys]
    by_cases h : x = y <;> by_cases h2 : xs = ys <;> simp [h, h2]
theorem eq_lints {o o' : Bool} (xs ys : List Int) : eqD (.node .lst o (xs.map .int)) (.node .lst o' (ys.map .int)) = some (.bl (decide (xs = ys))) := by
  unfold eqD
  rw [eqOk_lints, eqOk_lints]
  show some (D.bl (PyData.eqvAll (toPys (xs.map D.int)) (toPys (ys.map D.int)))) = _
  rw [eqv_ints]
theorem ne_lints {o o' : Bool} (xs ys : List Int) : neD (.node .lst o (xs.map .int)) (.node .lst o' (ys.map .int)) = some (.bl (!decide (xs = ys))) := by
  unfold neD
  rw [eqOk_lints, eqOk_lints]
  show some (D.bl (!PyData.eqvAll (toPys (xs.map D.int)) (toPys (ys.map D.int)))) = _
  rw [eqv_ints]
theorem any_ints (n : Int) : ∀ xs : List Int, (xs.map D.int).any (fun z => PyData.eqv (toPy z) (toPy (.int n))) = decide (n ∈ xs)
  | [] => rfl
  | x :: xs => by
    show ((x == n) || (xs.map D.int).any (fun z => PyData.eqv (toPy z) (toPy (.int n)))) = _
    rw [any_ints n xs]
    by_cases h : x = n
    · subst h; simp
    · have h' : ¬ n = x := fun z => h z.symm
      simp [h, h']
theorem in_lints {o : Bool} (n : Int) (xs : List Int) : inD (.int n) (.node .lst o (xs.map .int)) = some (decide (n ∈ xs)) := by
  have e : eqOk (.int n) = true := rfl
  show (if (eqOk (.int n) && eqOk (.node .lst o (xs.map .int))) = true then _ else _) = _
  rw [e, eqOk_lints, any_ints]; rfl
theorem flat_ints : ∀ xs : List Int, (xs.map D.int).all flatD = true
  | [] => rfl
  | x :: xs => by
    show (true && (xs.map D.int).all flatD) = true
    rw [flat_ints xs]; rfl
theorem idx_ints (n : Int) (xs : List Int) : idxD (xs.map D.int) (.int n) = xs.findIdx? fun x => x == n := by
  unfold idxD
  rw [List.findIdx?_map]
  rfl
theorem frzs_int (ns : List Int) : frzs (List.map D.int ns) = List.map D.int ns := frzs_ints ns
theorem frzs_cut {α : Type} : True := trivial
theorem noLs_ints : ∀ ns : List Int, noLs (ns.map D.int) = true
  | [] => rfl
  | n :: ns => by show (true && noLs (ns.map D.int)) = true; rw [noLs_ints ns]; rfl
theorem noL_lints (ns : List Int) : noL (.node .lst true (ns.map .int)) = true := by
  show ((true || false) && noLs (ns.map D.int)) = true
  rw [noLs_ints]; rfl
/-- a for loop whose body runs through -/
theorem forL_all {α : Type} {t : Tg} {f : Sv} (st : α → Rho) (P : α → Prop) : ∀ (ds : List D) (a : α), P a → (∀ a d, d ∈ ds → P a → ∃ r1 a', tgt t d (st a) = some r1 ∧ f r1 = .nx (st a') ∧ P a') → ∃ a', forL t f ds (st a) = .nx (st a') ∧ P a'
  | [], a, h, _ => ⟨a, rfl, h⟩
  | d :: ds, a, h, k => by
    obtain ⟨r1, a', e1, e2, h'⟩ := k a d List.mem_cons_self h
    obtain ⟨a'', e3, h''⟩ := forL_all st P ds a' h' (fun a d hd => k a d (List.mem_cons_of_mem _ hd))
    refine ⟨a'', ?_, h''⟩
    show (match tgt t d (st a) with | none => _ | some r1 => _) = _
    rw [e1]
    show (match f r1 with | .nx r2 => forL t f ds r2 | .ct r2 => forL t f ds r2 | .bk r2 => .nx r2 | o => o) = _
    rw [e2]
    exact e3
/-- the same, step by step told -/
theorem forL_fold {α : Type} {t : Tg} {f : Sv} (st : α → Rho) (step : α → D → α) : ∀ (ds : List D) (a : α), (∀ a d, d ∈ ds → ∃ r1, tgt t d (st a) = some r1 ∧ f r1 = .nx (st (step a d))) → forL t f ds (st a) = .nx (st (ds.foldl step a))
  | [], a, _ => rfl
  | d :: ds, a, k => by
    obtain ⟨r1, e1, e2⟩ := k a d List.mem_cons_self
    have e3 := forL_fold st step ds (step a d) (fun a d hd => k a d (List.mem_cons_of_mem _ hd))
    show (match tgt t d (st a) with | none => _ | some r1 => _) = _
    rw [e1]
    show (match f r1 with | .nx r2 => forL t f ds r2 | .ct r2 => forL t f ds r2 | .bk r2 => .nx r2 | o => o) = _
    rw [e2]
    exact e3
theorem lt_fuel {n : Nat} (h : n < 1000000000) : n < fuel := Nat.lt_of_lt_of_le h fuel_ge
/-! ### figures in twos -/
def bi (bs : List Bool) : List Int := bs.map fun b => (b.toNat : Int)
def wb (bs : List Bool) : Nat := bs.foldl (fun n b => 2 * n + b.toNat) 0
def figs (n : Nat) : List Bool := if h : n = 0 then [] else (n % 2 == 1) :: figs (n / 2)
termination_by n
decreasing_by omega
theorem figs_zero : figs 0 = [] := by rw [figs]; rfl
theorem figs_pos {n : Nat} (h : n ≠ 0) : figs n = (n % 2 == 1) :: figs (n / 2) := by rw [figs]; simp [h]
theorem figs_len {k : Nat} : ∀ {n : Nat}, n < 2 ^ k → (figs n).length ≤ k := by
  induction k with
  | zero => intro n h; have : n = 0 := by simpa using h
            subst this; rw [figs_zero]; simp
  | succ k ih =>
    intro n h
    by_cases h0 : n = 0
    · subst h0; rw [figs_zero]; simp
    · rw [figs_pos h0]
      have := ih (n := n / 2) (by rw [Nat.pow_succ] at h; omega)
      simp; omega
theorem wb_snoc (bs : List Bool) (b : Bool) : wb (bs ++ [b]) = 2 * wb bs + b.toNat := by unfold wb; rw [List.foldl_append]; rfl
theorem snoc_ind {α : Type} {P : List α → Prop} (h0 : P []) (h1 : ∀ l a, P l → P (l ++ [a])) (l : List α) : P l := by
  have z : ∀ m : List α, P m.reverse := fun m => by
    induction m with
    | nil => exact h0
    | cons a m ih => rw [List.reverse_cons]; exact h1 _ _ ih
  have := z l.reverse
  rwa [List.reverse_reverse] at this
theorem wb_lt : ∀ bs : List Bool, wb bs < 2 ^ bs.length := by
  refine snoc_ind (by decide) fun bs b ih => ?_
  · rw [wb_snoc, List.length_append, List.length_singleton, Nat.pow_succ]
    have : b.toNat ≤ 1 := by cases b <;> decide
    omega
/-- the figures of what bits write: these without the noughts ahead -/
theorem figs_wb : ∀ bs : List Bool, ∃ z, bs = List.replicate z false ++ (figs (wb bs)).reverse := by
  refine snoc_ind ⟨0, by show [] = [] ++ (figs 0).reverse; rw [figs_zero]; rfl⟩ fun bs b ih => ?_
  · obtain ⟨z, e⟩ := ih
    rw [wb_snoc]
    by_cases h : 2 * wb bs + b.toNat = 0
    · have hb : b = false := by cases b with
        | false => rfl
        | true => simp at h
      have hw : wb bs = 0 := by omega
      rw [h, figs_zero]
      rw [hw, figs_zero] at e
      refine ⟨z + 1, ?_⟩
      rw [e, hb]
      simp [List.replicate_succ']
    · refine ⟨z, ?_⟩
      have h1 : (2 * wb bs + b.toNat) / 2 = wb bs := by
        have : b.toNat ≤ 1 := by cases b <;> decide
        omega
      have h2 : ((2 * wb bs + b.toNat) % 2 == 1) = b := by
        cases b with
        | false => simp
        | true =>
          have : (2 * wb bs + 1) % 2 = 1 := by omega
          simp [this]
      rw [figs_pos h, h1, h2, List.reverse_cons, ← List.append_assoc, ← e]
/-- the last figure is a one -/
theorem figs_last : ∀ (k n : Nat), n ≤ k → n ≠ 0 → ∃ l, figs n = l ++ [true]
  | 0, n, h, h0 => absurd (Nat.le_zero.mp h) h0
  | k + 1, n, h, h0 => by
    by_cases h1 : n / 2 = 0
    · have : n = 1 := by omega
      subst this
      exact ⟨[], by rw [figs_pos h0]; show (1 % 2 == 1) :: figs 0 = _; rw [figs_zero]; rfl⟩
    · obtain ⟨l, e⟩ := figs_last k (n / 2) (by omega) h1
      exact ⟨(n % 2 == 1) :: l, by rw [figs_pos h0, e]; rfl⟩
end VL
namespace VL
open PySem PySem.Spec PyProof.Rows L2
@[simp] theorem q_rev {fa : Ev} {r : Rho} : cRev fa r = (fa r).bd gRev := rfl
@[simp] theorem q_gRev {x : R} {r : Rho} : gRev x r = match opd r x with
  | some (.node .lst _ xs) => .ok (.val (.node .lst true (frzs xs).reverse)) (touch r x)
  | some (.node .rd _ xs) => .ok (.val (.node .lst true (frzs xs).reverse)) (touch r x)
  | _ => .bad := rfl
@[simp] theorem q_sl {fa : Ev} {lo hi : Option Ev} {r : Rho} : cSl fa lo hi r = (fa r).bd fun x r1 => part lo r1 fun l r2 => part hi r2 fun h r3 => gSl x l h r3 := rfl
@[simp] theorem q_part0 {r : Rho} {k : Option Int → Rho → EO} : part none r k = k none r := rfl
@[simp] theorem q_part1 {f : Ev} {r : Rho} {k : Option Int → Rho → EO} : part (some f) r k = (f r).bd fun y r' => match y with
    | .val (.int i) => k (some i) r'
    | _ => .bad := rfl
@[simp] theorem q_gSl {x : R} {lo hi : Option Int} {r : Rho} : gSl x lo hi r = match opd r x with
  | some (.node .lst _ xs) => .ok (.val (.node .lst true (cutD (frzs xs) lo hi))) (touch r x)
  | some (.node .rd _ xs) => .ok (.val (.node .lst true (cutD (frzs xs) lo hi))) (touch r x)
  | some (.node .tup _ xs) => .ok (.val (.node .tup false (cutD (frzs xs) lo hi))) (touch r x)
  | _ => .bad := rfl
@[simp] theorem q_idx {i : Nat} {fa : Ev} {r : Rho} : cIdx i fa r = if isLst r i = true then cBin gIndex (cVar i) fa r else .bad := rfl
@[simp] theorem q_gIndex {x y : R} {r : Rho} : gIndex x y r = match opd r x, opd r y with
  | some (.node .lst _ ds), some d => if (flatD d && ds.all flatD) = true then (match idxD ds d with
    | some j => .ok (.val (.int (j : Nat))) r
    | none => .bad) else .bad
  | _, _ => .bad := rfl
@[simp] theorem q_frzB {k : Kd} {o : Bool} {xs : List D} : frzB (.node k o xs) = .node k o (frzs xs) := rfl
@[simp] theorem q_try {tb : Nat → Option Bool} {i : Option Nat} {fb fs : Sv} {r : Rho} : cTry tb i fb fs r = match fb r with
  | .exc c r1 => (match tb c with
    | some true => inClause i (fs (putE i c r1))
    | some false => .exc c r1
    | none => .bad)
  | o => o := rfl
@[simp] theorem q_putE {j c : Nat} {r : Rho} : putE (some j) c r = r.set j (some (.exc c)) := rfl
@[simp] theorem q_putE0 {c : Nat} {r : Rho} : putE none c r = r := rfl
@[simp] theorem q_inC {j : Nat} {r : Rho} : inClause (some j) (.nx r) = .nx (r.set j none) := rfl
@[simp] theorem q_inC0 {r : Rho} : inClause none (.nx r) = .nx r := rfl
@[simp] theorem q_inC2 {j : Option Nat} {x : R} {r : Rho} : inClause j (.rt x r) = .rt x r := rfl
theorem frz_ints (ns : List Int) (o : Bool) : frz (.node .lst o (ns.map .int)) = .node .lst false (ns.map .int) := by
  show D.node .lst false (frzs (ns.map D.int)) = _
  rw [frzs_ints]
end VL

namespace VL
open PySem PySem.Spec PyProof.Rows L2
theorem q_addL {x y : R} {r : Rho} {o o' : Bool} {xs ys : List D} (h1 : opd r x = some (.node .lst o xs)) (h2 : opd r y = some (.node .lst o' ys)) (h : xs.length + ys.length ≤ 16777216) : gAdd x y r = .ok (.val (.node .lst true (frzs xs ++ frzs ys))) (touch (touch r y) x) := by
  rw [q_add, h1, h2]
  show (if xs.length + ys.length ≤ 16777216 then _ else _) = _
  rw [if_pos h]
theorem q_addLI {r : Rho} {o o' : Bool} (xs ys : List Int) (h : xs.length + ys.length ≤ 16777216) : gAdd (.val (.node .lst o (xs.map .int))) (.val (.node .lst o' (ys.map .int))) r = .ok (.val (.node .lst true ((xs ++ ys).map .int))) r := by
  rw [q_addL (o := o) (o' := o') (xs := xs.map .int) (ys := ys.map .int) rfl rfl (by rw [List.length_map, List.length_map]; exact h), frzs_ints, frzs_ints, List.map_append]
  rfl
theorem q_mulLI {r : Rho} {o : Bool} (xs : List Int) {k : Int} (h : 0 ≤ k ∧ k < 9000000000000000000 ∧ xs.length * k.toNat ≤ 16777216) : gMul (.val (.node .lst o (xs.map .int))) (.val (.int k)) r = .ok (.val (.node .lst true ((List.replicate k.toNat xs).flatten.map .int))) r := by
  rw [q_mulL (by rw [List.length_map]; exact h), frzs_ints, List.map_flatten, List.map_replicate]
end VL

namespace VL
open PySem PySem.Spec PyProof.Rows L2
theorem forL_cons {t : Tg} {f : Sv} {d : D} {ds : List D} {r r1 r2 : Rho} (h1 : tgt t d r = some r1) (h2 : f r1 = .nx r2) : forL t f (d :: ds) r = forL t f ds r2 := by
  show (match tgt t d r with | none => _ | some r1 => _) = _
  rw [h1]
  show (match f r1 with | .nx r2 => forL t f ds r2 | .ct r2 => forL t f ds r2 | .bk r2 => .nx r2 | o => o) = _
  rw [h2]
end VL

namespace VL
open PySem PySem.Spec PyProof.Rows L2
section
variable {X : Cx} {G : GX} {C : Fc} {W : WX} {ow ow' : Ow} {r : Rho} {T T1 T2 : List (D × V)} {s : L2.St} {H H' : Hp} {fa fb fc : Ev} {fs : Av}
/-- a name's own list gets other items, shared ones -/
theorem StW.relist {i n : Nat} {o' : Bool} {ds ds' : List D} {a : Addr} {vs' : List V} {l : VL.Loc} (S : StW G C ow r T s H) (q : r[i]? = some (some (.node .lst true ds))) (ha : s[i]? = some (some (.ref a))) (e : frzs ds' = ds') (h : Reps G ow H ds' l n vs') :
    StW G C ow (r.set i (some (.node .lst true ds'))) T s (upd H a (.lst vs')) := by
  obtain ⟨v, z1, a', vs, ev, z2, z3, z4⟩ := S.sl i _ q
  rw [ha] at z1
  cases z1
  cases ev
  have oa : ow a = some ⟨.sl i, []⟩ := by simpa using z3.cases.resolve_left (fun z => nomatch z)
  have exn : ∀ (b : Addr) (o : HO), H b = some o → ¬ OwnO (some o) → upd H a (.lst vs') b = some o := fun b o z n => by
    rw [upd_ne (fun e => by have m := S.mu a _ oa; rw [e] at z; rw [z] at m; exact n m)]; exact z
  refine StW.write (k := .lst) (k' := .lst) (ow' := ow) (fun z => nomatch z) S q ha trivial (vs' := vs') upd_same (fun b n => n) (fun b j p n _ => n) (fun b p n => n) (fun b l y => ⟨l, y, id⟩) (fun b l y n l' y2 => by rw [y] at y2; cases y2; exact n) oa ?_ (fun j d' w y => ?_)
  · exact Reps.moveF _ e (fun b o z n => ⟨by rw [upd_ne (fun e => by subst e; rw [oa] at n; cases n)]; exact z, n⟩) (fun b o z n => exn b o z n) h
  · exact Rep.mono (l := ⟨.tm j, []⟩) d' (fun b o z w => by rw [upd_ne (apart oa w (.inl (fun z => nomatch z)))]; exact z) (fun b o z n => exn b o z n) (fun b o _ n => n) (fun b o p _ n => n) (S.tm j d' w y)
theorem touch_lst {i : Nat} {ds : List D} (q : r[i]? = some (some (.node .lst true ds))) : touch r (.loc i) = r.set i (some (.node .lst true (frzs ds))) := by
  show (match r[i]? with | some (some d) => r.set i (some (frzB d)) | _ => r) = _
  rw [q]; rfl
/-- a name's own list, its items shared from now on -/
theorem StW.mine {i : Nat} {ds : List D} (S : StW G C ow r T s H) (q : r[i]? = some (some (.node .lst true ds))) : ∃ ow' a vs, s[i]? = some (some (.ref a)) ∧ H a = some (.lst vs) ∧ StW G C ow' (r.set i (some (.node .lst true (frzs ds)))) T s H ∧ (r.set i (some (.node .lst true (frzs ds))))[i]? = some (some (.node .lst true (frzs ds))) ∧ (∀ l, Reps G ow' H (frzs ds) l 0 vs) ∧ (∀ b, ow b = none → ow' b = none) ∧ ow' a = some ⟨.sl i, []⟩ := by
  obtain ⟨v, z1, z⟩ := S.sl i _ q
  have e1 : opd r (.loc i) = some (.node .lst true ds) := by
    show (match r[i]? with | some (some d) => some d | _ => none) = _
    rw [q]
  obtain ⟨ow', a, vs, S', ev, h1, rx, hn⟩ := StW.parts (T := T) (x := .loc i) (v := v) (by simpa [pushR] using S) z1 e1
  subst ev
  rw [touch_lst q] at S'
  have q' : (r.set i (some (.node .lst true (frzs ds))))[i]? = some (some (.node .lst true (frzs ds))) := List.getElem?_set_self (List.getElem?_eq_some_iff.mp q).1
  refine ⟨ow', a, vs, z1, h1, S', q', rx, hn, ?_⟩
  obtain ⟨v2, w1, a2, vs2, ev, w2, w3, _⟩ := S'.sl i _ q'
  rw [z1] at w1
  cases w1
  cases ev
  simpa using w3.cases.resolve_left (fun z => nomatch z)
/-- a shared thing goes with it -/
theorem keepF {a : Addr} {b : VL.Loc} {ho : HO} {d : D} {l l' : VL.Loc} {v : V} (S : StW G C ow r T s H) (oa : ow a = some b) (e : frz d = d) (h : Rep G ow H d l v) : Rep G ow (upd H a ho) d l' v :=
  Rep.moveF d e (fun b' o z n => ⟨by rw [upd_ne (fun e => by subst e; rw [oa] at n; cases n)]; exact z, n⟩) (fun b' o z n => by
    rw [upd_ne (fun e => by have m := S.mu a _ oa; rw [e] at z; rw [z] at m; exact n m)]; exact z) h
def cPop (i : Nat) : Ev := fun r => match r[i]? with
  | some (some (.node .lst true ds)) => (match (frzs ds)[ds.length - 1]? with
    | some d => .ok (.val d) ((r.set i (some (.node .lst true (frzs ds)))).set i (some (.node .lst true (frzs ds).dropLast)))
    | none => .bad)
  | _ => .bad
theorem frzs_dropLast (ds : List D) : frzs (frzs ds).dropLast = (frzs ds).dropLast := by
  rw [frzs_map, List.map_dropLast, ← frzs_map, frzs_frzs]
theorem ve_pop {i : Nat} {x : Str} {p apos cpos : Pos} (hN : X.N[i]? = some x) (hv : Vis X.env.scope x) (hd : (x == ("__debug__" : Str)) = false) (hcd : (x == ("__classdict__" : Str)) = false)
    (hbase : attributeBase (.Name x p) "pop" X.env (eval (.Name x p) X.env) = eval (.Name x p) X.env := by rfl) (hline : (apos.endLine == cpos.line) = true := by rfl) :
    VE X G C W (.Call (.Attribute (.Name x p) "pop" apos) [] [] cpos) (cPop i) := by
  refine PE.imp (pe_bm0 PySem.F.plainAttrs_list PySem.F.slot_list_pop PySem.F.type_list_pop mt_pop (pe_var hN hv hd hcd) hbase hline) fun s H Q h => ?_
  obtain ⟨r, T, S, g⟩ := h
  have g : Goes G C W T s Q (cPop i r) := g
  unfold cPop at g
  split at g
  · rename_i ds q
    split at g
    · rename_i d hd'
      obtain ⟨ow, S⟩ := S
      obtain ⟨ow', a, vs, z1, hA, S', q', rx, _, oa⟩ := S.mine q
      have rl := (rx ⟨.fo, []⟩).length
      rw [frzs_length] at rl
      obtain ⟨y, y1, y2⟩ := (rx ⟨.fo, []⟩).get _ d hd'
      have e' : frz d = d := by
        have := congrArg (·[ds.length - 1]?) (frzs_frzs ds)
        simp only [frzs_map, List.getElem?_map] at this
        have h2 : (frzs ds)[ds.length - 1]? = some d := hd'
        rw [frzs_map, List.getElem?_map] at h2
        cases e3 : ds[ds.length - 1]? with
        | none => rw [e3] at h2; cases h2
        | some d0 =>
          rw [e3] at h2
          cases h2
          exact frz_frz d0
      have hl2 : Reps G ow' H (frzs ds).dropLast ⟨.fo, []⟩ 0 vs.dropLast := by
        refine Reps.of_get (by rw [List.length_dropLast, List.length_dropLast, frzs_length, rl]) fun j dj vj q1 q2 => ?_
        have hj : j < (frzs ds).length - 1 := by
          have := (List.getElem?_eq_some_iff.mp q1).1
          simpa using this
        rw [List.getElem?_dropLast, if_pos hj] at q1
        rw [List.getElem?_dropLast, if_pos (by rw [frzs_length] at hj; omega)] at q2
        obtain ⟨v', w1, w2⟩ := (rx ⟨.fo, []⟩).get j dj q1
        rw [q2] at w1
        cases w1
        exact w2
      have S2 := S'.relist (o' := true) q' z1 (frzs_dropLast ds) hl2
      exact ⟨_, z1, .inl ⟨rfl, vs, SqL.of hA⟩, a, vs, y, rfl, rfl, hA, by rw [← rl]; exact y1, g _ _ ⟨⟨ow', S2.push (keepF S' oa e' y2)⟩, trivial⟩⟩
    · exact g.elim
  · exact g.elim
def extK (i : Nat) (x : R) (r1 : Rho) : EO := match opd r1 x with
  | some (.node .lst _ es) => (match (touch r1 x)[i]? with
    | some (some (.node .lst true ds)) => if ds.length + es.length ≤ 16777216 then .ok (.val .non) (((touch r1 x).set i (some (.node .lst true (frzs ds)))).set i (some (.node .lst true (frzs ds ++ frzs es)))) else .bad
    | _ => .bad)
  | _ => .bad
/-- xs.extend(e) -/
def cExt (i : Nat) (fa : Ev) : Ev := fun r => if isLst r i = true then (fa r).bd (extK i) else .bad
theorem ve_ext {i : Nat} {x : Str} {e : Expr} {p apos cpos : Pos} (hN : X.N[i]? = some x) (hv : Vis X.env.scope x) (hd : (x == ("__debug__" : Str)) = false) (hcd : (x == ("__classdict__" : Str)) = false) (ha : VE X G C W e fa)
    (hbase : attributeBase (.Name x p) "extend" X.env (eval (.Name x p) X.env) = eval (.Name x p) X.env := by rfl)
    (hfew : ((backTo cpos (starEach [e] X.env)).all (fun x => !x.1) && (backToKw cpos (keywordEach [] X.env)).all (fun x => x.1.isSome)
      && decide ([e].length + ([] : List Keyword).length + (if ([] : List Keyword).isEmpty then 0 else 1) < 30)) = true := by rfl)
    (hline : (apos.endLine == cpos.line) = true := by rfl) (hs : starEach [e] X.env = (false, eval e X.env) :: starEach [] X.env := by rfl) (hplain : (backTo cpos (starEach [] X.env)).any (·.1) = false := by rfl) :
    VE X G C W (.Call (.Attribute (.Name x p) "extend" apos) [e] [] cpos) (cExt i fa) := by
  refine PE.imp (pe_bm PySem.F.plainAttrs_list PySem.F.slot_list_extend PySem.F.type_list_extend mt_extend (pe_var hN hv hd hcd) (pa_cons ha pa_nil hs) hbase hfew hline hs hplain) fun s H Q h => ?_
  obtain ⟨r, T, S, g⟩ := h
  have g : Goes G C W T s Q (cExt i fa r) := g
  unfold cExt at g
  split at g
  · rename_i hi
    obtain ⟨o, ds, hr⟩ := isLst_at hi
    obtain ⟨ow, S0⟩ := S
    obtain ⟨v, v1, a, vs, ev, v2, v3, v4⟩ := S0.sl i _ hr
    subst ev
    refine ⟨_, v1, .inl ⟨rfl, vs, SqL.of v2⟩, ?_⟩
    refine one (fa := fa) ⟨ow, S0⟩ g fun x v' r1 H1 P g1 => ?_
    unfold extK at g1
    split at g1
    · rename_i o2 es e1
      split at g1
      · rename_i ds2 q
        split at g1
        · rename_i hz
          obtain ⟨ow1, S1⟩ := P.1
          obtain ⟨ow2, b, zs, S2, ev, hB, rxe, hn⟩ := S1.parts P.2 e1
          subst ev
          obtain ⟨ow3, a', vs', z1, hA, S3, q3, rx, hn3, oa⟩ := S2.mine q
          rw [v1] at z1
          cases z1
          have l1 := (rx ⟨.fo, []⟩).length
          have l2 := (rxe ⟨.fo, []⟩).length
          rw [frzs_length] at l1 l2
          have re : Reps G ow3 H1 (frzs es) ⟨.fo, []⟩ 0 zs := Reps.moveF _ (frzs_frzs es) (fun b o z n => ⟨z, hn3 b n⟩) (fun _ _ z _ => z) (rxe ⟨.fo, []⟩)
          have S4 := S3.relist (o' := true) q3 v1 (by rw [frzs_append, frzs_frzs, frzs_frzs]) (Reps.app (frzs_frzs ds2) (frzs_frzs es) (rx ⟨.fo, []⟩) re)
          exact ⟨a, b, vs', zs, rfl, rfl, hA, hB, by rw [sizeLine_eq, ← l1, ← l2]; exact hz, g1 _ _ ⟨StOk.pushN ⟨_, S4⟩, trivial⟩⟩
        · exact g1.elim
      · exact g1.elim
    · exact g1.elim
  · exact g.elim
/-- xs.clear() -/
def cClear (i : Nat) : Ev := fun r => match r[i]? with
  | some (some (.node .lst true ds)) => .ok (.val .non) ((r.set i (some (.node .lst true (frzs ds)))).set i (some (.node .lst true [])))
  | _ => .bad
theorem ve_clear {i : Nat} {x : Str} {p apos cpos : Pos} (hN : X.N[i]? = some x) (hv : Vis X.env.scope x) (hd : (x == ("__debug__" : Str)) = false) (hcd : (x == ("__classdict__" : Str)) = false)
    (hbase : attributeBase (.Name x p) "clear" X.env (eval (.Name x p) X.env) = eval (.Name x p) X.env := by rfl) (hline : (apos.endLine == cpos.line) = true := by rfl) :
    VE X G C W (.Call (.Attribute (.Name x p) "clear" apos) [] [] cpos) (cClear i) := by
  refine PE.imp (pe_bm0 PySem.F.plainAttrs_list PySem.F.slot_list_clear PySem.F.type_list_clear mt_clear (pe_var hN hv hd hcd) hbase hline) fun s H Q h => ?_
  obtain ⟨r, T, S, g⟩ := h
  have g : Goes G C W T s Q (cClear i r) := g
  unfold cClear at g
  split at g
  · rename_i ds q
    obtain ⟨ow, S⟩ := S
    obtain ⟨ow', a, vs, z1, hA, S', q', rx, _, oa⟩ := S.mine q
    have S2 := S'.relist (o' := true) (ds' := []) (vs' := []) (l := ⟨.fo, []⟩) (n := 0) q' z1 rfl rfl
    exact ⟨_, z1, .inl ⟨rfl, vs, SqL.of hA⟩, a, vs, rfl, rfl, hA, g _ _ ⟨StOk.pushN ⟨_, S2⟩, trivial⟩⟩
  · exact g.elim
end
end VL

namespace VL
open PySem PySem.Spec PyProof.Rows L2
/-! ### a law's script with its bits -/
def spLawB (K : PySem.W.Frag) : Sp := fun vs H Q _ => ∃ (a : Addr) (ns : List Int), vs = [.ref a] ∧ Holds ⟨fun _ => a, K⟩ H a .rd (ns.map V.int) ∧ ns.length ≤ 63 ∧ (∀ z ∈ ns, Builtin.Int.intBits z ≤ 1048576) ∧ ∀ H', Q (.bl true) H'
theorem law_impB {K : PySem.W.Frag} {G : GX} (hG : G.K = K) {F : List D → FO} (h : ∀ ns : List Int, ns.length ≤ 63 → (∀ z ∈ ns, Builtin.Int.intBits z ≤ 1048576) → F [script ns] = .ok (.bl true)) {vs : List V} {H : Hp} {Q : VK} {E : XK} (q : spLawB K vs H Q E) : spV G 1 F vs H Q E := by
  obtain ⟨a, ns, rfl, ha, hl, hb, hq⟩ := q
  refine ⟨[script ns], fun _ => none, rfl, ?_, (fun a l z => nomatch z), ?_, ?_⟩
  · show [D.node .rd false (frzs (ns.map D.int))] = _
    rw [frzs_ints]; rfl
  · refine ⟨_, _, rfl, ⟨a, ns.map V.int, rfl, ?_, trivial, reps_ints ns _ _⟩, rfl⟩
    rcases ha with z | z
    · exact .inl z
    · exact .inr (by rw [hG]; exact z)
  · rw [h ns hl hb]
    intro v H' _ b
    obtain ⟨ow1, b, _, hr, _⟩ := b
    have e : v = .bl true := hr
    subst e
    exact hq H'
theorem law_inB {K : PySem.W.Frag} {H : Hp} {a : Addr} {ns : List Int} (hl : ns.length ≤ 63) (hb : ∀ z ∈ ns, Builtin.Int.intBits z ≤ 1048576) (hO : Only H) (hS : SqL K H a (ns.map V.int)) : spLawB K [.ref a] H (fun v _ => v = .bl true) fun _ _ _ => False := by
  refine ⟨a, ns, rfl, ?_, hl, hb, fun _ => rfl⟩
  rcases hS with z | z
  · rcases hO a with q | ⟨o, xs, q⟩
    · rcases z with z | ⟨o, z⟩
      · rw [q] at z; cases z
      · exact .inl ⟨o, z⟩
    · rcases z with z | ⟨o, z⟩
      · rw [q] at z; cases z
      · exact .inl ⟨o, z⟩
  · exact .inr z
/-- the law row's walk, the numbers' bits told -/
theorem walk_lawB {k : Nat} {l : PySem.W.OpenLaw} {q : Program} {loose : List Str} {XP : (Str → Option Value) → Heap → Prop} {YP : World → Heap → Prop} {d : DefRec} {K : Params → PySem.W.Frag} (hn : l.most = some 63) (hdf : d.params.defaults = []) (hr : Room k callerA)
    (hY : ∀ (w : World) (h : Heap), YP w h → (K w.params).In h)
    (F : ∀ (w : World) (mg : Str → Option Value) (fa : Addr) (h : Heap), (K w.params).In h → h.Ns mainGlobals mg → mg d.name = some (.ref fa) →
      ∃ fd : FuncData, (∀ (s : Shared) (u : Value), BindsTo s fd ⟨[u], []⟩ [("script", u)]) ∧ ∀ base : Heap, (K w.params).In base → base.Ns mainGlobals mg → FnOk l.prog w (K w.params) mg base (L2.CX l.prog w) k fa fd ["script"] (VL.spLawB (K w.params))) :
    PySem.W.WalkO q loose XP YP l.row.toRowW d [] (fun f vs => PySem.call f vs) :=
  L2.walk_ofB (n := 63) (k := k) (x := "script") (CX := fun w => L2.CX l.prog w) (sp := fun w => VL.spLawB (K w.params)) hn (by decide) hdf hr hY F (fun w H a ns hl hb hO hS => law_inB hl hb hO hS) fun w H s e s' z => no_exc z
end VL
namespace VL
open PySem PySem.Spec PyProof.Rows L2
/-! ### == of plain things -/
def FP (k : Nat) (d : D) : Prop := (toPy d).canLay0 = true ∧ (toPy d).depth ≤ k
theorem FP.mono {k m : Nat} {d : D} (h : FP k d) (hm : k ≤ m) : FP m d := ⟨h.1, Nat.le_trans h.2 hm⟩
theorem fp_int (n : Int) (k : Nat) : FP k (.int n) := ⟨rfl, Nat.zero_le _⟩
theorem fp_bl (b : Bool) (k : Nat) : FP k (.bl b) := ⟨rfl, Nat.zero_le _⟩
theorem fp_non (k : Nat) : FP k .non := ⟨rfl, Nat.zero_le _⟩
theorem fps {k : Nat} : ∀ {xs : List D}, (∀ x ∈ xs, FP k x) → PyData.canLayAll0 (toPys xs) = true ∧ PyData.depthAll (toPys xs) ≤ k
  | [], _ => ⟨rfl, Nat.zero_le _⟩
  | x :: xs, h => by
    obtain ⟨h1, h2⟩ := fps (fun y hy => h y (List.mem_cons_of_mem _ hy))
    obtain ⟨h3, h4⟩ := h x List.mem_cons_self
    constructor
    · show ((toPy x).canLay0 && PyData.canLayAll0 (toPys xs)) = true
      rw [h1, h3]; rfl
    · show max (toPy x).depth (PyData.depthAll (toPys xs)) ≤ k
      exact Nat.max_le.mpr ⟨h4, h2⟩
theorem fp_lst {k : Nat} {o : Bool} {xs : List D} (h : ∀ x ∈ xs, FP k x) : FP (k + 1) (.node .lst o xs) := ⟨(fps h).1, Nat.succ_le_succ (fps h).2⟩
theorem fp_tup {k : Nat} {o : Bool} {xs : List D} (h : ∀ x ∈ xs, FP k x) : FP (k + 1) (.node .tup o xs) := ⟨(fps h).1, Nat.succ_le_succ (fps h).2⟩
theorem eqOk_fp {k : Nat} {d : D} (h : FP k d) (hk : k ≤ 64) : eqOk d = true := by
  show ((toPy d).canLay0 && decide ((toPy d).depth ≤ 64)) = true
  rw [h.1, decide_eq_true (Nat.le_trans h.2 hk)]; rfl
mutual
theorem eqv_refl : ∀ d : PyData, d.canLay0 = true → PyData.eqv d d = true
  | .none, _ => rfl
  | .bool b, _ => by cases b <;> rfl
  | .int i, _ => by show (i == i) = true; simp
  | .str x, _ => by show (x == x) = true; simp
  | .list xs, h => eqvAll_refl xs (by simpa [PyData.canLay0] using h)
  | .tuple xs, h => eqvAll_refl xs (by simpa [PyData.canLay0] using h)
  | .dict _, h => by simp [PyData.canLay0] at h
theorem eqvAll_refl : ∀ ds : List PyData, PyData.canLayAll0 ds = true → PyData.eqvAll ds ds = true
  | [], _ => rfl
  | d :: ds, h => by
    have h' : d.canLay0 = true ∧ PyData.canLayAll0 ds = true := by simpa [PyData.canLayAll0] using h
    show (PyData.eqv d d && PyData.eqvAll ds ds) = true
    rw [eqv_refl d h'.1, eqvAll_refl ds h'.2]; rfl
end
/-- alike but for who owns it -/
theorem eqD_same {k : Nat} {d e : D} (h : FP k d) (hk : k ≤ 64) (he : toPy d = toPy e) : eqD d e = some (.bl true) := by
  have h2 : FP k e := ⟨he ▸ h.1, he ▸ h.2⟩
  unfold eqD
  rw [eqOk_fp h hk, eqOk_fp h2 hk, ← he, eqv_refl _ h.1]; rfl
theorem neD_same {k : Nat} {d e : D} (h : FP k d) (hk : k ≤ 64) (he : toPy d = toPy e) : neD d e = some (.bl false) := by
  have h2 : FP k e := ⟨he ▸ h.1, he ▸ h.2⟩
  unfold neD
  rw [eqOk_fp h hk, eqOk_fp h2 hk, ← he, eqv_refl _ h.1]; rfl
/-- no list with something in it is the empty one -/
theorem ne_nil {k : Nat} {o o' : Bool} {xs : List D} (h : ∀ x ∈ xs, FP k x) (hk : k < 64) : neD (.node .lst o xs) (.node .lst o' []) = some (.bl (!xs.isEmpty)) := by
  unfold neD
  have h2 : eqOk (.node .lst o' []) = true := rfl
  rw [eqOk_fp (fp_lst h) hk, h2]
  cases xs with
  | nil => rfl
  | cons x xs => rfl
theorem eq_nil {k : Nat} {o o' : Bool} {xs : List D} (h : ∀ x ∈ xs, FP k x) (hk : k < 64) : eqD (.node .lst o xs) (.node .lst o' []) = some (.bl xs.isEmpty) := by
  unfold eqD
  have h2 : eqOk (.node .lst o' []) = true := rfl
  rw [eqOk_fp (fp_lst h) hk, h2]
  cases xs with
  | nil => rfl
  | cons x xs => rfl
/-! ### two numbers in a tuple -/
def pr (p : Int × Int) : D := .node .tup false [.int p.1, .int p.2]
@[simp] theorem frz_pr (p : Int × Int) : frz (pr p) = pr p := rfl
@[simp] theorem frzs_pr (ps : List (Int × Int)) : frzs (ps.map pr) = ps.map pr := by
  rw [frzs_map, List.map_map]
  exact List.map_congr_left fun _ _ => rfl
@[simp] theorem atom_pr (p : Int × Int) : atom (pr p) = false := rfl
theorem fp_pr (p : Int × Int) (k : Nat) (hk : 1 ≤ k) : FP k (pr p) := ⟨rfl, hk⟩
theorem fp_prs (ps : List (Int × Int)) : ∀ x ∈ ps.map pr, FP 1 x := fun x hx => by
  obtain ⟨p, _, rfl⟩ := List.mem_map.mp hx
  exact fp_pr p 1 (Nat.le_refl 1)
theorem noLs_prs : ∀ ps : List (Int × Int), noLs (ps.map pr) = true
  | [] => rfl
  | p :: ps => by show (true && noLs (ps.map pr)) = true; rw [noLs_prs ps]; rfl
theorem noL_prs (ps : List (Int × Int)) : noL (.node .lst true (ps.map pr)) = true := by
  show ((true || false) && noLs (ps.map pr)) = true
  rw [noLs_prs]; rfl
theorem eqv_prs : ∀ xs ys : List (Int × Int), PyData.eqvAll (toPys (xs.map pr)) (toPys (ys.map pr)) = decide (xs = ys)
  | [], [] => rfl
  | [], y :: ys => rfl
  | x :: xs, [] => rfl
  | x :: xs, y :: ys => by
    show (((x.1 == y.1) && ((x.2 == y.2) && true)) && PyData.eqvAll (toPys (xs.map pr)) (toPys (ys.map pr))) = _
    rw [eqv_prs xs ys]
    obtain ⟨a, b⟩ := x
    obtain ⟨c, d⟩ := y
    by_cases h : a = c <;> by_cases h2 : b = d <;> by_cases h3 : xs = ys <;> simp [h, h2, h3]
theorem ne_prs {o o' : Bool} (xs ys : List (Int × Int)) : neD (.node .lst o (xs.map pr)) (.node .lst o' (ys.map pr)) = some (.bl (!decide (xs = ys))) := by
  unfold neD
  rw [eqOk_fp (fp_lst (fp_prs xs)) (by decide), eqOk_fp (fp_lst (fp_prs ys)) (by decide)]
  show some (D.bl (!PyData.eqvAll (toPys (xs.map pr)) (toPys (ys.map pr)))) = _
  rw [eqv_prs]
theorem eq_prs {o o' : Bool} (xs ys : List (Int × Int)) : eqD (.node .lst o (xs.map pr)) (.node .lst o' (ys.map pr)) = some (.bl (decide (xs = ys))) := by
  unfold eqD
  rw [eqOk_fp (fp_lst (fp_prs xs)) (by decide), eqOk_fp (fp_lst (fp_prs ys)) (by decide)]
  show some (D.bl (PyData.eqvAll (toPys (xs.map pr)) (toPys (ys.map pr)))) = _
  rw [eqv_prs]
/-! ### steps -/
theorem seq_nx {f g : Sv} {r r1 : Rho} (h : f r = .nx r1) : cSeq f g r = g r1 := by
  rw [q_seq, h]; rfl
theorem seq_rt {f g : Sv} {r r1 : Rho} {x : R} (h : f r = .rt x r1) : cSeq f g r = .rt x r1 := by
  rw [q_seq, h]; rfl
theorem seq_exc {f g : Sv} {r r1 : Rho} {c : Nat} (h : f r = .exc c r1) : cSeq f g r = .exc c r1 := by
  rw [q_seq, h]; rfl
theorem forL_rt {t : Tg} {f : Sv} {d : D} {ds : List D} {r r1 r2 : Rho} {x : R} (h1 : tgt t d r = some r1) (h2 : f r1 = .rt x r2) : forL t f (d :: ds) r = .rt x r2 := by
  show (match tgt t d r with | none => _ | some r1 => _) = _
  rw [h1]
  show (match f r1 with | .nx r2 => forL t f ds r2 | .ct r2 => forL t f ds r2 | .bk r2 => .nx r2 | o => o) = _
  rw [h2]
theorem forL_exc {t : Tg} {f : Sv} {d : D} {ds : List D} {r r1 r2 : Rho} {c : Nat} (h1 : tgt t d r = some r1) (h2 : f r1 = .exc c r2) : forL t f (d :: ds) r = .exc c r2 := by
  show (match tgt t d r with | none => _ | some r1 => _) = _
  rw [h1]
  show (match f r1 with | .nx r2 => forL t f ds r2 | .ct r2 => forL t f ds r2 | .bk r2 => .nx r2 | o => o) = _
  rw [h2]
theorem set_same {r : Rho} {i : Nat} {d : D} (h : r[i]? = some (some d)) : r.set i (some d) = r := by
  refine List.ext_getElem? fun j => ?_
  by_cases hj : i = j
  · subst hj
    rw [List.getElem?_set_self (List.getElem?_eq_some_iff.mp h).1, h]
  · rw [List.getElem?_set_ne hj]
theorem opd_loc' {r : Rho} {i : Nat} {d : D} (h : r[i]? = some (some d)) : opd r (.loc i) = some d := by
  show (match r[i]? with | some (some d) => some d | _ => none) = _
  rw [h]
theorem touch_fz {r : Rho} {i : Nat} {k : Kd} {o : Bool} {ys : List D} (h : r[i]? = some (some (.node k o ys))) (f : frzs ys = ys) : touch r (.loc i) = r := by
  show (match r[i]? with | some (some d) => r.set i (some (frzB d)) | _ => r) = r
  rw [h]
  show r.set i (some (.node k o (frzs ys))) = r
  rw [f]
  exact set_same h
theorem touchI {r : Rho} {i : Nat} {o : Bool} (ys : List Int) (h : r[i]? = some (some (.node .lst o (ys.map .int)))) : touch r (.loc i) = r := touch_fz h (frzs_ints ys)
/-- lists of shared parts, put together -/
theorem add_fz {r : Rho} {x y : R} {o o' : Bool} {xs ys : List D} (h1 : opd r x = some (.node .lst o xs)) (h2 : opd r y = some (.node .lst o' ys)) (f1 : frzs xs = xs) (f2 : frzs ys = ys) (hl : xs.length + ys.length ≤ 16777216) (t1 : touch r x = r) (t2 : touch r y = r) :
    gAdd x y r = .ok (.val (.node .lst true (xs ++ ys))) r := by
  rw [q_addL h1 h2 hl, f1, f2, t2, t1]
theorem add_vv {r : Rho} {o o' : Bool} (xs ys : List Int) (hl : xs.length + ys.length ≤ 16777216) : gAdd (.val (.node .lst o (xs.map .int))) (.val (.node .lst o' (ys.map .int))) r = .ok (.val (.node .lst true ((xs ++ ys).map .int))) r := q_addLI xs ys hl
theorem add_lv {r : Rho} {i : Nat} {o o' : Bool} (xs ys : List Int) (h : r[i]? = some (some (.node .lst o (xs.map .int)))) (hl : xs.length + ys.length ≤ 16777216) : gAdd (.loc i) (.val (.node .lst o' (ys.map .int))) r = .ok (.val (.node .lst true ((xs ++ ys).map .int))) r := by
  rw [add_fz (opd_loc' h) rfl (frzs_ints xs) (frzs_ints ys) (by simpa using hl) (touchI xs h) rfl, List.map_append]
theorem add_vl {r : Rho} {i : Nat} {o o' : Bool} (xs ys : List Int) (h : r[i]? = some (some (.node .lst o' (ys.map .int)))) (hl : xs.length + ys.length ≤ 16777216) : gAdd (.val (.node .lst o (xs.map .int))) (.loc i) r = .ok (.val (.node .lst true ((xs ++ ys).map .int))) r := by
  rw [add_fz rfl (opd_loc' h) (frzs_ints xs) (frzs_ints ys) (by simpa using hl) rfl (touchI ys h), List.map_append]
theorem add_ll {r : Rho} {i j : Nat} {o o' : Bool} (xs ys : List Int) (h1 : r[i]? = some (some (.node .lst o (xs.map .int)))) (h2 : r[j]? = some (some (.node .lst o' (ys.map .int)))) (hl : xs.length + ys.length ≤ 16777216) : gAdd (.loc i) (.loc j) r = .ok (.val (.node .lst true ((xs ++ ys).map .int))) r := by
  rw [add_fz (opd_loc' h1) (opd_loc' h2) (frzs_ints xs) (frzs_ints ys) (by simpa using hl) (touchI xs h1) (touchI ys h2), List.map_append]
theorem atI_nat {α : Type} {xs : List α} (i : Nat) : atI xs (i : Int) = xs[i]? := by
  unfold atI ixN
  have z1 : (0 : Int) ≤ (i : Int) := by omega
  rw [if_pos z1]
  by_cases h : i < xs.length
  · rw [if_pos (show (i : Int) < (xs.length : Nat) by omega), Int.toNat_natCast]; rfl
  · rw [if_neg (show ¬ (i : Int) < (xs.length : Nat) by omega), List.getElem?_eq_none (by omega)]; rfl
theorem at_map {f : Int → D} {xs : List Int} {i : Nat} (h : i < xs.length) : atI (xs.map f) (i : Int) = some (f xs[i]) := by
  rw [atI_nat, List.getElem?_map, List.getElem?_eq_getElem h]; rfl
theorem rngD_range' (lo n : Nat) : rngD (lo : Int) 1 n = (List.range' lo n).map fun i => D.int (i : Nat) := by
  unfold rngD
  rw [List.range'_eq_map_range, List.map_map]
  refine List.map_congr_left fun i _ => ?_
  show D.int ((lo : Int) + (i : Nat) * 1) = D.int ((lo + i : Nat) : Int)
  congr 1
  omega
theorem rngD_cons (lo : Int) (n : Nat) : rngD lo 1 (n + 1) = .int lo :: rngD (lo + 1) 1 n := by
  unfold rngD
  rw [List.range_succ_eq_map, List.map_cons, List.map_map]
  congr 1
  · show D.int (lo + 0 * 1) = _; congr 1; omega
  · refine List.map_congr_left fun i _ => ?_
    show D.int (lo + ((i + 1 : Nat) : Int) * 1) = _
    congr 1; omega
theorem within_le {n : Int} (h1 : -1000000000 ≤ n) (h2 : n ≤ 1000000000) : within n = true := by unfold within; simp; omega
theorem pop_fz {r : Rho} {i : Nat} {xs : List D} {d : D} (h : r[i]? = some (some (.node .lst true (xs ++ [d])))) (f : frzs (xs ++ [d]) = xs ++ [d]) : cPop i r = .ok (.val d) (r.set i (some (.node .lst true xs))) := by
  unfold cPop
  rw [h]
  have e : (frzs (xs ++ [d]))[(xs ++ [d]).length - 1]? = some d := by rw [f]; simp
  have e2 : (frzs (xs ++ [d])).dropLast = xs := by rw [f]; simp
  simp only [e, e2, List.set_set]
theorem ix_fz {r : Rho} {i : Nat} {k : Int} {o : Bool} {xs : List D} {d : D} (h : r[i]? = some (some (.node .lst o xs))) (f : frzs xs = xs) (hd : atI xs k = some d) (fd : frz d = d) : gIx (.loc i) (.val (.int k)) r = .ok (.val d) r := by
  have a : opd r (.loc i) = some (.node .lst o xs) := opd_loc' h
  simp only [q_ix, a, q_opd1, hd, q_pick, fd, touch_fz h f]
  split <;> rfl
@[simp] theorem q_aug {i : Nat} {g : G2} {fb : Ev} {r : Rho} : cAug i g fb r = match r[i]? with
  | some (some d) => if atom d = true then (fb r).st fun y r1 => (g (.val d) y r1).st fun z r2 => match z with
    | .val d' => .nx (r2.set i (some d'))
    | .loc _ => .bad else .bad
  | _ => .bad := rfl
@[simp] theorem q_iAdd {n m : Int} : iAdd (.int n) (.int m) = some (.int (n + m)) := rfl
theorem ext_fz {r : Rho} {i : Nat} {o : Bool} {xs ys : List D} (h : r[i]? = some (some (.node .lst true xs))) (f1 : frzs xs = xs) (f2 : frzs ys = ys) (hl : xs.length + ys.length ≤ 16777216) : extK i (.val (.node .lst o ys)) r = .ok (.val .non) (r.set i (some (.node .lst true (xs ++ ys)))) := by
  unfold extK
  have a : opd r (.val (.node .lst o ys)) = some (.node .lst o ys) := rfl
  have b : touch r (.val (.node .lst o ys)) = r := rfl
  rw [a]
  show (match (touch r (.val (.node .lst o ys)))[i]? with | some (some (.node .lst true ds)) => _ | _ => _) = _
  rw [b, h]
  show (if xs.length + ys.length ≤ 16777216 then _ else _) = _
  rw [if_pos hl, f1, f2, List.set_set]
theorem cvar_loc {r : Rho} {i : Nat} {d : D} (h : r[i]? = some (some d)) (a : atom d = false) : cVar i r = .ok (.loc i) r := by
  rw [q_var, h]
  show (if atom d = true then _ else _) = _
  rw [a]; rfl
theorem cvar_at {r : Rho} {i : Nat} {d : D} (h : r[i]? = some (some d)) (a : atom d = true) : cVar i r = .ok (.val d) r := by
  rw [q_var, h]
  show (if atom d = true then _ else _) = _
  rw [a]; rfl
theorem g2_ok {r : Rho} {f : D → D → Option D} {x y : R} {d e z : D} (h1 : opd r x = some d) (h2 : opd r y = some e) (h : f d e = some z) (a : atom z = true) : g2 f x y r = .ok (.val z) r := by
  rw [q_g2, h1, h2]
  show (match f d e with | some z => if atom z = true then EO.ok (R.val z) r else .bad | none => .bad) = _
  rw [h]
  show (if atom z = true then EO.ok (R.val z) r else .bad) = _
  rw [if_pos a]
theorem bin_ok {fa fb : Ev} {g : G2} {r r1 r2 : Rho} {x y : R} {o : EO} (h1 : fa r = .ok x r1) (h2 : fb r1 = .ok y r2) (h : g x y r2 = o) : cBin g fa fb r = o := by
  rw [q_bin, h1, bd_ok, h2, bd_ok, h]
/-- x != [] -/
theorem ne_var_nil {r : Rho} {i : Nat} {k : Nat} {o : Bool} {xs : List D} (h : r[i]? = some (some (.node .lst o xs))) (hf : ∀ x ∈ xs, FP k x) (hk : k < 64) : cBin gNe (cVar i) (cLst cNil) r = .ok (.val (.bl (!xs.isEmpty))) r :=
  bin_ok (cvar_loc h rfl) (show cLst cNil r = .ok (.val (.node .lst true [])) r from rfl) (g2_ok (opd_loc' h) rfl (ne_nil hf hk) rfl)
theorem eq_var_nil {r : Rho} {i : Nat} {k : Nat} {o : Bool} {xs : List D} (h : r[i]? = some (some (.node .lst o xs))) (hf : ∀ x ∈ xs, FP k x) (hk : k < 64) : cBin gEq (cVar i) (cLst cNil) r = .ok (.val (.bl xs.isEmpty)) r :=
  bin_ok (cvar_loc h rfl) (show cLst cNil r = .ok (.val (.node .lst true [])) r from rfl) (g2_ok (opd_loc' h) rfl (eq_nil hf hk) rfl)
theorem ifs_ok {fa : Ev} {f g : Sv} {r r1 : Rho} {b : Bool} {o : SO} (h : fa r = .ok (.val (.bl b)) r1) (h2 : (if b = true then f r1 else g r1) = o) : cIfS fa f g r = o := by
  rw [q_ifs, h, q_st1]
  cases b <;> exact h2
theorem call1 {F : List D → FO} {fa : Ev} {r r1 : Rho} {x : R} {z d : D} (h : fa r = .ok x r1) (ho : opd r1 x = some z) (hF : F [frz z] = .ok d) (nl : noL d = true) : cCall 1 F (cCons fa cNil) r = .ok (.val d) r1 := by
  have fz : frzs [z] = [frz z] := rfl
  rw [q_call, q_cons, h]
  show callK F [x] r1 = _
  rw [q_callK, q_opds1, ho, q_opds0]
  show (match F (frzs [z]) with | .ok d => if noL d = true then EO.ok (.val d) r1 else .ok (.val d) (settles r1 [x]) | .exc c => .exc c r1 | .bad => .bad) = _
  rw [fz, hF]
  show (if noL d = true then EO.ok (.val d) r1 else _) = _
  rw [if_pos nl]
theorem call1_exc {F : List D → FO} {fa : Ev} {r r1 : Rho} {x : R} {z : D} {c : Nat} (h : fa r = .ok x r1) (ho : opd r1 x = some z) (hF : F [frz z] = .exc c) : cCall 1 F (cCons fa cNil) r = .exc c r1 := by
  have fz : frzs [z] = [frz z] := rfl
  rw [q_call, q_cons, h]
  show callK F [x] r1 = _
  rw [q_callK, q_opds1, ho, q_opds0]
  show (match F (frzs [z]) with | .ok d => if noL d = true then EO.ok (.val d) r1 else .ok (.val d) (settles r1 [x]) | .exc c => .exc c r1 | .bad => .bad) = _
  rw [fz, hF]
theorem call2 {F : List D → FO} {fa fb : Ev} {r r1 r2 : Rho} {x y : R} {z w d : D} (h : fa r = .ok x r1) (h2 : fb r1 = .ok y r2) (ho : opd r2 x = some z) (ho2 : opd r2 y = some w) (hF : F [frz z, frz w] = .ok d) (nl : noL d = true) : cCall 2 F (cCons fa (cCons fb cNil)) r = .ok (.val d) r2 := by
  have fz : frzs [z, w] = [frz z, frz w] := rfl
  rw [q_call, q_cons, h]
  show (match cCons fb cNil r1 with | .ok xs r2 => AO.ok (x :: xs) r2 | .exc c r2 => .exc c r2 | .bad => .bad).bd _ = _
  rw [q_cons, h2]
  show callK F [x, y] r2 = _
  rw [q_callK, q_opds1, ho, q_opds1, ho2, q_opds0]
  show (match F (frzs [z, w]) with | .ok d => if noL d = true then EO.ok (.val d) r2 else .ok (.val d) (settles r2 [x, y]) | .exc c => .exc c r2 | .bad => .bad) = _
  rw [fz, hF]
  show (if noL d = true then EO.ok (.val d) r2 else _) = _
  rw [if_pos nl]
theorem asg_ok {fa : Ev} {r r1 : Rho} {i : Nat} {d : D} (h : fa r = .ok (.val d) r1) : cAsg (.nm i) fa r = .nx (r1.set i (some d)) := by
  rw [q_asg, q_set, h, bd_ok]
  rfl
theorem for_ok {t : Tg} {fi : Iv} {f : Sv} {r r1 : Rho} {ds : List D} {o : SO} (h : fi r = .ok ds r1) (h2 : forL t f ds r1 = o) : cFor t fi f r = o := by
  rw [q_for, h]
  exact h2
theorem it_lst {r : Rho} {i : Nat} {o : Bool} {xs : List D} (h : r[i]? = some (some (.node .lst o xs))) (f : frzs xs = xs) : iLst (cVar i) r = .ok xs (r.set i (some (.node .lst false xs))) := by
  have e : frz (.node .lst o xs) = .node .lst false xs := by show D.node .lst false (frzs xs) = _; rw [f]
  rw [q_iLst, q_set, cvar_loc h rfl, bd_ok]
  show (match (match opd r (.loc i) with | some d => EO.ok (.val (frz d)) (settle r (.loc i)) | none => .bad) with | .ok (.val (.node .lst _ ds)) r1 => IO.ok ds r1 | .ok (.val (.node .rd _ ds)) r1 => IO.ok ds r1 | .exc c r1 => .exc c r1 | _ => .bad) = _
  rw [opd_loc' h, q_settle2, h]
  show (match EO.ok (R.val (frz (.node .lst o xs))) (r.set i (some (frz (.node .lst o xs)))) with | .ok (.val (.node .lst _ ds)) r1 => IO.ok ds r1 | .ok (.val (.node .rd _ ds)) r1 => IO.ok ds r1 | .exc c r1 => .exc c r1 | _ => .bad) = _
  rw [e]
theorem cutD_some (xs : List D) (a b : Nat) : VL.cutD xs (some (a : Int)) (some (b : Int)) = (xs.drop a).take (b - a) := by
  unfold VL.cutD
  show (xs.drop (HT.sIx xs.length 0 (some ((a : Nat) : Int)))).take (HT.sIx xs.length xs.length (some ((b : Nat) : Int)) - HT.sIx xs.length 0 (some ((a : Nat) : Int))) = _
  rw [HT.sIx_nat, HT.sIx_nat]
  by_cases h : a ≤ xs.length
  · rw [Nat.min_eq_left h]
    by_cases h2 : b ≤ xs.length
    · rw [Nat.min_eq_left h2]
    · rw [Nat.min_eq_right (by omega), List.take_of_length_le (by rw [List.length_drop]; omega), List.take_of_length_le (by rw [List.length_drop]; omega)]
  · rw [Nat.min_eq_right (show xs.length ≤ a by omega), List.drop_length, List.drop_of_length_le (show xs.length ≤ a by omega), List.take_nil, List.take_nil]
theorem cutD_to (xs : List D) (b : Nat) : VL.cutD xs none (some (b : Int)) = xs.take b := by
  unfold VL.cutD
  show (xs.drop (HT.sIx xs.length 0 none)).take (HT.sIx xs.length xs.length (some ((b : Nat) : Int)) - HT.sIx xs.length 0 none) = _
  rw [HT.sIx_nat, HT.sIx_none, List.drop_zero, Nat.sub_zero]
  by_cases h2 : b ≤ xs.length
  · rw [Nat.min_eq_left h2]
  · rw [Nat.min_eq_right (by omega), List.take_length, List.take_of_length_le (by omega)]
theorem cutD_of (xs : List D) (a : Nat) : VL.cutD xs (some (a : Int)) none = xs.drop a := by
  unfold VL.cutD
  show (xs.drop (HT.sIx xs.length 0 (some ((a : Nat) : Int)))).take (HT.sIx xs.length xs.length none - HT.sIx xs.length 0 (some ((a : Nat) : Int))) = _
  rw [HT.sIx_nat, HT.sIx_none]
  by_cases h : a ≤ xs.length
  · rw [Nat.min_eq_left h, List.take_of_length_le (by rw [List.length_drop]; omega)]
  · rw [Nat.min_eq_right (by omega), List.drop_length, List.drop_of_length_le (by omega), List.take_nil]
/-- xs[a:b] of a list of whole numbers -/
theorem sl_ok {fa : Ev} {lo hi : Option Ev} {r r1 : Rho} {x : R} {k : Kd} {o : Bool} {xs : List D} {l h : Option Int} (hk : k = .lst ∨ k = .rd) (e : fa r = .ok x r1) (ho : opd r1 x = some (.node k o xs)) (f : frzs xs = xs) (t : touch r1 x = r1)
    (hl : ∀ {k : Option Int → Rho → EO}, part lo r1 k = k l r1) (hh : ∀ {k : Option Int → Rho → EO}, part hi r1 k = k h r1) : cSl fa lo hi r = .ok (.val (.node .lst true (VL.cutD xs l h))) r1 := by
  rw [q_sl, e, bd_ok, hl, hh, q_gSl, ho]
  rcases hk with z | z <;> subst z
  · show EO.ok (.val (.node .lst true (VL.cutD (frzs xs) l h))) (touch r1 x) = _
    rw [f, t]
  · show EO.ok (.val (.node .lst true (VL.cutD (frzs xs) l h))) (touch r1 x) = _
    rw [f, t]
theorem listOf_ok {r : Rho} {i : Nat} {o : Bool} {xs : List D} (h : r[i]? = some (some (.node .lst o xs))) (f : frzs xs = xs) : cB gListOf (cCons (cVar i) cNil) r = .ok (.val (.node .lst true xs)) r := by
  simp only [q_B, q_cons, cvar_loc h rfl, q_nil, q_abd1, q_listOf, opd_loc' h, f, touch_fz h f]
theorem isi_list {E : ETab} {r : Rho} {i : Nat} {o : Bool} {xs : List D} (h : r[i]? = some (some (.node .lst o xs))) : cB (gIsi E) (cCons (cVar i) (cCons (cC (.ty "list")) cNil)) r = .ok (.val (.bl true)) r := by
  simp only [q_B, q_cons, cvar_loc h rfl, q_nil, q_abd1, q_c]
  show (match opd r (.loc i) with | some d => (match isi1 E d (.ty "list") with | some b => EO.ok (.val (.bl b)) r | none => .bad) | none => .bad) = _
  rw [opd_loc' h]
  rfl
theorem or_no {fa fb : Ev} {r : Rho} {o : EO} (h : fa r = .ok (.val (.bl false)) r) (h2 : fb r = o) : cOr fa fb r = o := by
  rw [q_or, h, bd_ok]
  exact h2
theorem and_yes {fa fb : Ev} {r : Rho} {o : EO} (h : fa r = .ok (.val (.bl true)) r) (h2 : fb r = o) : cAnd fa fb r = o := by
  rw [q_and, h, bd_ok]
  exact h2
theorem not_ok {fa : Ev} {r r1 : Rho} {b : Bool} (h : fa r = .ok (.val (.bl b)) r1) : cNot fa r = .ok (.val (.bl (!b))) r1 := by
  rw [q_not, h, bd_ok]
/-- a guard that lets by -/
theorem guard_no {fa : Ev} {f : Sv} {r : Rho} (h : fa r = .ok (.val (.bl false)) r) : cIfS fa f cSkip r = .nx r := ifs_ok h rfl
theorem ne_ints {r : Rho} {i j : Nat} {o o' : Bool} {xs ys : List Int} (h1 : r[i]? = some (some (.node .lst o (xs.map .int)))) (h2 : r[j]? = some (some (.node .lst o' (ys.map .int)))) : cBin gNe (cVar i) (cVar j) r = .ok (.val (.bl (!decide (xs = ys)))) r :=
  bin_ok (cvar_loc h1 rfl) (cvar_loc h2 rfl) (g2_ok (opd_loc' h1) (opd_loc' h2) (ne_lints xs ys) rfl)
theorem eq_ints {r : Rho} {i j : Nat} {o o' : Bool} {xs ys : List Int} (h1 : r[i]? = some (some (.node .lst o (xs.map .int)))) (h2 : r[j]? = some (some (.node .lst o' (ys.map .int)))) : cBin gEq (cVar i) (cVar j) r = .ok (.val (.bl (decide (xs = ys)))) r :=
  bin_ok (cvar_loc h1 rfl) (cvar_loc h2 rfl) (g2_ok (opd_loc' h1) (opd_loc' h2) (eq_lints xs ys) rfl)
theorem ne_pairs {r : Rho} {i j : Nat} {o o' : Bool} {xs ys : List (Int × Int)} (h1 : r[i]? = some (some (.node .lst o (xs.map pr)))) (h2 : r[j]? = some (some (.node .lst o' (ys.map pr)))) : cBin gNe (cVar i) (cVar j) r = .ok (.val (.bl (!decide (xs = ys)))) r :=
  bin_ok (cvar_loc h1 rfl) (cvar_loc h2 rfl) (g2_ok (opd_loc' h1) (opd_loc' h2) (ne_prs xs ys) rfl)
theorem eq_pairs {r : Rho} {i j : Nat} {o o' : Bool} {xs ys : List (Int × Int)} (h1 : r[i]? = some (some (.node .lst o (xs.map pr)))) (h2 : r[j]? = some (some (.node .lst o' (ys.map pr)))) : cBin gEq (cVar i) (cVar j) r = .ok (.val (.bl (decide (xs = ys)))) r :=
  bin_ok (cvar_loc h1 rfl) (cvar_loc h2 rfl) (g2_ok (opd_loc' h1) (opd_loc' h2) (eq_prs xs ys) rfl)
theorem app_ok {fa : Ev} {r r1 : Rho} {i : Nat} {d : D} {ds : List D} (hi : isLst r i = true) (h : fa r = .ok (.val d) r1) (h2 : r1[i]? = some (some (.node .lst true ds))) (hl : ds.length < 16777216) : cExpr (cApp i fa) r = .nx (r1.set i (some (.node .lst true (ds ++ [d])))) := by
  rw [q_expr, q_app, if_pos hi, q_set, h, bd_ok]
  show (appK i (.val d) r1).st _ = _
  rw [q_appK, h2]
  show (if ds.length < 16777216 then EO.ok (.val .non) (r1.set i (some (.node .lst true (ds ++ [d])))) else .bad).st _ = _
  rw [if_pos hl]
  rfl
theorem frz_lst {o : Bool} {xs : List D} (f : frzs xs = xs) : frz (.node .lst o xs) = .node .lst false xs := by
  show D.node .lst false (frzs xs) = _
  rw [f]
section
variable {fa fb : Ev} {r r1 r2 : Rho} {i j : Int}
theorem mod_ok (h1 : fa r = .ok (.val (.int i)) r1) (h2 : fb r1 = .ok (.val (.int j)) r2) (hj : 0 < j) : cBin gMod fa fb r = .ok (.val (.int (i % j))) r2 :=
  bin_ok h1 h2 (g2_ok rfl rfl (by rw [q_fI, if_pos (posOk_of hj)]) rfl)
theorem div_ok (h1 : fa r = .ok (.val (.int i)) r1) (h2 : fb r1 = .ok (.val (.int j)) r2) (hj : 0 < j) (hj2 : j < 1073741824) : cBin gDiv fa fb r = .ok (.val (.int (i / j))) r2 :=
  bin_ok h1 h2 (g2_ok rfl rfl (by rw [q_fI, if_pos (divOk_of' hj hj2)]) rfl)
theorem mul_ok (h1 : fa r = .ok (.val (.int i)) r1) (h2 : fb r1 = .ok (.val (.int j)) r2) (hm : mulOk i j = true) : cBin gMul fa fb r = .ok (.val (.int (i * j))) r2 :=
  bin_ok h1 h2 (by rw [q_mulI, if_pos hm])
theorem add_ok (h1 : fa r = .ok (.val (.int i)) r1) (h2 : fb r1 = .ok (.val (.int j)) r2) : cBin gAdd fa fb r = .ok (.val (.int (i + j))) r2 := bin_ok h1 h2 q_addI
theorem sub_ok (h1 : fa r = .ok (.val (.int i)) r1) (h2 : fb r1 = .ok (.val (.int j)) r2) : cBin VL.gSub fa fb r = .ok (.val (.int (i - j))) r2 := bin_ok h1 h2 (g2_ok rfl rfl rfl rfl)
theorem lt_ok (h1 : fa r = .ok (.val (.int i)) r1) (h2 : fb r1 = .ok (.val (.int j)) r2) : cBin gLt fa fb r = .ok (.val (.bl (decide (i < j)))) r2 := bin_ok h1 h2 (g2_ok rfl rfl rfl rfl)
theorem le_ok (h1 : fa r = .ok (.val (.int i)) r1) (h2 : fb r1 = .ok (.val (.int j)) r2) : cBin gLe fa fb r = .ok (.val (.bl (decide (i ≤ j)))) r2 := bin_ok h1 h2 (g2_ok rfl rfl rfl rfl)
theorem gt_ok (h1 : fa r = .ok (.val (.int i)) r1) (h2 : fb r1 = .ok (.val (.int j)) r2) : cBin gGt fa fb r = .ok (.val (.bl (decide (j < i)))) r2 := bin_ok h1 h2 (g2_ok rfl rfl rfl rfl)
theorem ge_ok (h1 : fa r = .ok (.val (.int i)) r1) (h2 : fb r1 = .ok (.val (.int j)) r2) : cBin gGe fa fb r = .ok (.val (.bl (decide (j ≤ i)))) r2 := bin_ok h1 h2 (g2_ok rfl rfl rfl rfl)
theorem eq_ok (h1 : fa r = .ok (.val (.int i)) r1) (h2 : fb r1 = .ok (.val (.int j)) r2) : cBin gEq fa fb r = .ok (.val (.bl (decide (i = j)))) r2 := bin_ok h1 h2 (g2_ok rfl rfl q_eqI rfl)
theorem ne_ok (h1 : fa r = .ok (.val (.int i)) r1) (h2 : fb r1 = .ok (.val (.int j)) r2) : cBin gNe fa fb r = .ok (.val (.bl (!decide (i = j)))) r2 := bin_ok h1 h2 (g2_ok rfl rfl q_neI rfl)
theorem b1_ok {f : D → Option D} {x : R} {d z : D} (h : fa r = .ok x r1) (ho : opd r1 x = some d) (hf : f d = some z) (a : atom z = true) : cB (b1 f) (cCons fa cNil) r = .ok (.val z) r1 := by
  rw [q_B, q_cons, h]
  show (b1 f [x] r1) = _
  rw [q_b1, ho]
  show (match f d with | some z => if atom z = true then EO.ok (.val z) r1 else .bad | none => .bad) = _
  rw [hf]
  show (if atom z = true then EO.ok (.val z) r1 else .bad) = _
  rw [if_pos a]
/-- one of a display's numbers -/
theorem ixd_ok {o : Bool} {xs : List Int} {n : Nat} (h1 : fa r = .ok (.val (.node .lst o (xs.map .int))) r1) (h2 : fb r1 = .ok (.val (.int (n : Int))) r2) (hn : n < xs.length) : cBin gIx fa fb r = .ok (.val (.int xs[n])) r2 := by
  refine bin_ok h1 h2 ?_
  rw [q_ix]
  show (match atI (xs.map D.int) (n : Int) with | some d => pick r2 _ d | none => EO.bad) = _
  rw [at_map hn]
  rfl
theorem ifs_yes {fa : Ev} {f g : Sv} {o : SO} (h : fa r = .ok (.val (.bl true)) r1) (h2 : f r1 = o) : cIfS fa f g r = o := ifs_ok h h2
theorem ifs_not {fa : Ev} {f g : Sv} {o : SO} (h : fa r = .ok (.val (.bl false)) r1) (h2 : g r1 = o) : cIfS fa f g r = o := ifs_ok h h2
theorem ret_ok {fa : Ev} {x : R} (h : fa r = .ok x r1) : cRet fa r = .rt x r1 := by
  rw [q_ret, h]; rfl
end
theorem pow_ok (i j : Int) (h : powOk i j = true) (r : Rho) : gPow (.val (.int i)) (.val (.int j)) r = .ok (.val (.int (i ^ j.toNat))) r :=
  g2_ok rfl rfl (by rw [q_fI, if_pos h]) rfl
/-- what a whole def answers -/
theorem runF_ok {n : Nat} {f : Sv} {ds : List D} {x : R} {r : Rho} {d : D} (h : f (startR n ds) = .rt x r) (ho : opd r x = some d) : runF n f ds = .ok d := by
  unfold runF
  rw [h]
  show (match opd r x with | some d => FO.ok d | none => .bad) = _
  rw [ho]
end VL

namespace VL
open PySem PySem.Spec PyProof.Rows L2
/-! ### a walk over a name's own list, which stays one's own -/
def Fc.pinned (C : Fc) (i : Nat) (v : V) : Fc := ⟨C.H0, C.io, C.fo, (i, v) :: C.pin⟩
section
variable {X : Cx} {G : GX} {C : Fc} {W : WX} {ow ow' : Ow} {r : Rho} {T T1 T2 : List (D × V)} {s : L2.St} {H H' : Hp} {fa fb fc : Ev} {f g : Sv}
theorem StW.unpin {i : Nat} {v : V} (S : StW G (C.pinned i v) ow r T s H) : StW G C ow r T s H := ⟨S.len, S.sl, S.tm, S.old, S.own, S.fo, S.mu, fun p hp => S.pin p (List.mem_cons_of_mem _ hp)⟩
theorem StOk.unpin {i : Nat} {v : V} (S : StOk G (C.pinned i v) r T s H) : StOk G C r T s H := let ⟨ow, W⟩ := S; ⟨ow, W.unpin⟩
theorem StW.pinned {i : Nat} {v : V} (S : StW G C ow r T s H) (e : s[i]? = some (some v)) : StW G (C.pinned i v) ow r T s H := ⟨S.len, S.sl, S.tm, S.old, S.own, S.fo, S.mu, fun p hp => by
  rcases List.mem_cons.mp hp with z | z
  · rw [z]; exact e
  · exact S.pin p z⟩
theorem Post.unpin {i : Nat} {v u : V} {x : R} (P : Post G (C.pinned i v) r T s H x u) : Post G C r T s H x u := ⟨P.1.unpin, P.2⟩
theorem pinC {i j : Nat} {v : V} (h : ∀ p ∈ C.pin, p.1 ≠ j) (hn : i ≠ j) : ∀ p ∈ (C.pinned i v).pin, p.1 ≠ j := fun p hp => by
  rcases List.mem_cons.mp hp with z | z
  · rw [z]; exact hn
  · exact h p z
theorem pinCo {i : Nat} {l : List Nat} {v : V} (h : ∀ p ∈ C.pin, p.1 ∉ l) (hn : i ∉ l) : ∀ p ∈ (C.pinned i v).pin, p.1 ∉ l := fun p hp => by
  rcases List.mem_cons.mp hp with z | z
  · rw [z]; exact hn
  · exact h p z
def forO (i n : Nat) (t : Tg) (f : Sv) : Nat → Rho → SO
  | 0, r => (match r[i]? with
    | some (some (.node .lst true ds)) => if ds.length = n then .nx r else .bad
    | _ => .bad)
  | k + 1, r => (match r[i]? with
    | some (some (.node .lst true ds)) => if ds.length = n then (match ds[n - (k + 1)]? with
      | some d => (match tgt t (frz d) (r.set i (some (.node .lst true (frzs ds)))) with
        | none => .bad
        | some r1 => (match f r1 with
          | .nx r2 => forO i n t f k r2
          | .ct r2 => forO i n t f k r2
          | .bk r2 => .nx r2
          | o => o))
      | none => .bad) else .bad
    | _ => .bad)
/-- for t in a name's own list -/
def cForO (i : Nat) (t : Tg) (f : Sv) : Sv := fun r => match r[i]? with
  | some (some (.node .lst true ds)) => forO i ds.length t f ds.length r
  | _ => .bad
theorem vs_forO {i : Nat} {x : Str} {p : Pos} {tg : Expr} {body : List Stmt} {t : Tg} {pos : Pos} (hp : PassesOwn (model X.prog X.w) X.A X.env X.xe) (hc : X.calm = true) (hN : X.N[i]? = some x) (hv : Vis X.env.scope x) (hd : (x == ("__debug__" : Str)) = false) (hcd : (x == ("__classdict__" : Str)) = false)
    (hg : ∀ a, VG X G (C.pinned i (.ref a)) tg t) (hb : ∀ a, VSs X G (C.pinned i (.ref a)) W body f)
    (hs : ∀ y, foldedSetIterable (.Name x p) X.env y = pure y := by intro _; rfl) : VS X G C W (.For tg (.Name x p) body [] pos) (cForO i t f) := by
  have hg' : PG X tg (fun v s H Q => ∃ a, tVG G (C.pinned i (.ref a)) t v s H Q) := ⟨fun pins s σ H v u Q I rr w => by
    obtain ⟨a, w⟩ := w
    exact (hg a).run pins s σ H v u Q I rr w⟩
  have hb' : PSs X body (fun D s H => ∃ a, tVS G (C.pinned i (.ref a)) W f D s H) := ⟨fun pins s σ H D I w => by
    obtain ⟨a, w⟩ := w
    exact (hb a).run pins s σ H D I w⟩
  refine PS.imp (ps_for hp hc (pi_list (pe_var hN hv hd hcd)) hg' hb' hs) fun D s H h => ?_
  obtain ⟨r, T, S, h⟩ := h
  unfold cForO at h
  split at h
  · rename_i ds0 q0
    obtain ⟨ow, S⟩ := S
    obtain ⟨v, z1, a, vs, ev, z2, z3, z4⟩ := S.sl i _ q0
    subst ev
    refine ⟨_, z1, a, rfl, ⟨vs, SqL.of z2⟩, ?_⟩
    refine ⟨fun j m s' H' => m = ds0.length - j ∧ j ≤ ds0.length ∧ ∃ r', StOk G (C.pinned i (.ref a)) r' T s' H' ∧ GoesS G C W T D (forO i ds0.length t f (ds0.length - j) r'), ⟨ds0.length, by simp, Nat.zero_le _, r, ⟨ow, S.pinned z1⟩, by simpa using h⟩, ?_⟩
    rintro j m s' H' ⟨rfl, hj, r', ⟨ow', S'⟩, h'⟩
    have hpin := S'.pin (i, .ref a) List.mem_cons_self
    by_cases hlt : j < ds0.length
    · obtain ⟨k, hk⟩ : ∃ k, ds0.length - j = k + 1 := ⟨ds0.length - j - 1, by omega⟩
      rw [hk] at h'
      unfold forO at h'
      split at h'
      · rename_i ds q
        split at h'
        · rename_i hl
          have ej : ds0.length - (k + 1) = j := by omega
          rw [ej] at h'
          split at h'
          · rename_i d hd'
            obtain ⟨ow2, a2, vs2, w1, hA, S2, q2, rx, _, _⟩ := S'.mine q
            rw [hpin] at w1
            cases w1
            have hdf : (frzs ds)[j]? = some (frz d) := by rw [frzs_map, List.getElem?_map, hd']; rfl
            obtain ⟨y, y1, y2⟩ := (rx ⟨.fo, []⟩).get j _ hdf
            refine .inr ⟨⟨vs2, y, SqL.of hA, y1⟩, fun s2 H2 => ∃ r2, StOk G (C.pinned i (.ref a)) r2 T s2 H2 ∧ GoesS G C W T D (forO i ds0.length t f (ds0.length - (j + 1)) r2), fun s2 H2 n2 => ⟨ds0.length - (j + 1), by omega, rfl, hlt, n2⟩, fun x H2 yl => ?_⟩
            obtain ⟨e1, e2⟩ := yl
            subst e1
            have ex := e2 vs2 (SqL.of hA)
            rw [y1] at ex
            cases ex
            have kk : ds0.length - (j + 1) = k := by omega
            rw [kk]
            refine ⟨a, r'.set i (some (.node .lst true (frzs ds))), T, frz d, ⟨ow2, S2.push (Rep.moveF _ (frz_frz d) (fun _ _ z q => ⟨z, q⟩) (fun _ _ z _ => z) y2)⟩, ?_⟩
            split at h'
            · exact h'.elim
            · rename_i r1 et
              rw [et]
              intro s3 H3 S3 _
              refine ⟨a, r1, T, S3, ?_⟩
              cases e3 : f r1 with
              | nx r3 => simp only [e3] at h'; exact fun s4 H4 S4 => ⟨r3, S4, h'⟩
              | ct r3 => simp only [e3] at h'; exact fun s4 H4 S4 => ⟨r3, S4, h'⟩
              | bk r3 => simp only [e3] at h'; exact fun s4 H4 S4 => h' s4 H4 S4.unpin
              | rt x r3 => simp only [e3] at h'; exact fun s4 v H4 P4 => h' s4 v H4 P4.unpin
              | exc c r3 => simp only [e3] at h'; exact fun s4 H4 S4 => h' s4 H4 S4.unpin
              | bad => simp only [e3] at h'; exact h'.elim
          · exact h'.elim
        · exact h'.elim
      · exact h'.elim
    · have ej : j = ds0.length := by omega
      subst ej
      rw [Nat.sub_self] at h'
      unfold forO at h'
      split at h'
      · rename_i ds q
        split at h'
        · rename_i hl
          obtain ⟨v2, w1, a2, vs2, ev2, w2, w3, w4⟩ := S'.sl i _ q
          rw [hpin] at w1
          cases w1
          cases ev2
          exact .inl ⟨⟨vs2, SqL.of w2, by rw [← w4.length]; omega⟩, h' s' H' ⟨ow', S'.unpin⟩⟩
        · exact h'.elim
      · exact h'.elim
  · exact h.elim
end
/-- a turn of it -/
theorem forO_cons {i n k : Nat} {t : Tg} {f : Sv} {d : D} {ds : List D} {r r1 r2 : Rho} (h : r[i]? = some (some (.node .lst true ds))) (hf : frzs ds = ds) (hn : ds.length = n) (hd : ds[n - (k + 1)]? = some d) (fd : frz d = d) (h1 : tgt t d r = some r1) (h2 : f r1 = .nx r2) : forO i n t f (k + 1) r = forO i n t f k r2 := by
  show (match r[i]? with | some (some (.node .lst true ds)) => _ | _ => _) = _
  rw [h]
  show (if ds.length = n then (match ds[n - (k + 1)]? with | some d => (match tgt t (frz d) (r.set i (some (.node .lst true (frzs ds)))) with | none => SO.bad | some r1 => (match f r1 with | .nx r2 => forO i n t f k r2 | .ct r2 => forO i n t f k r2 | .bk r2 => .nx r2 | o => o)) | none => .bad) else .bad) = _
  rw [if_pos hn, hd, hf]
  show (match tgt t (frz d) (r.set i (some (.node .lst true ds))) with | none => SO.bad | some r1 => (match f r1 with | .nx r2 => forO i n t f k r2 | .ct r2 => forO i n t f k r2 | .bk r2 => .nx r2 | o => o)) = _
  rw [fd, set_same h, h1]
  show (match f r1 with | .nx r2 => forO i n t f k r2 | .ct r2 => forO i n t f k r2 | .bk r2 => .nx r2 | o => o) = _
  rw [h2]
theorem forO_nil {i n : Nat} {t : Tg} {f : Sv} {ds : List D} {r : Rho} (h : r[i]? = some (some (.node .lst true ds))) (hn : ds.length = n) : forO i n t f 0 r = .nx r := by
  show (match r[i]? with | some (some (.node .lst true ds)) => _ | _ => _) = _
  rw [h]
  show (if ds.length = n then SO.nx r else .bad) = _
  rw [if_pos hn]
/-- a loop that only looks: each part is found well, and nothing but the loop's name is changed -/
theorem forO_look {i j : Nat} {f : Sv} {ds : List D} {r : Rho} (hi : i ≠ j) (h : r[i]? = some (some (.node .lst true ds))) (hf : frzs ds = ds) (hb : ∀ d ∈ ds, ∀ r' : Rho, (∃ x, r' = r.set j x) → f (r'.set j (some d)) = .nx (r'.set j (some d))) : ∃ x, cForO i (.nm j) f r = .nx (r.set j x) := by
  have go : ∀ (k : Nat), k ≤ ds.length → ∀ y : Option D, ∃ x, forO i ds.length (.nm j) f k (r.set j y) = .nx (r.set j x) := by
    intro k
    induction k with
    | zero => exact fun _ y => ⟨y, forO_nil (by rw [List.getElem?_set_ne (Ne.symm hi)]; exact h) rfl⟩
    | succ k ih =>
      intro hk y
      have hlt : ds.length - (k + 1) < ds.length := by omega
      have hd : ds[ds.length - (k + 1)]? = some ds[ds.length - (k + 1)] := List.getElem?_eq_getElem hlt
      have fd : frz ds[ds.length - (k + 1)] = ds[ds.length - (k + 1)] := by
        have := congrArg (·[ds.length - (k + 1)]?) hf
        simp only [frzs_map, List.getElem?_map, hd, Option.map_some] at this
        exact Option.some.inj this
      obtain ⟨x, e⟩ := ih (by omega) (some ds[ds.length - (k + 1)])
      refine ⟨x, (forO_cons (r1 := (r.set j y).set j (some ds[ds.length - (k + 1)])) (by rw [List.getElem?_set_ne (Ne.symm hi)]; exact h) hf rfl hd fd rfl (hb _ (List.getElem_mem hlt) _ ⟨y, rfl⟩)).trans ?_⟩
      rw [List.set_set]
      exact e
  show ∃ x, (match r[i]? with | some (some (.node .lst true ds)) => forO i ds.length (.nm j) f ds.length r | _ => .bad) = _
  rw [h]
  by_cases hj : j < r.length
  · have e : r.set j r[j] = r := by
      refine List.ext_getElem? fun m => ?_
      by_cases hm : j = m
      · subst hm; rw [List.getElem?_set_self hj, List.getElem?_eq_getElem hj]
      · rw [List.getElem?_set_ne hm]
    obtain ⟨x, z⟩ := go ds.length (Nat.le_refl _) r[j]
    rw [e] at z
    exact ⟨x, z⟩
  · have e : ∀ y, r.set j y = r := fun y => List.set_eq_of_length_le (by omega)
    obtain ⟨x, z⟩ := go ds.length (Nat.le_refl _) none
    rw [e] at z
    exact ⟨x, z⟩
end VL

namespace VL
open PySem PySem.Spec PyProof.Rows L2
section
variable {X : Cx} {G : GX} {C : Fc} {W : WX} {ow ow' : Ow} {r : Rho} {T T1 T2 : List (D × V)} {s : L2.St} {H H' : Hp} {fa fb fc : Ev} {f g : Sv} {fs : Av}
/-! ### enumerate(list) -/
def enumD : Nat → List D → List D
  | _, [] => []
  | n, d :: ds => .node .tup false [.int (n : Nat), d] :: enumD (n + 1) ds
theorem enumD_get : ∀ (ds : List D) (n i : Nat), (enumD n ds)[i]? = (ds[i]?).map fun d => D.node .tup false [.int ((n + i : Nat) : Int), d]
  | [], n, i => by simp [enumD]
  | d :: ds, n, 0 => by simp [enumD]
  | d :: ds, n, i + 1 => by
    show (enumD (n + 1) ds)[i]? = _
    rw [enumD_get ds (n + 1) i, List.getElem?_cons_succ, show n + 1 + i = n + (i + 1) by omega]
theorem enumD_length : ∀ (ds : List D) (n : Nat), (enumD n ds).length = ds.length
  | [], n => rfl
  | d :: ds, n => by show (enumD (n + 1) ds).length + 1 = ds.length + 1; rw [enumD_length ds (n + 1)]
theorem frz_at {ds : List D} {i : Nat} {d : D} (e : frzs ds = ds) (h : ds[i]? = some d) : frz d = d := by
  have := congrArg (·[i]?) e
  simp only [frzs_map, List.getElem?_map, h, Option.map_some] at this
  exact Option.some.inj this
theorem cur_enum {K : PySem.W.Frag} {k : Kd} {ds : List D} {a : Addr} (hk : ∀ H vs, Holds G H a k vs → SqL K H a vs) (e : frzs ds = ds) : CurOk G C (Ite K a) (enumD 0 ds) fun _ => [(.node k false ds, .ref a)] := by
  refine ⟨fun i d r T s H hd S => ?_, fun r T s H S => ?_⟩
  · rw [enumD_get, Nat.zero_add] at hd
    cases h : ds[i]? with
    | none => rw [h] at hd; cases hd
    | some d0 =>
      rw [h] at hd
      cases hd
      obtain ⟨ow, S⟩ := S
      obtain ⟨a', vs, ev, h1, h2, h3⟩ := S.last
      cases ev
      obtain ⟨x, x1, x2⟩ := h3.get i d0 h
      refine ⟨⟨vs, x, hk H vs h1, x1⟩, fun v H' y => ?_⟩
      obtain ⟨p, x', ev, hp, eH, hx⟩ := y
      subst ev eH
      have ex := hx vs (hk H vs h1)
      rw [x1] at ex
      cases ex
      have fd := frz_at e h
      have e' : frzs [D.int (i : Nat), d0] = [D.int (i : Nat), d0] := by show [frz (D.int (i : Nat)), frz d0] = _; rw [fd]; rfl
      exact StOk.alloc false ⟨ow, S.pushFs e' (l := ⟨.fo, []⟩) (i := 0) (vs := [V.int (i : Nat), x]) ⟨_, _, rfl, rfl, _, _, rfl, Rep.moveF _ fd (fun _ _ z q => ⟨z, q⟩) (fun _ _ z _ => z) x2, rfl⟩⟩ rfl hp holds_tup (fun z => nomatch z)
  · obtain ⟨ow, S⟩ := S
    obtain ⟨a', vs, ev, h1, h2, h3⟩ := S.last
    cases ev
    exact ⟨vs, hk H vs h1, by rw [← h3.length, enumD_length]; exact Nat.le_refl _⟩
def gEn (r : Rho) (xs : List R) : IO := match xs with
  | [.val (.node .lst _ ds)] => .ok (enumD 0 (frzs ds)) r
  | [.val (.node .rd _ ds)] => .ok (enumD 0 (frzs ds)) r
  | _ => .bad
theorem vi_enum {e : Expr} {p pos tpos : Pos} {elts : List Expr} {kk : Nat} (hK : G.K = X.K) (hg : Gl X "enumerate") (hm : X.mg "enumerate" = none) (ha : VA X G C W [e] fs) (hs : starEach [e] X.env = [(false, eval e X.env)] := by rfl) : VI X G C W (.Tuple elts kk tpos) (.Call (.Name "enumerate" p) [e] [] pos) (iRng gEn fs) := by
  refine PI.imp (pi_enum hg hm ha hs) fun s H R h => ?_
  obtain ⟨r, T, S, h⟩ := h
  refine tV_rng S h fun xs vs r1 H1 S1 l1 g => ?_
  unfold gEn at g
  split at g
  · rename_i o ds
    obtain ⟨v, ev, lx, ep⟩ := one_arg l1
    rw [ep] at S1
    subst ev
    obtain ⟨ow, S1⟩ := S1
    have S2 := (show StW G C ow r1 (T ++ (D.node .lst o ds, v) :: []) s H1 from S1).frzTm
    obtain ⟨a, vs, ev, h1, h2, h3⟩ := (show StW G C _ r1 (T ++ [(frz (.node .lst o ds), v)]) s H1 from S2).last
    subst ev
    exact ⟨a, vs, rfl, SqL.of h1, g _ _ _ (cur_enum (k := .lst) (fun _ _ z => SqL.of z) (frzs_frzs ds)) ⟨_, S2⟩⟩
  · rename_i o ds
    obtain ⟨v, ev, lx, ep⟩ := one_arg l1
    rw [ep] at S1
    subst ev
    obtain ⟨ow, S1⟩ := S1
    have S2 := (show StW G C ow r1 (T ++ (D.node .rd o ds, v) :: []) s H1 from S1).frzTm
    obtain ⟨a, vs, ev, h1, h2, h3⟩ := (show StW G C _ r1 (T ++ [(frz (.node .rd o ds), v)]) s H1 from S2).last
    subst ev
    exact ⟨a, vs, rfl, hK ▸ h1.seq, g _ _ _ (cur_enum (k := .rd) (fun _ _ z => hK ▸ z.seq) (frzs_frzs ds)) ⟨_, S2⟩⟩
  · exact g.elim
/-! ### list(range(..)) -/
def rgD (a b : Int) : List D := (List.range (b - a).toNat).map fun i => .int (a + (i : Nat))
theorem rgD_ints (a b : Int) : rgD a b = ((List.range (b - a).toNat).map fun i => a + ((i : Nat) : Int)).map D.int := by
  unfold rgD; rw [List.map_map]; rfl
def rgOk (a b : Int) : Bool := within a && within b && decide ((b - a).toNat ≤ 16777216)
def gLr1 (x : R) (r : Rho) : EO := match opd r x with
  | some (.int n) => if rgOk 0 n = true then .ok (.val (.node .lst true (rgD 0 n))) r else .bad
  | _ => .bad
def cListRg1 (fa : Ev) : Ev := fun r => (fa r).bd gLr1
theorem rg_fin {x : List D} {a b : Int} {Q : VK} (S : StW G C ow r T s H) (hq : ∀ v H', Post G C r T s H' (.val (.node .lst true (rgD a b))) v → Q v H') : ∀ p, H p = none → Q (.ref p) (upd H p (.lst (rgV a b))) := by
  refine S.made (l := ⟨.fo, []⟩) (i := 0) (ds := rgD a b) ?_ ?_ hq
  · rw [rgD_ints, frzs_ints]
  · have e : rgV a b = ((List.range (b - a).toNat).map fun i => a + ((i : Nat) : Int)).map V.int := by unfold rgV; rw [List.map_map]; rfl
    rw [rgD_ints, e]
    exact reps_ints _ _ _
theorem rgOk_of {a b : Int} (h : rgOk a b = true) : RgOk a b := by
  unfold rgOk at h
  simp only [Bool.and_eq_true, decide_eq_true_eq] at h
  obtain ⟨⟨h1, h2⟩, h3⟩ := h
  have h1 := VL.within_of h1
  have h2 := VL.within_of h2
  exact ⟨h1.1, h1.2, h2.1, h2.2, by simpa using h3⟩
theorem ve_listRg1 {a : Expr} {p p2 pos pos2 : Pos} (hc : X.calm = true) (hl : Gl X "list") (hlm : X.mg "list" = none) (hg : Gl X "range") (hm : X.mg "range" = none) (ha : VE X G C W a fa)
    (na : starEach [a] X.env = (false, eval a X.env) :: starEach [] X.env := by rfl) (nb : starEach [.Call (.Name "range" p) [a] [] pos] X.env = (false, eval (.Call (.Name "range" p) [a] [] pos) X.env) :: starEach [] X.env := by rfl) : VE X G C W (.Call (.Name "list" p2) [.Call (.Name "range" p) [a] [] pos] [] pos2) (cListRg1 fa) := by
  refine PE.imp (pe_listRg hc hl hlm (prg_1 hg hm ha na) nb) fun s H Q h => ?_
  obtain ⟨r, T, S, g⟩ := h
  refine one S g fun x v r1 H1 P g1 => ?_
  unfold gLr1 at g1
  split at g1
  · rename_i n e1
    split at g1
    · rename_i hr
      obtain ⟨ow, S1⟩ := P.1
      have ev := rep_int (opd_rep (T2 := []) (by simpa using S1) P.2 e1)
      exact ⟨n, ev, rgOk_of hr, rg_fin (x := []) S1.drop g1⟩
    · exact g1.elim
  · exact g1.elim
def gLr2 : G2 := fun x y r => match opd r x, opd r y with
  | some (.int a), some (.int b) => if rgOk a b = true then .ok (.val (.node .lst true (rgD a b))) r else .bad
  | _, _ => .bad
def cListRg2 (fa fb : Ev) : Ev := cBin gLr2 fa fb
theorem ve_listRg2 {a b : Expr} {p p2 pos pos2 : Pos} (hc : X.calm = true) (hl : Gl X "list") (hlm : X.mg "list" = none) (hg : Gl X "range") (hm : X.mg "range" = none) (ha : VE X G C W a fa) (hb : VE X G C W b fb)
    (na : starEach [a, b] X.env = (false, eval a X.env) :: starEach [b] X.env := by rfl) (nb : starEach [b] X.env = (false, eval b X.env) :: starEach [] X.env := by rfl) (hp : (backTo pos (starEach [b] X.env)).any (·.1) = false := by rfl)
    (nc : starEach [.Call (.Name "range" p) [a, b] [] pos] X.env = (false, eval (.Call (.Name "range" p) [a, b] [] pos) X.env) :: starEach [] X.env := by rfl) : VE X G C W (.Call (.Name "list" p2) [.Call (.Name "range" p) [a, b] [] pos] [] pos2) (cListRg2 fa fb) := by
  refine PE.imp (pe_listRg hc hl hlm (prg_2 hg hm ha hb na nb hp) nc) fun s H Q h => ?_
  obtain ⟨r, T, S, g⟩ := h
  refine two S g fun x y v u r2 H2 S2 lx ly g2 => ?_
  unfold gLr2 at g2
  split at g2
  · rename_i a' b' e1 e2
    split at g2
    · rename_i hr
      obtain ⟨ow, S2⟩ := S2
      have ev := rep_int (opd_rep S2 lx e1)
      have eu := rep_int (opd_rep (T := T ++ pushR x v) (T2 := []) (by rw [List.append_nil, List.append_assoc]; exact S2) ly e2)
      exact ⟨a', b', ev, eu, rgOk_of hr, rg_fin (x := []) S2.drop g2⟩
    · exact g2.elim
  · exact g2.elim
/-! ### xs.remove(k), xs.insert(i, k), xs.count(k) of whole numbers -/
def remK (i : Nat) (x : R) (r1 : Rho) : EO := match opd r1 x, r1[i]? with
  | some (.int k), some (some (.node .lst true ds)) => (match intsOf ds with
    | some ns => (match ns.findIdx? (fun n => n == k) with
      | some j => .ok (.val .non) ((r1.set i (some (.node .lst true (frzs ds)))).set i (some (.node .lst true ((ns.eraseIdx j).map .int))))
      | none => .bad)
    | none => .bad)
  | _, _ => .bad
def cRem (i : Nat) (fa : Ev) : Ev := fun r => if isLst r i = true then (fa r).bd (remK i) else .bad
theorem frzs_ints_of {ds : List D} {ns : List Int} (e : intsOf ds = some ns) : frzs ds = ds := by rw [intsOf_eq e, frzs_ints]
theorem ve_rem {i : Nat} {x : Str} {e : Expr} {p apos cpos : Pos} (hN : X.N[i]? = some x) (hv : Vis X.env.scope x) (hd : (x == ("__debug__" : Str)) = false) (hcd : (x == ("__classdict__" : Str)) = false) (ha : VE X G C W e fa)
    (hbase : attributeBase (.Name x p) "remove" X.env (eval (.Name x p) X.env) = eval (.Name x p) X.env := by rfl)
    (hfew : ((backTo cpos (starEach [e] X.env)).all (fun x => !x.1) && (backToKw cpos (keywordEach [] X.env)).all (fun x => x.1.isSome)
      && decide ([e].length + ([] : List Keyword).length + (if ([] : List Keyword).isEmpty then 0 else 1) < 30)) = true := by rfl)
    (hline : (apos.endLine == cpos.line) = true := by rfl) (hs : starEach [e] X.env = (false, eval e X.env) :: starEach [] X.env := by rfl) (hplain : (backTo cpos (starEach [] X.env)).any (·.1) = false := by rfl) :
    VE X G C W (.Call (.Attribute (.Name x p) "remove" apos) [e] [] cpos) (cRem i fa) := by
  refine PE.imp (pe_bm PySem.F.plainAttrs_list PySem.F.slot_list_remove PySem.F.type_list_remove mt_remove (pe_var hN hv hd hcd) (pa_cons ha pa_nil hs) hbase hfew hline hs hplain) fun s H Q h => ?_
  obtain ⟨r, T, S, g⟩ := h
  have g : Goes G C W T s Q (cRem i fa r) := g
  unfold cRem at g
  split at g
  · rename_i hi
    obtain ⟨o, ds, hr⟩ := isLst_at hi
    obtain ⟨ow, S0⟩ := S
    obtain ⟨v, v1, a, vs, ev, v2, v3, v4⟩ := S0.sl i _ hr
    subst ev
    refine ⟨_, v1, .inl ⟨rfl, vs, SqL.of v2⟩, ?_⟩
    refine one (fa := fa) ⟨ow, S0⟩ g fun x v' r1 H1 P g1 => ?_
    unfold remK at g1
    split at g1
    · rename_i k ds2 e1 q
      split at g1
      · rename_i ns e2
        split at g1
        · rename_i j hj
          obtain ⟨ow1, S1⟩ := P.1
          have ek := rep_int (opd_rep (T2 := []) (by simpa using S1) P.2 e1)
          obtain ⟨ow3, a', vs', z1, hA, S3, q3, rx, hn3, oa⟩ := S1.drop.mine q
          rw [v1] at z1
          cases z1
          have ev := ints_rep (by rw [frzs_ints_of e2]; exact e2) (rx ⟨.fo, []⟩)
          obtain ⟨hj1, hj2, hj3⟩ := List.findIdx?_eq_some_iff_getElem.mp hj
          have S4 := S3.relist (o' := true) (ds' := (ns.eraseIdx j).map .int) (vs' := (ns.eraseIdx j).map V.int) (l := ⟨.fo, []⟩) (n := 0) q3 v1 (frzs_ints _) (reps_ints _ _ _)
          refine ⟨a, ns, k, j, rfl, by rw [ek], by rw [← ev]; exact hA, ?_, fun m hm hm2 => ?_, g1 _ _ ⟨StOk.pushN ⟨_, S4⟩, trivial⟩⟩
          · rw [List.getElem?_eq_getElem hj1]
            have : ns[j] = k := by simpa using hj2
            rw [this]
          · obtain ⟨h1, h2⟩ := List.getElem?_eq_some_iff.mp hm2
            have := hj3 m hm
            rw [h2] at this
            simp at this
        · exact g1.elim
      · exact g1.elim
    · exact g1.elim
  · exact g.elim
/-- what a scalar is told as -/
theorem rep_atomAny {d : D} {v : V} {l l' : Loc} (a : atom d = true) (h : Rep G ow H d l v) : Rep G ow' H d l' v := by
  cases d with
  | any => trivial
  | node k o xs => cases a
  | _ => exact h
def insK (i : Nat) (x y : R) (r1 : Rho) : EO := match opd r1 x, opd r1 y, r1[i]? with
  | some (.int k), some d, some (some (.node .lst true ds)) => if atom d = true ∧ 0 ≤ k ∧ k.natAbs < 2 ^ 62 ∧ ds.length < 16777216 then .ok (.val .non) ((r1.set i (some (.node .lst true (frzs ds)))).set i (some (.node .lst true ((frzs ds).take k.toNat ++ [d] ++ (frzs ds).drop k.toNat)))) else .bad
  | _, _, _ => .bad
/-- xs.insert(k, e), e a scalar -/
def cIns (i : Nat) (fa fb : Ev) : Ev := fun r => if isLst r i = true then (fa r).bd fun x r1 => (fb r1).bd (insK i x) else .bad
theorem ve_ins {i : Nat} {x : Str} {e e2 : Expr} {p apos cpos : Pos} (hN : X.N[i]? = some x) (hv : Vis X.env.scope x) (hd : (x == ("__debug__" : Str)) = false) (hcd : (x == ("__classdict__" : Str)) = false) (ha : VE X G C W e fa) (hb : VE X G C W e2 fb)
    (hbase : attributeBase (.Name x p) "insert" X.env (eval (.Name x p) X.env) = eval (.Name x p) X.env := by rfl)
    (hfew : ((backTo cpos (starEach [e, e2] X.env)).all (fun x => !x.1) && (backToKw cpos (keywordEach [] X.env)).all (fun x => x.1.isSome)
      && decide ([e, e2].length + ([] : List Keyword).length + (if ([] : List Keyword).isEmpty then 0 else 1) < 30)) = true := by rfl)
    (hline : (apos.endLine == cpos.line) = true := by rfl) (hs : starEach [e, e2] X.env = (false, eval e X.env) :: starEach [e2] X.env := by rfl) (hs2 : starEach [e2] X.env = (false, eval e2 X.env) :: starEach [] X.env := by rfl) (hplain : (backTo cpos (starEach [e2] X.env)).any (·.1) = false := by rfl) :
    VE X G C W (.Call (.Attribute (.Name x p) "insert" apos) [e, e2] [] cpos) (cIns i fa fb) := by
  refine PE.imp (pe_bm PySem.F.plainAttrs_list PySem.F.slot_list_insert PySem.F.type_list_insert mt_insert (pe_var hN hv hd hcd) (pa_cons ha (pa_cons hb pa_nil hs2) hs) hbase hfew hline hs hplain) fun s H Q h => ?_
  obtain ⟨r, T, S, g⟩ := h
  have g : Goes G C W T s Q (cIns i fa fb r) := g
  unfold cIns at g
  split at g
  · rename_i hi
    obtain ⟨o, ds, hr⟩ := isLst_at hi
    obtain ⟨ow, S0⟩ := S
    obtain ⟨v, v1, a, vs, ev, v2, v3, v4⟩ := S0.sl i _ hr
    subst ev
    refine ⟨_, v1, .inl ⟨rfl, vs, SqL.of v2⟩, ?_⟩
    refine two (fa := fa) (fb := fb) ⟨ow, S0⟩ g fun x y v' u r1 H1 P lx ly g1 => ?_
    unfold insK at g1
    split at g1
    · rename_i k d ds2 e1 e2 q
      split at g1
      · rename_i hz
        obtain ⟨az, k0, k1, hl⟩ := hz
        obtain ⟨ow1, S1⟩ := P
        have ek := rep_int (opd_rep S1 lx e1)
        have ed := opd_rep (T := T ++ pushR x v') (T2 := []) (by rw [List.append_nil, List.append_assoc]; exact S1) ly e2
        obtain ⟨ow3, a', vs', z1, hA, S3, q3, rx, hn3, oa⟩ := S1.drop.mine q
        rw [v1] at z1
        cases z1
        have l1 := (rx ⟨.fo, []⟩).length
        have fd : frz d = d := by
          cases d with
          | node k o xs => cases az
          | _ => rfl
        have ft : frzs ((frzs ds2).take k.toNat) = (frzs ds2).take k.toNat := by rw [frzs_map, List.map_take, ← frzs_map, frzs_frzs]
        have fdr : frzs ((frzs ds2).drop k.toNat) = (frzs ds2).drop k.toNat := by rw [frzs_map, List.map_drop, ← frzs_map, frzs_frzs]
        have f1 : frzs [d] = [d] := by show [frz d] = _; rw [fd]
        have rt : Reps G ow3 H1 ((frzs ds2).take k.toNat) ⟨.fo, []⟩ 0 (vs'.take k.toNat) := Reps.of_get (by rw [List.length_take, List.length_take, l1]) fun j dj vj q1 q2 => by
          have hj : j < k.toNat := by
            have := (List.getElem?_eq_some_iff.mp q1).1
            rw [List.length_take] at this; omega
          rw [List.getElem?_take_of_lt hj] at q1 q2
          obtain ⟨v', w1, w2⟩ := (rx ⟨.fo, []⟩).get j dj q1
          rw [q2] at w1
          cases w1
          exact w2
        have rdr : Reps G ow3 H1 ((frzs ds2).drop k.toNat) ⟨.fo, []⟩ 0 (vs'.drop k.toNat) := Reps.of_get (by rw [List.length_drop, List.length_drop, l1]) fun j dj vj q1 q2 => by
          rw [List.getElem?_drop] at q1 q2
          obtain ⟨v', w1, w2⟩ := (rx ⟨.fo, []⟩).get _ dj q1
          rw [q2] at w1
          cases w1
          exact Rep.moveF _ (frz_at (frzs_frzs ds2) q1) (fun _ _ z q => ⟨z, q⟩) (fun _ _ z _ => z) w2
        have r1' : Reps G ow3 H1 [d] ⟨.fo, []⟩ 0 [u] := ⟨_, _, rfl, rep_atomAny az ed, rfl⟩
        have ra := Reps.app (by rw [frzs_append, ft, f1]) fdr (Reps.app ft f1 rt r1') rdr
        have S4 := S3.relist (o' := true) q3 v1 (by rw [frzs_append, frzs_append, ft, f1, fdr]) ra
        rw [frzs_length] at l1
        exact ⟨a, vs', k, u, rfl, by rw [ek], hA, by rw [sizeLine_eq, ← l1]; exact hl, k0, by omega, g1 _ _ ⟨StOk.pushN ⟨_, S4⟩, trivial⟩⟩
      · exact g1.elim
    · exact g1.elim
  · exact g.elim
def gCount : G2 := fun x y r => match opd r x, opd r y with
  | some (.node .lst _ ds), some (.int k) => (match intsOf ds with
    | some ns => .ok (.val (.int (ns.count k : Nat))) r
    | none => .bad)
  | _, _ => .bad
def cCount (i : Nat) (fa : Ev) : Ev := fun r => if isLst r i = true then cBin gCount (cVar i) fa r else .bad
theorem ve_count {i : Nat} {x : Str} {e : Expr} {p apos cpos : Pos} (hN : X.N[i]? = some x) (hv : Vis X.env.scope x) (hd : (x == ("__debug__" : Str)) = false) (hcd : (x == ("__classdict__" : Str)) = false) (ha : VE X G C W e fa)
    (hbase : attributeBase (.Name x p) "count" X.env (eval (.Name x p) X.env) = eval (.Name x p) X.env := by rfl)
    (hfew : ((backTo cpos (starEach [e] X.env)).all (fun x => !x.1) && (backToKw cpos (keywordEach [] X.env)).all (fun x => x.1.isSome)
      && decide ([e].length + ([] : List Keyword).length + (if ([] : List Keyword).isEmpty then 0 else 1) < 30)) = true := by rfl)
    (hline : (apos.endLine == cpos.line) = true := by rfl) (hs : starEach [e] X.env = (false, eval e X.env) :: starEach [] X.env := by rfl) (hplain : (backTo cpos (starEach [] X.env)).any (·.1) = false := by rfl) :
    VE X G C W (.Call (.Attribute (.Name x p) "count" apos) [e] [] cpos) (cCount i fa) := by
  refine PE.imp (pe_bm PySem.F.plainAttrs_list PySem.F.slot_list_count PySem.F.type_list_count mt_lcount (pe_var hN hv hd hcd) (pa_cons ha pa_nil hs) hbase hfew hline hs hplain) fun s H Q h => ?_
  obtain ⟨r, T, S, g⟩ := h
  have g : Goes G C W T s Q (cCount i fa r) := g
  unfold cCount at g
  split at g
  · rename_i hi
    obtain ⟨o, ds, hr⟩ := isLst_at hi
    obtain ⟨ow, S0⟩ := S
    obtain ⟨v, v1, a, vs, ev, v2, v3, v4⟩ := S0.sl i _ hr
    subst ev
    refine ⟨_, v1, .inl ⟨rfl, vs, SqL.of v2⟩, ?_⟩
    rw [show cBin gCount (cVar i) fa r = (fa r).bd fun y r1 => gCount (.loc i) y r1 from by
      show (cVar i r).bd _ = _
      rw [cvar_loc hr rfl]
      rfl] at g
    refine one (fa := fa) ⟨ow, S0⟩ g fun y v' r1 H1 P g1 => ?_
    unfold gCount at g1
    split at g1
    · rename_i o2 ds2 k e1 e2
      split at g1
      · rename_i ns e3
        obtain ⟨ow1, S1⟩ := P.1
        have ek := rep_int (opd_rep (T2 := []) (by simpa using S1) P.2 e2)
        have q := opd_loc e1
        obtain ⟨v2', w1, a2, vs2, ev2, w2, w3, w4⟩ := S1.sl i _ q
        rw [v1] at w1
        cases w1
        cases ev2
        have ev := ints_rep e3 w4
        exact ⟨a, ns, k, rfl, by rw [ek], by rw [← ev]; exact SqL.of w2, g1 _ _ ⟨StOk.pushI _ ⟨_, S1.drop⟩, trivial⟩⟩
      · exact g1.elim
    · exact g1.elim
  · exact g.elim
end
/-! ### sorted(xs) of whole numbers -/
def ins1 (x : Int) : List Int → List Int
  | [] => [x]
  | y :: ys => if x ≤ y then x :: y :: ys else y :: ins1 x ys
def srt : List Int → List Int
  | [] => []
  | x :: xs => ins1 x (srt xs)
theorem ins1_perm (x : Int) : ∀ ys : List Int, (ins1 x ys).Perm (x :: ys)
  | [] => List.Perm.refl _
  | y :: ys => by
    unfold ins1
    split
    · exact List.Perm.refl _
    · exact ((ins1_perm x ys).cons y).trans (List.Perm.swap x y ys)
theorem srt_perm : ∀ xs : List Int, (srt xs).Perm xs
  | [] => List.Perm.refl _
  | x :: xs => (ins1_perm x (srt xs)).trans ((srt_perm xs).cons x)
theorem ins1_up (x : Int) : ∀ ys : List Int, ys.Pairwise (· ≤ ·) → (ins1 x ys).Pairwise (· ≤ ·)
  | [], _ => by simp [ins1]
  | y :: ys, h => by
    unfold ins1
    have h1 := List.pairwise_cons.mp h
    split
    · rename_i hx
      refine List.pairwise_cons.mpr ⟨fun z hz => ?_, h⟩
      rcases List.mem_cons.mp hz with e | e
      · rw [e]; exact hx
      · exact Int.le_trans hx (h1.1 z e)
    · rename_i hx
      refine List.pairwise_cons.mpr ⟨fun z hz => ?_, ins1_up x ys h1.2⟩
      rcases List.mem_cons.mp ((ins1_perm x ys).mem_iff.mp hz) with e | e
      · rw [e]; omega
      · exact h1.1 z e
theorem srt_up : ∀ xs : List Int, (srt xs).Pairwise (· ≤ ·)
  | [] => List.Pairwise.nil
  | x :: xs => ins1_up x _ (srt_up xs)
theorem up_unique : ∀ {xs ys : List Int}, xs.Perm ys → xs.Pairwise (· ≤ ·) → ys.Pairwise (· ≤ ·) → xs = ys
  | [], ys, p, _, _ => by rw [List.nil_perm.mp p]
  | x :: xs, [], p, _, _ => by have := p.length_eq; simp at this
  | x :: xs, y :: ys, p, h1, h2 => by
    have h1' := List.pairwise_cons.mp h1
    have h2' := List.pairwise_cons.mp h2
    have e1 : x ≤ y := by
      rcases List.mem_cons.mp (p.mem_iff.mpr (List.mem_cons_self : y ∈ y :: ys)) with e | e
      · omega
      · exact h1'.1 y e
    have e2 : y ≤ x := by
      rcases List.mem_cons.mp (p.mem_iff.mp (List.mem_cons_self : x ∈ x :: xs)) with e | e
      · omega
      · exact h2'.1 x e
    have e : x = y := Int.le_antisymm e1 e2
    subst e
    rw [up_unique ((List.perm_cons x).mp p) h1'.2 h2'.2]
def gSortedI : List R → Rho → EO := fun xs r => match xs with
  | [x] => (match opd r x with
    | some (.node .lst _ ds) => (match intsOf ds with
      | some ns => .ok (.val (.node .lst true ((srt ns).map .int))) r
      | none => .bad)
    | _ => .bad)
  | _ => .bad
section
variable {X : Cx} {G : GX} {C : Fc} {W : WX} {ow ow' : Ow} {r : Rho} {T T1 T2 : List (D × V)} {s : L2.St} {H H' : Hp} {fa fb fc : Ev} {f g : Sv} {fs : Av}
theorem cs_sortedI : CallS X (.builtin "sorted") gSortedI := by
  refine ⟨_, cr_sortedI, fun G hG C W r T s H xs vs Q S l q => ?_⟩
  unfold gSortedI at q
  split at q
  · rename_i x
    obtain ⟨v, ev, lx, ep⟩ := one_arg l
    rw [ep] at S
    subst ev
    obtain ⟨ow, S⟩ := S
    split at q
    · rename_i o ds e1
      split at q
      · rename_i ns e2
        obtain ⟨a, ws, ev, h1, h2, h3⟩ := opd_rep (T2 := []) (by simpa using S) lx e1
        subst ev
        have ev := ints_rep e2 h3
        refine ⟨a, ns, rfl, by rw [← ev]; exact SqL.of h1, fun ns' p hp up hn => ?_⟩
        have e : ns' = srt ns := up_unique (hp.trans (srt_perm ns).symm) up (srt_up ns)
        subst e
        exact S.drop.made (l := ⟨.fo, []⟩) (i := 0) (frzs_ints _) (reps_ints _ _ _) q p hn
      · exact q.elim
    · exact q.elim
  · exact q.elim
/-! ### max(xs), min(xs), all(xs) of a list -/
def maxL : List Int → Option Int
  | [] => none
  | x :: xs => some (xs.foldl max x)
def minL : List Int → Option Int
  | [] => none
  | x :: xs => some (xs.foldl min x)
theorem foldl_max (xs : List Int) : ∀ x : Int, x ≤ xs.foldl max x ∧ (∀ y ∈ xs, y ≤ xs.foldl max x) ∧ (xs.foldl max x = x ∨ xs.foldl max x ∈ xs) := by
  induction xs with
  | nil => exact fun x => ⟨Int.le_refl x, fun y hy => by simp at hy, .inl rfl⟩
  | cons z xs ih =>
    intro x
    obtain ⟨h1, h2, h3⟩ := ih (max x z)
    refine ⟨Int.le_trans (Int.le_max_left x z) h1, fun y hy => ?_, ?_⟩
    · rcases List.mem_cons.mp hy with e | e
      · rw [e]; exact Int.le_trans (Int.le_max_right x z) h1
      · exact h2 y e
    · rcases h3 with e | e
      · show xs.foldl max (max x z) = x ∨ xs.foldl max (max x z) ∈ z :: xs
        rw [e]
        rcases Int.le_total x z with q | q
        · right; rw [Int.max_eq_right q]; exact List.mem_cons_self
        · left; exact Int.max_eq_left q
      · exact .inr (List.mem_cons_of_mem _ e)
theorem foldl_min (xs : List Int) : ∀ x : Int, xs.foldl min x ≤ x ∧ (∀ y ∈ xs, xs.foldl min x ≤ y) ∧ (xs.foldl min x = x ∨ xs.foldl min x ∈ xs) := by
  induction xs with
  | nil => exact fun x => ⟨Int.le_refl x, fun y hy => by simp at hy, .inl rfl⟩
  | cons z xs ih =>
    intro x
    obtain ⟨h1, h2, h3⟩ := ih (min x z)
    refine ⟨Int.le_trans h1 (Int.min_le_left x z), fun y hy => ?_, ?_⟩
    · rcases List.mem_cons.mp hy with e | e
      · rw [e]; exact Int.le_trans h1 (Int.min_le_right x z)
      · exact h2 y e
    · rcases h3 with e | e
      · show xs.foldl min (min x z) = x ∨ xs.foldl min (min x z) ∈ z :: xs
        rw [e]
        rcases Int.le_total x z with q | q
        · left; exact Int.min_eq_left q
        · right; rw [Int.min_eq_right q]; exact List.mem_cons_self
      · exact .inr (List.mem_cons_of_mem _ e)
def lstInts : D → Option (List Int)
  | .node .lst _ ds => intsOf ds
  | _ => none
def maxD (d : D) : Option D := (lstInts d).bind fun ns => (maxL ns).map .int
def minD (d : D) : Option D := (lstInts d).bind fun ns => (minL ns).map .int
theorem lstInts_rep {d : D} {ns : List Int} {l : Loc} {v : V} (K : PySem.W.Frag) (e : lstInts d = some ns) (h : Rep G ow H d l v) : ∃ a, v = .ref a ∧ SqL K H a (ns.map V.int) := by
  cases d with
  | node k o xs =>
    cases k with
    | lst =>
      obtain ⟨a, vs, ev, h1, h2, h3⟩ := h
      exact ⟨a, ev, by rw [← ints_rep e h3]; exact SqL.of h1⟩
    | _ => cases e
  | _ => cases e
theorem cs_maxL (hc : X.calm = true) : CallS X (.builtin "max") (b1 maxD) := by
  refine CallS.scal (cr_max hc) fun G hG ow H d z l v Q h e q => ?_
  unfold maxD at e
  cases e1 : lstInts d with
  | none => rw [e1] at e; cases e
  | some ns =>
    rw [e1] at e
    obtain ⟨a, ev, hs⟩ := lstInts_rep X.K e1 h
    cases ns with
    | nil => cases e
    | cons x xs =>
      cases e
      refine ⟨a, x :: xs, by rw [ev], hs, by simp, fun m hm hy => ?_⟩
      obtain ⟨h1, h2, h3⟩ := foldl_max xs x
      have e : m = xs.foldl max x := by
        refine Int.le_antisymm ?_ ?_
        · rcases List.mem_cons.mp hm with e | e
          · rw [e]; exact h1
          · exact h2 m e
        · rcases h3 with e | e
          · rw [e]; exact hy x List.mem_cons_self
          · exact hy _ (List.mem_cons_of_mem _ e)
      rw [e]
      exact q _ fun _ _ => rfl
theorem cs_minL (hc : X.calm = true) : CallS X (.builtin "min") (b1 minD) := by
  refine CallS.scal (cr_min hc) fun G hG ow H d z l v Q h e q => ?_
  unfold minD at e
  cases e1 : lstInts d with
  | none => rw [e1] at e; cases e
  | some ns =>
    rw [e1] at e
    obtain ⟨a, ev, hs⟩ := lstInts_rep X.K e1 h
    cases ns with
    | nil => cases e
    | cons x xs =>
      cases e
      refine ⟨a, x :: xs, by rw [ev], hs, by simp, fun m hm hy => ?_⟩
      obtain ⟨h1, h2, h3⟩ := foldl_min xs x
      have e : m = xs.foldl min x := by
        refine Int.le_antisymm ?_ ?_
        · rcases h3 with e | e
          · rw [e]; exact hy x List.mem_cons_self
          · exact hy _ (List.mem_cons_of_mem _ e)
        · rcases List.mem_cons.mp hm with e | e
          · rw [e]; exact h1
          · exact h2 m e
      rw [e]
      exact q _ fun _ _ => rfl
def blsOf : List D → Option (List Bool)
  | [] => some []
  | .bl b :: ds => (match blsOf ds with
    | some bs => some (b :: bs)
    | none => none)
  | _ :: _ => none
theorem bls_rep : ∀ {ds : List D} {bs : List Bool} {l : Loc} {i : Nat} {vs : List V}, blsOf ds = some bs → Reps G ow H ds l i vs → vs = bs.map V.bl
  | [], _, _, _, vs, e, h => by
    cases e
    exact h
  | d :: ds, bs, l, i, vs, e, h => by
    obtain ⟨v, ws, ev, h1, h2⟩ := h
    cases d with
    | bl b =>
      unfold blsOf at e
      cases e2 : blsOf ds with
      | none => rw [e2] at e; cases e
      | some bs' =>
        rw [e2] at e
        cases e
        rw [ev, rep_bl h1, bls_rep e2 h2]
        rfl
    | _ => cases e
theorem blsOf_map (bs : List Bool) : blsOf (bs.map D.bl) = some bs := by
  induction bs with
  | nil => rfl
  | cons b bs ih => show (match blsOf (bs.map D.bl) with | some ms => some (b :: ms) | none => none) = _; rw [ih]
def allD : D → Option D
  | .node .lst _ ds => (blsOf ds).map fun bs => .bl (bs.all id)
  | _ => none
theorem cs_allL (hc : X.calm = true) : CallS X (.builtin "all") (b1 allD) := by
  refine CallS.scal (cr_all hc) fun G hG ow H d z l v Q h e q => ?_
  cases d with
  | node k o xs =>
    cases k with
    | lst =>
      obtain ⟨a, vs, ev, h1, h2, h3⟩ := h
      simp only [allD] at e
      cases e2 : blsOf xs with
      | none => rw [e2] at e; cases e
      | some bs =>
        rw [e2] at e
        cases e
        exact ⟨a, bs, by rw [ev], by rw [← bls_rep e2 h3]; exact SqL.of h1, q _ fun _ _ => rfl⟩
    | _ => cases e
  | _ => cases e
end
end VL

namespace VL
open PySem PySem.Spec PyProof.Rows L2
def chL (g : Int → Int → Bool) (j : Int) (w : R) (r : Rho) : EO := match opd r w with
  | some (.int k) => .ok (.val (.bl (g j k))) r
  | _ => .bad
def chK (f g : Int → Int → Bool) (fc : Ev) (x y : R) (r : Rho) : EO := match opd r x, opd r y with
  | some (.int i), some (.int j) => if f i j = true then (fc r).bd (chL g j) else .ok (.val (.bl false)) r
  | _, _ => .bad
/-- a < b < c of whole numbers -/
def cChain (f g : Int → Int → Bool) (fa fb fc : Ev) : Ev := fun r => (fa r).bd fun x r1 => (fb r1).bd (chK f g fc x)
section
variable {X : Cx} {G : GX} {C : Fc} {W : WX} {ow ow' : Ow} {r : Rho} {T T1 T2 : List (D × V)} {s : L2.St} {H H' : Hp} {fa fb fc : Ev} {fs : Av} {f g : Int → Int → Bool}
theorem chain_in {Q : VK} (h : tV G C W (cChain f g fa fb fc) s H Q) : tChain (rI0 fun i j => .bl (f i j)) (rI0 fun i j => .bl (g i j)) (tV G C W fa) (tV G C W fb) (tV G C W fc) s H Q := by
  obtain ⟨r, T, S, h⟩ := h
  refine two S h fun x y v u r2 H2 S2 lx ly g2 => ?_
  unfold chK at g2
  split at g2
  · rename_i i j e1 e2
    have S2' := S2
    obtain ⟨ow, S2⟩ := S2
    have ev := rep_int (opd_rep S2 lx e1)
    have eu := rep_int (opd_rep (T := T ++ pushR x v) (T2 := []) (by rw [List.append_nil, List.append_assoc]; exact S2) ly e2)
    refine ⟨i, j, ev, eu, f i j, rfl, ?_⟩
    split at g2
    · rename_i hf
      rw [if_pos hf]
      refine one S2'.drop g2 fun w u' r3 H3 P g3 => ?_
      unfold chL at g3
      split at g3
      · rename_i k e3
        obtain ⟨ow3, S3⟩ := P.1
        have ew := rep_int (opd_rep (T2 := []) (by simpa using S3) P.2 e3)
        exact ⟨j, k, eu, ew, g3 _ _ ⟨StOk.pushB _ ⟨_, S3.drop⟩, trivial⟩⟩
      · exact g3.elim
    · rename_i hf
      rw [if_neg hf]
      exact g2 _ _ ⟨StOk.pushB _ S2'.drop, trivial⟩
  · exact g2.elim
theorem ve_chain {op op' : CmpOp} {a b c : Expr} {pos : Pos} (ho : OpR X (compareOp op) (rI0 fun i j => .bl (f i j))) (ho' : OpR X (compareOp op') (rI0 fun i j => .bl (g i j))) (ha : VE X G C W a fa) (hb : VE X G C W b fb) (hc : VE X G C W c fc)
    (hm : lastMarks [op, op'] [b, c] = false := by with_unfolding_all rfl) : VE X G C W (.Compare a [op, op'] [b, c] pos) (cChain f g fa fb fc) :=
  PE.imp (pe_chain ho ho' ha hb hc hm) fun s H Q h => chain_in h
theorem vt_chain {op op' : CmpOp} {a b c : Expr} {pos : Pos} (ho : OpR X (compareOp op) (rI0 fun i j => .bl (f i j))) (ho' : OpR X (compareOp op') (rI0 fun i j => .bl (g i j))) (ha : VE X G C W a fa) (hb : VE X G C W b fb) (hc : VE X G C W c fc)
    (hm : lastMarks [op, op'] [b, c] = false := by with_unfolding_all rfl) : VT X G C W (.Compare a [op, op'] [b, c] pos) (cChain f g fa fb fc) :=
  PT.imp (pt_chain ho ho' ha hb hc hm) fun s H Q h => chain_in (tV_bl h)
end
theorem chain_ok {f g : Int → Int → Bool} {fa fb fc : Ev} {r r1 r2 : Rho} {i j k : Int} (h1 : fa r = .ok (.val (.int i)) r1) (h2 : fb r1 = .ok (.val (.int j)) r2) (h3 : fc r2 = .ok (.val (.int k)) r2) : cChain f g fa fb fc r = .ok (.val (.bl (f i j && g j k))) r2 := by
  unfold cChain
  rw [h1, bd_ok, h2, bd_ok]
  unfold chK
  show (if f i j = true then (fc r2).bd (chL g j) else EO.ok (.val (.bl false)) r2) = _
  rw [h3, bd_ok]
  cases h : f i j with
  | true => rw [if_pos rfl]; rfl
  | false => rw [if_neg (by decide)]; rfl
/-! ### simp lemmas of the new parts -/
@[simp] theorem q_iEn {fs : Av} {r : Rho} {o : Bool} {ds : List D} {r1 : Rho} (h : fs r = .ok [.val (.node .lst o ds)] r1) : iRng gEn fs r = .ok (enumD 0 (frzs ds)) r1 := by
  rw [q_iRng, h]; rfl
theorem it_enum {fa : Ev} {r r1 : Rho} {o : Bool} {ds : List D} (h : fa r = .ok (.val (.node .lst o ds)) r1) (f : frzs ds = ds) : iRng gEn (cCons (cSet fa) cNil) r = .ok (enumD 0 ds) r1 := by
  rw [q_iRng, q_cons, q_set, h, bd_ok]
  show IO.ok (enumD 0 (frzs ds)) r1 = _
  rw [f]
theorem listRg1_ok {fa : Ev} {r r1 : Rho} {n : Int} (h : fa r = .ok (.val (.int n)) r1) (hr : rgOk 0 n = true) : cListRg1 fa r = .ok (.val (.node .lst true (rgD 0 n))) r1 := by
  unfold cListRg1
  rw [h, bd_ok]
  show (if rgOk 0 n = true then _ else _) = _
  rw [if_pos hr]
theorem rem_ok {fa : Ev} {r r1 : Rho} {i j : Nat} {k : Int} {ns : List Int} (hi : isLst r i = true) (h : fa r = .ok (.val (.int k)) r1) (h2 : r1[i]? = some (some (.node .lst true (ns.map .int)))) (hj : ns.findIdx? (fun n => n == k) = some j) : cExpr (cRem i fa) r = .nx (r1.set i (some (.node .lst true ((ns.eraseIdx j).map .int)))) := by
  rw [q_expr]
  unfold cRem
  rw [if_pos hi, h, bd_ok]
  unfold remK
  show (match some (D.int k), r1[i]? with | some (.int k), some (some (.node .lst true ds)) => _ | _, _ => _ : EO).st _ = _
  rw [h2]
  show (match intsOf (ns.map D.int) with | some ns' => (match ns'.findIdx? (fun n => n == k) with | some j => EO.ok (.val .non) ((r1.set i (some (.node .lst true (frzs (ns.map .int))))).set i (some (.node .lst true ((ns'.eraseIdx j).map .int)))) | none => .bad) | none => .bad).st _ = _
  rw [intsOf_map]
  show (match ns.findIdx? (fun n => n == k) with | some j => EO.ok (.val .non) ((r1.set i (some (.node .lst true (frzs (ns.map .int))))).set i (some (.node .lst true ((ns.eraseIdx j).map .int)))) | none => .bad).st _ = _
  rw [hj]
  show SO.nx ((r1.set i _).set i _) = _
  rw [List.set_set]
theorem ins_ok {fa fb : Ev} {r r1 r2 : Rho} {i : Nat} {k : Int} {d : D} {ds : List D} (hi : isLst r i = true) (h1 : fa r = .ok (.val (.int k)) r1) (h2 : fb r1 = .ok (.val d) r2) (h3 : r2[i]? = some (some (.node .lst true ds))) (f : frzs ds = ds) (ha : atom d = true) (hk : 0 ≤ k) (hk2 : k < 1000000000) (hl : ds.length < 16777216) :
    cExpr (cIns i fa fb) r = .nx (r2.set i (some (.node .lst true (ds.take k.toNat ++ [d] ++ ds.drop k.toNat)))) := by
  rw [q_expr]
  unfold cIns
  rw [if_pos hi, h1, bd_ok, h2, bd_ok]
  unfold insK
  show (match some (D.int k), some d, r2[i]? with | some (.int k), some d, some (some (.node .lst true ds)) => _ | _, _, _ => _ : EO).st _ = _
  rw [h3]
  show (if atom d = true ∧ 0 ≤ k ∧ k.natAbs < 2 ^ 62 ∧ ds.length < 16777216 then EO.ok (.val .non) ((r2.set i (some (.node .lst true (frzs ds)))).set i (some (.node .lst true ((frzs ds).take k.toNat ++ [d] ++ (frzs ds).drop k.toNat)))) else .bad).st _ = _
  rw [if_pos ⟨ha, hk, by omega, hl⟩, f, List.set_set]
  rfl
theorem count_ok {fa : Ev} {r : Rho} {i : Nat} {k : Int} {o : Bool} {ns : List Int} (h2 : r[i]? = some (some (.node .lst o (ns.map .int)))) (h : fa r = .ok (.val (.int k)) r) : cCount i fa r = .ok (.val (.int (ns.count k : Nat))) r := by
  unfold cCount
  have hi : isLst r i = true := by rw [q_isLst, h2]
  rw [if_pos hi]
  refine bin_ok (cvar_loc h2 rfl) h ?_
  unfold gCount
  rw [opd_loc' h2]
  show (match intsOf (ns.map D.int) with | some ns => EO.ok (.val (.int (ns.count k : Nat))) r | none => .bad) = _
  rw [intsOf_map]
theorem sortedI_ok {fa : Ev} {r r1 : Rho} {x : R} {o : Bool} {ns : List Int} (h : fa r = .ok x r1) (ho : opd r1 x = some (.node .lst o (ns.map .int))) : cB gSortedI (cCons fa cNil) r = .ok (.val (.node .lst true ((srt ns).map .int))) r1 := by
  rw [q_B, q_cons, h]
  show (match opd r1 x with | some (.node .lst _ ds) => (match intsOf ds with | some ns => EO.ok (.val (.node .lst true ((srt ns).map .int))) r1 | none => .bad) | _ => .bad) = _
  rw [ho]
  show (match intsOf (ns.map D.int) with | some ns => EO.ok (.val (.node .lst true ((srt ns).map .int))) r1 | none => .bad) = _
  rw [intsOf_map]
theorem index_ok {fa : Ev} {r : Rho} {i j : Nat} {k : Int} {o : Bool} {ns : List Int} (h2 : r[i]? = some (some (.node .lst o (ns.map .int)))) (h : fa r = .ok (.val (.int k)) r) (hj : ns.findIdx? (fun n => n == k) = some j) : cIdx i fa r = .ok (.val (.int j)) r := by
  rw [q_idx, if_pos (by rw [q_isLst, h2])]
  refine bin_ok (cvar_loc h2 rfl) h ?_
  rw [q_gIndex, opd_loc' h2]
  show (if (flatD (.int k) && (ns.map D.int).all flatD) = true then (match idxD (ns.map D.int) (.int k) with | some j => EO.ok (.val (.int (j : Nat))) r | none => .bad) else .bad) = _
  rw [flat_ints, idx_ints, hj]
  rfl
end VL

namespace VL
open PySem PySem.Spec PyProof.Rows L2
/-! ### a comprehension over a name's own list, which stays one's own -/
def lcO (i n : Nat) (t : Tg) (fc : Option Ev) (fe : Ev) (vs : List Nat) : Nat → List D → Rho → LO
  | 0, acc, r => (match r[i]? with
    | some (some (.node .lst true ds)) => if ds.length = n then .ok acc r else .bad
    | _ => .bad)
  | k + 1, acc, r => (match r[i]? with
    | some (some (.node .lst true ds)) => if ds.length = n then (match ds[n - (k + 1)]? with
      | some d => (match tgt t (frz d) (r.set i (some (.node .lst true (frzs ds)))) with
        | none => .bad
        | some r1 => (match tstR fc r1 with
          | .ok (.val (.bl true)) r2 => (match cSet fe r2 with
            | .ok (.val e) r3 => if acc.length < 16777216 then lcO i n t fc fe vs k (acc ++ [e]) (wipeR r3 vs) else .bad
            | _ => .bad)
          | .ok (.val (.bl false)) r2 => lcO i n t fc fe vs k acc (wipeR r2 vs)
          | _ => .bad))
      | none => .bad) else .bad
    | _ => .bad)
def cLcO (i : Nat) (vs : List Nat) (t : Tg) (fc : Option Ev) (fe : Ev) : Ev := fun r => match r[i]? with
  | some (some (.node .lst true ds)) => if i ∈ vs then .bad else (match lcO i ds.length t fc fe vs ds.length [] (wipeR r vs) with
    | .ok acc r2 => .ok (.val (.node .lst true acc)) (backR r r2 vs)
    | .bad => .bad)
  | _ => .bad
theorem wipeR_at {i : Nat} : ∀ {vs : List Nat} {r : Rho}, i ∉ vs → (wipeR r vs)[i]? = r[i]?
  | [], r, _ => rfl
  | v :: vs, r, h => by
    show ((wipeR r vs).set v none)[i]? = _
    rw [List.getElem?_set_ne (fun e => h (by rw [e]; exact List.mem_cons_self)), wipeR_at (fun m => h (List.mem_cons_of_mem _ m))]
section
variable {X : Cx} {G : GX} {C : Fc} {W : WX} {ow ow' : Ow} {r : Rho} {T T1 T2 : List (D × V)} {s : L2.St} {H H' : Hp} {fa fb fc : Ev} {f g : Sv} {fs : Av}
theorem lc_goO {i : Nat} {vs : List Nat} {t : Tg} {fc : Option Ev} {fe : Ev} {Q : VK} (hpin : ∀ p ∈ C.pin, p.1 ∉ vs) (ht : ∀ i ∈ t.slots, i ∈ vs) (h : tV G C W (cLcO i vs t fc fe) s H Q) :
    tLc (iList X.K fun s H Q => ∃ v, s[i]? = some (some v) ∧ Q v H) (fun v s H Q => ∃ a, tVG G (C.pinned i (.ref a)) t v s H Q) (fun s H Q => ∃ a, tVT G (C.pinned i (.ref a)) W0 (tstR fc) s H Q) (fun s H Q => ∃ a, tV G (C.pinned i (.ref a)) W0 (cSet fe) s H Q) vs s H Q := by
  obtain ⟨r, T, S, h⟩ := h
  have h : Goes G C W T s Q (cLcO i vs t fc fe r) := h
  unfold cLcO at h
  split at h
  case h_2 => exact h.elim
  rename_i ds0 q0
  split at h
  · exact h.elim
  rename_i hiv
  obtain ⟨ow, S⟩ := S
  obtain ⟨v, z1, a, ws, ev, z2, z3, z4⟩ := S.sl i _ q0
  subst ev
  refine ⟨.ref a, z1, a, rfl, ⟨ws, SqL.of z2⟩, fun da hD => ?_⟩
  have hpin' : ∀ p ∈ (C.pinned i (.ref a)).pin, p.1 ∉ vs := pinCo hpin hiv
  have pins : ∀ {r' : Rho} {T' : List (D × V)} {s' : L2.St} {H' : Hp}, StOk G (C.pinned i (.ref a)) r' T' s' H' → StOk G (C.pinned i (.ref a)) (wipeR r' vs) T' (wipe s' vs) H' := fun {r' T' s' H'} ⟨ow', S'⟩ => ⟨ow', S'.wipes hpin'⟩
  cases eL : lcO i ds0.length t fc fe vs ds0.length [] (wipeR r vs) with
  | bad => rw [eL] at h; exact h.elim
  | ok acc r2 =>
    simp only [eL] at h
    have S1 : StOk G (C.pinned i (.ref a)) r T s H := ⟨ow, S.pinned z1⟩
    have S2 : StOk G (C.pinned i (.ref a)) (wipeR r vs) (T ++ [(.node .lst true [], .ref da)]) (wipe s vs) (upd H da (.lst [])) :=
      pins (StOk.alloc (ds := []) (vs := []) true (by simpa using S1) rfl hD holds_lst (fun _ => trivial))
    refine ⟨fun j m H' => m = ds0.length - j ∧ j ≤ ds0.length ∧ ∃ ac r', StOk G (C.pinned i (.ref a)) (wipeR r' vs) (T ++ [(.node .lst true ac, .ref da)]) (wipe s vs) H' ∧ lcO i ds0.length t fc fe vs (ds0.length - j) ac (wipeR r' vs) = .ok acc r2,
      ⟨ds0.length, by simp, Nat.zero_le _, [], r, S2, by simpa using eL⟩, ?_⟩
    rintro j m H' ⟨rfl, hj, ac, r', ⟨ow', S'⟩, h'⟩
    have hp0 := S'.pin (i, .ref a) List.mem_cons_self
    by_cases hlt : j < ds0.length
    · obtain ⟨k, hk⟩ : ∃ k, ds0.length - j = k + 1 := ⟨ds0.length - j - 1, by omega⟩
      rw [hk] at h'
      unfold lcO at h'
      split at h'
      case h_2 => cases h'
      rename_i ds q
      split at h'
      case isFalse => cases h'
      rename_i hl
      have ej : ds0.length - (k + 1) = j := by omega
      rw [ej] at h'
      split at h'
      case h_2 => cases h'
      rename_i d hd'
      obtain ⟨ow2, a2, vs2, w1, hA, S3, q2, rx, _, _⟩ := S'.mine q
      rw [hp0] at w1
      cases w1
      have hdf : (frzs ds)[j]? = some (frz d) := by rw [frzs_map, List.getElem?_map, hd']; rfl
      obtain ⟨y, y1, y2⟩ := (rx ⟨.fo, []⟩).get j _ hdf
      have kk : ds0.length - (j + 1) = k := by omega
      refine .inr ⟨⟨vs2, y, SqL.of hA, y1⟩, fun H' => j + 1 ≤ ds0.length ∧ ∃ ac r', StOk G (C.pinned i (.ref a)) (wipeR r' vs) (T ++ [(.node .lst true ac, .ref da)]) (wipe s vs) H' ∧ lcO i ds0.length t fc fe vs (ds0.length - (j + 1)) ac (wipeR r' vs) = .ok acc r2,
        fun H2 n2 => ⟨ds0.length - (j + 1), by omega, rfl, n2.1, n2.2⟩, fun x H2 yl => ?_⟩
      obtain ⟨e1, e2⟩ := yl
      subst e1
      have ex := e2 vs2 (SqL.of hA)
      rw [y1] at ex
      cases ex
      refine ⟨a, _, _, frz d, ⟨ow2, S3.push (Rep.moveF _ (frz_frz d) (fun _ _ z q => ⟨z, q⟩) (fun _ _ z _ => z) y2)⟩, ?_⟩
      split at h'
      case h_1 => cases h'
      rename_i r3 et
      rw [et]
      intro s4 H4 S4 b4
      have hw : wipe s4 vs = wipe s vs := wipe_but b4 ht
      refine ⟨hw, a, _, _, S4, ?_⟩
      cases e2 : tstR fc r3 with
      | exc c r4 => simp only [e2] at h'; cases h'
      | bad => simp only [e2] at h'; cases h'
      | ok xb r4 =>
        simp only [e2] at h' ⊢
        cases xb with
        | loc _ => cases h'
        | val db =>
          cases db with
          | bl b =>
            cases b with
            | false =>
              intro H5 S5
              rw [if_neg Bool.false_ne_true]
              have S6 := pins S5
              rw [hw] at S6
              exact ⟨hlt, ac, r4, S6, by rw [kk]; exact h'⟩
            | true =>
              intro H5 S5
              rw [if_pos rfl]
              refine ⟨a, _, _, S5, ?_⟩
              simp only at h'
              cases e3 : cSet fe r4 with
              | exc c r5 => simp only [e3] at h'; cases h'
              | bad => simp only [e3] at h'; cases h'
              | ok xe r5 =>
                cases xe with
                | loc _ => simp only [e3] at h'; cases h'
                | val d =>
                  simp only [e3] at h'
                  split at h'
                  · rename_i hz
                    intro yv H6 P6
                    obtain ⟨ow8, S8⟩ := P6.1
                    have S8 : StW G (C.pinned i (.ref a)) ow8 r5 (T ++ [(.node .lst true ac, .ref da), (d, yv)]) s4 H6 := by simpa [List.append_assoc, pushR] using S8
                    obtain ⟨vs', q1, q2, S9⟩ := S8.appT
                    refine ⟨vs', q1, by rw [q2, sizeLine_eq]; exact hz, hlt, ac ++ [d], r5, ?_, by rw [kk]; exact h'⟩
                    have S11 := pins ⟨_, S9⟩
                    rw [hw] at S11
                    exact S11
                  · cases h'
          | _ => cases h'
    · have ej : j = ds0.length := by omega
      subst ej
      rw [Nat.sub_self] at h'
      unfold lcO at h'
      split at h'
      case h_2 => cases h'
      rename_i ds q
      split at h'
      case isFalse => cases h'
      rename_i hl
      injection h' with e1 e2
      subst e1
      subst e2
      obtain ⟨v2, w1, a2, vs2, ev2, w2, w3, w4⟩ := S'.sl i _ q
      rw [hp0] at w1
      cases w1
      cases ev2
      refine .inl ⟨⟨vs2, SqL.of w2, by rw [← w4.length]; omega⟩, ?_⟩
      exact h _ _ ⟨⟨ow', S.back S'.unpin⟩, trivial⟩
theorem ve_lcO {i : Nat} {x : Str} {p : Pos} {elt tg : Expr} {ifs : List Expr} {scope : Scope} {own : List (Str × Nat)} {pos : Pos} {t : Tg} {ft : Option Ev} {fe : Ev} (hc : X.calm = true) (hN : X.N.Nodup) (hn : X.N[i]? = some x) (hv : Vis X.env.scope x) (hd : (x == ("__debug__" : Str)) = false) (hcd : (x == ("__classdict__" : Str)) = false) (ok : BlkOk X.N X.env.scope scope own)
    (hpin : ∀ p ∈ C.pin, p.1 ∉ own.map (·.2)) (hts : ∀ i ∈ t.slots, i ∈ own.map (·.2))
    (hg : ∀ (s : Shared) (H : Hp) (ca : Addr) (cl : List (Str × Addr)) (fp : List Addr) (a : Addr), VG (X.blk s H scope (compEnvC scope cl ca X.env) fp) G (C.pinned i (.ref a)) tg t) (ht : ∀ (s : Shared) (H : Hp) (ca : Addr) (cl : List (Str × Addr)) (fp : List Addr) (a : Addr), VTs (X.blk s H scope (compEnvC scope cl ca X.env) fp) G (C.pinned i (.ref a)) W0 ifs ft)
    (he : ∀ (s : Shared) (H : Hp) (ca : Addr) (cl : List (Str × Addr)) (fp : List Addr) (a : Addr), VE (X.blk s H scope (compEnvC scope cl ca X.env) fp) G (C.pinned i (.ref a)) W0 elt fe) (hs : ∀ y, foldedSetIterable (.Name x p) X.env y = pure y := by intro _; rfl) :
    VE X G C W (.ListComp elt [⟨tg, .Name x p, ifs, 0⟩] scope pos) (cLcO i (own.map (·.2)) t ft fe) :=
  PE.imp (pe_lc hc hN (pi_list (pe_var hn hv hd hcd)) ok
    (fun s H ca cl fp => ⟨fun pins s σ H v u Q I rr w => by
      obtain ⟨a, w⟩ := w
      exact (hg _ _ _ _ _ a).run pins s σ H v u Q I rr w⟩)
    (fun s H ca cl fp => ⟨fun pins s σ H Q I w => by
      obtain ⟨a, w⟩ := w
      exact (ht _ _ _ _ _ a).run pins s σ H Q I w⟩)
    (fun s H ca cl fp => ⟨fun pins s σ H Q I w => by
      obtain ⟨a, w⟩ := w
      exact (ve_set (he _ _ _ _ _ a)).run pins s σ H Q I w⟩) hs) fun s H Q h => lc_goO hpin hts h
theorem vs_setLcO {i j : Nat} {x y : Str} {p py : Pos} {elt tg : Expr} {ifs : List Expr} {scope : Scope} {own : List (Str × Nat)} {pos spos : Pos} {t : Tg} {ft : Option Ev} {fe : Ev} (hc : X.calm = true) (hN : X.N.Nodup) (hy : X.N[j]? = some y) (hyl : X.env.scope.names.lookup y = some .local) (hp : ∀ p ∈ C.pin, p.1 ≠ j)
    (hsw : swapsWith (.ListComp elt [⟨tg, .Name x p, ifs, 0⟩] scope pos) (some (.Name y py)) spos.line X.env = pure true) (hn : X.N[i]? = some x) (hv : Vis X.env.scope x) (hd : (x == ("__debug__" : Str)) = false) (hcd : (x == ("__classdict__" : Str)) = false) (ok : BlkOk X.N X.env.scope scope own)
    (hpin : ∀ p ∈ C.pin, p.1 ∉ own.map (·.2)) (hts : ∀ i ∈ t.slots, i ∈ own.map (·.2))
    (hg : ∀ (s : Shared) (H : Hp) (ca : Addr) (cl : List (Str × Addr)) (fp : List Addr) (a : Addr), VG (X.blk s H scope (compEnvC scope cl ca X.env) fp) G (C.pinned i (.ref a)) tg t) (ht : ∀ (s : Shared) (H : Hp) (ca : Addr) (cl : List (Str × Addr)) (fp : List Addr) (a : Addr), VTs (X.blk s H scope (compEnvC scope cl ca X.env) fp) G (C.pinned i (.ref a)) W0 ifs ft)
    (he : ∀ (s : Shared) (H : Hp) (ca : Addr) (cl : List (Str × Addr)) (fp : List Addr) (a : Addr), VE (X.blk s H scope (compEnvC scope cl ca X.env) fp) G (C.pinned i (.ref a)) W0 elt fe) (hs : ∀ y, foldedSetIterable (.Name x p) X.env y = pure y := by intro _; rfl) :
    VS X G C W (.Assign [.Name y py] (.ListComp elt [⟨tg, .Name x p, ifs, 0⟩] scope pos) spos) (cAsg (.nm j) (cLcO i (own.map (·.2)) t ft fe)) := by
  refine PS.imp (ps_setLc (g := fun v s H Q => ∃ a, tVG G (C.pinned i (.ref a)) t v s H Q) (tt := fun s H Q => ∃ a, tVT G (C.pinned i (.ref a)) W0 (tstR ft) s H Q) (te := fun s H Q => ∃ a, tV G (C.pinned i (.ref a)) W0 (cSet fe) s H Q) hc hN hy hyl hsw (pi_list (pe_var hn hv hd hcd)) ok
    (fun s H ca cl fp => ⟨fun pins s σ H v u Q I rr w => by
      obtain ⟨a, w⟩ := w
      exact (hg _ _ _ _ _ a).run pins s σ H v u Q I rr w⟩)
    (fun s H ca cl fp => ⟨fun pins s σ H Q I w => by
      obtain ⟨a, w⟩ := w
      exact (ht _ _ _ _ _ a).run pins s σ H Q I w⟩)
    (fun s H ca cl fp => ⟨fun pins s σ H Q I w => by
      obtain ⟨a, w⟩ := w
      exact (ve_set (he _ _ _ _ _ a)).run pins s σ H Q I w⟩) hs) fun D s H h => ?_
  obtain ⟨r, T, S, h⟩ := h
  have z : tV G C W (cSet (cLcO i (own.map (·.2)) t ft fe)) s H fun x H1 => gName j x s H1 D.nx := by
    refine oneS (fa := cSet (cLcO i (own.map (·.2)) t ft fe)) S h fun x v r1 H1 P g => ?_
    cases x with
    | loc i => exact g.elim
    | val d => exact g _ _ (P.1.set hp)
  refine lc_goO (W := W) hpin hts ?_
  obtain ⟨r', T', S', g⟩ := z
  refine ⟨r', T', S', ?_⟩
  unfold cSet at g
  cases e : cLcO i (own.map (·.2)) t ft fe r' with
  | exc c r1 => rw [e] at g; exact g
  | bad => rw [e] at g; exact g
  | ok x r1 =>
    rw [e] at g
    cases x with
    | val d => exact g
    | loc j =>
      unfold cLcO at e
      split at e
      · split at e
        · cases e
        · split at e <;> cases e
      · cases e
end
/-! ### laws of it: conditions and parts that change no name but the comprehension's -/
theorem lcO_cons {i n k : Nat} {t : Tg} {fc : Option Ev} {fe : Ev} {vs : List Nat} {acc ds : List D} {d e : D} {r r1 r2 r3 : Rho} (h : r[i]? = some (some (.node .lst true ds))) (hf : frzs ds = ds) (hn : ds.length = n) (hd : ds[n - (k + 1)]? = some d) (h1 : tgt t d r = some r1)
    (h2 : tstR fc r1 = .ok (.val (.bl true)) r2) (h3 : cSet fe r2 = .ok (.val e) r3) (hl : acc.length < 16777216) : lcO i n t fc fe vs (k + 1) acc r = lcO i n t fc fe vs k (acc ++ [e]) (wipeR r3 vs) := by
  have fd := frz_at hf hd
  show (match r[i]? with | some (some (.node .lst true ds)) => _ | _ => _) = _
  rw [h]
  show (if ds.length = n then (match ds[n - (k + 1)]? with | some d => (match tgt t (frz d) (r.set i (some (.node .lst true (frzs ds)))) with | none => LO.bad | some r1 => (match tstR fc r1 with | .ok (.val (.bl true)) r2 => (match cSet fe r2 with | .ok (.val e) r3 => if acc.length < 16777216 then lcO i n t fc fe vs k (acc ++ [e]) (wipeR r3 vs) else .bad | _ => .bad) | .ok (.val (.bl false)) r2 => lcO i n t fc fe vs k acc (wipeR r2 vs) | _ => .bad)) | none => .bad) else .bad) = _
  rw [if_pos hn, hd, hf]
  show (match tgt t (frz d) (r.set i (some (.node .lst true ds))) with | none => LO.bad | some r1 => (match tstR fc r1 with | .ok (.val (.bl true)) r2 => (match cSet fe r2 with | .ok (.val e) r3 => if acc.length < 16777216 then lcO i n t fc fe vs k (acc ++ [e]) (wipeR r3 vs) else .bad | _ => .bad) | .ok (.val (.bl false)) r2 => lcO i n t fc fe vs k acc (wipeR r2 vs) | _ => .bad)) = _
  rw [fd, set_same h, h1]
  show (match tstR fc r1 with | .ok (.val (.bl true)) r2 => (match cSet fe r2 with | .ok (.val e) r3 => if acc.length < 16777216 then lcO i n t fc fe vs k (acc ++ [e]) (wipeR r3 vs) else .bad | _ => .bad) | .ok (.val (.bl false)) r2 => lcO i n t fc fe vs k acc (wipeR r2 vs) | _ => LO.bad) = _
  rw [h2]
  show (match cSet fe r2 with | .ok (.val e) r3 => if acc.length < 16777216 then lcO i n t fc fe vs k (acc ++ [e]) (wipeR r3 vs) else .bad | _ => LO.bad) = _
  rw [h3]
  show (if acc.length < 16777216 then lcO i n t fc fe vs k (acc ++ [e]) (wipeR r3 vs) else .bad) = _
  rw [if_pos hl]
theorem lcO_skip {i n k : Nat} {t : Tg} {fc : Option Ev} {fe : Ev} {vs : List Nat} {acc ds : List D} {d : D} {r r1 r2 : Rho} (h : r[i]? = some (some (.node .lst true ds))) (hf : frzs ds = ds) (hn : ds.length = n) (hd : ds[n - (k + 1)]? = some d) (h1 : tgt t d r = some r1)
    (h2 : tstR fc r1 = .ok (.val (.bl false)) r2) : lcO i n t fc fe vs (k + 1) acc r = lcO i n t fc fe vs k acc (wipeR r2 vs) := by
  have fd := frz_at hf hd
  show (match r[i]? with | some (some (.node .lst true ds)) => _ | _ => _) = _
  rw [h]
  show (if ds.length = n then (match ds[n - (k + 1)]? with | some d => (match tgt t (frz d) (r.set i (some (.node .lst true (frzs ds)))) with | none => LO.bad | some r1 => (match tstR fc r1 with | .ok (.val (.bl true)) r2 => (match cSet fe r2 with | .ok (.val e) r3 => if acc.length < 16777216 then lcO i n t fc fe vs k (acc ++ [e]) (wipeR r3 vs) else .bad | _ => .bad) | .ok (.val (.bl false)) r2 => lcO i n t fc fe vs k acc (wipeR r2 vs) | _ => .bad)) | none => .bad) else .bad) = _
  rw [if_pos hn, hd, hf]
  show (match tgt t (frz d) (r.set i (some (.node .lst true ds))) with | none => LO.bad | some r1 => (match tstR fc r1 with | .ok (.val (.bl true)) r2 => (match cSet fe r2 with | .ok (.val e) r3 => if acc.length < 16777216 then lcO i n t fc fe vs k (acc ++ [e]) (wipeR r3 vs) else .bad | _ => .bad) | .ok (.val (.bl false)) r2 => lcO i n t fc fe vs k acc (wipeR r2 vs) | _ => .bad)) = _
  rw [fd, set_same h, h1]
  show (match tstR fc r1 with | .ok (.val (.bl true)) r2 => (match cSet fe r2 with | .ok (.val e) r3 => if acc.length < 16777216 then lcO i n t fc fe vs k (acc ++ [e]) (wipeR r3 vs) else .bad | _ => .bad) | .ok (.val (.bl false)) r2 => lcO i n t fc fe vs k acc (wipeR r2 vs) | _ => LO.bad) = _
  rw [h2]
theorem lcO_nil {i n : Nat} {t : Tg} {fc : Option Ev} {fe : Ev} {vs : List Nat} {acc ds : List D} {r : Rho} (h : r[i]? = some (some (.node .lst true ds))) (hn : ds.length = n) : lcO i n t fc fe vs 0 acc r = .ok acc r := by
  show (match r[i]? with | some (some (.node .lst true ds)) => _ | _ => _) = _
  rw [h]
  show (if ds.length = n then LO.ok acc r else .bad) = _
  rw [if_pos hn]
/-- the comprehension picks and maps; the names stay as they are (r0: with the comprehension's names wiped) -/
theorem lcO_map {i : Nat} {t : Tg} {fc : Option Ev} {fe : Ev} {vs : List Nat} {ds : List D} {r r0 : Rho} {p : D → Bool} {q : D → D} (hi : i ∉ vs) (h : r[i]? = some (some (.node .lst true ds))) (hf : frzs ds = ds) (h0 : wipeR r vs = r0) (hl : ds.length < 16777216)
    (hs : ∀ d ∈ ds, ∃ r1, tgt t d r0 = some r1 ∧ ∃ r2, tstR fc r1 = .ok (.val (.bl (p d))) r2 ∧ wipeR r2 vs = r0 ∧ (p d = true → ∃ r3, cSet fe r2 = .ok (.val (q d)) r3 ∧ wipeR r3 vs = r0)) : cLcO i vs t fc fe r = .ok (.val (.node .lst true ((ds.filter p).map q))) (backR r r0 vs) := by
  have hr0 : r0[i]? = some (some (.node .lst true ds)) := by rw [← h0, wipeR_at hi]; exact h
  have go : ∀ (k : Nat) (acc : List D), k ≤ ds.length → acc.length + k ≤ ds.length → lcO i ds.length t fc fe vs k acc r0 = .ok (acc ++ ((ds.drop (ds.length - k)).filter p).map q) r0 := by
    intro k
    induction k with
    | zero => intro acc _ _; rw [lcO_nil hr0 rfl]; simp
    | succ k ih =>
      intro acc hk ha
      have hlt : ds.length - (k + 1) < ds.length := by omega
      have hd : ds[ds.length - (k + 1)]? = some ds[ds.length - (k + 1)] := List.getElem?_eq_getElem hlt
      obtain ⟨r1, e1, r2, e2, e3, e4⟩ := hs _ (List.getElem_mem hlt)
      have en : ds.length - (k + 1) + 1 = ds.length - k := by omega
      rw [List.drop_eq_getElem_cons hlt, en]
      cases hp : p ds[ds.length - (k + 1)] with
      | true =>
        obtain ⟨r3, e5, e6⟩ := e4 hp
        rw [hp] at e2
        rw [lcO_cons hr0 hf rfl hd e1 e2 e5 (by omega), e6, ih _ (by omega) (by rw [List.length_append, List.length_singleton]; omega), List.filter_cons_of_pos (by rw [hp]), List.map_cons, List.append_assoc]
        rfl
      | false =>
        rw [hp] at e2
        rw [lcO_skip hr0 hf rfl hd e1 e2, e3, ih acc (by omega) (by omega), List.filter_cons_of_neg (by rw [hp]; decide)]
  have g := go ds.length [] (Nat.le_refl _) (by simp)
  rw [Nat.sub_self, List.drop_zero, List.nil_append] at g
  unfold cLcO
  rw [h]
  show (if i ∈ vs then EO.bad else (match lcO i ds.length t fc fe vs ds.length [] (wipeR r vs) with | .ok acc r2 => .ok (.val (.node .lst true acc)) (backR r r2 vs) | .bad => .bad)) = _
  rw [if_neg hi, h0, g]
/-- the same over any walk -/
theorem lcL_map {t : Tg} {fc : Option Ev} {fe : Ev} {vs : List Nat} {r0 : Rho} {p : D → Bool} {q : D → D} : ∀ (ds acc : List D), acc.length + ds.length < 16777216 →
    (∀ d ∈ ds, ∃ r1, tgt t d r0 = some r1 ∧ ∃ r2, tstR fc r1 = .ok (.val (.bl (p d))) r2 ∧ wipeR r2 vs = r0 ∧ (p d = true → ∃ r3, cSet fe r2 = .ok (.val (q d)) r3 ∧ wipeR r3 vs = r0)) → lcL t fc fe vs ds acc r0 = .ok (acc ++ (ds.filter p).map q) r0
  | [], acc, _, _ => by simp [lcL]
  | d :: ds, acc, hl, hs => by
    simp only [List.length_cons] at hl
    obtain ⟨r1, e1, r2, e2, e3, e4⟩ := hs d List.mem_cons_self
    unfold lcL
    rw [e1]
    show (match tstR fc r1 with | .ok (.val (.bl true)) r2 => (match cSet fe r2 with | .ok (.val e) r3 => if acc.length < 16777216 then lcL t fc fe vs ds (acc ++ [e]) (wipeR r3 vs) else .bad | _ => .bad) | .ok (.val (.bl false)) r2 => lcL t fc fe vs ds acc (wipeR r2 vs) | _ => LO.bad) = _
    rw [e2]
    cases hp : p d with
    | true =>
      obtain ⟨r3, e5, e6⟩ := e4 hp
      show (match cSet fe r2 with | .ok (.val e) r3 => if acc.length < 16777216 then lcL t fc fe vs ds (acc ++ [e]) (wipeR r3 vs) else .bad | _ => LO.bad) = _
      rw [e5]
      show (if acc.length < 16777216 then lcL t fc fe vs ds (acc ++ [q d]) (wipeR r3 vs) else LO.bad) = _
      rw [if_pos (by omega), e6, lcL_map ds (acc ++ [q d]) (by rw [List.length_append, List.length_singleton]; omega) (fun x hx => hs x (List.mem_cons_of_mem _ hx)), List.filter_cons_of_pos (by rw [hp]), List.map_cons, List.append_assoc]
      rfl
    | false =>
      show lcL t fc fe vs ds acc (wipeR r2 vs) = _
      rw [e3, lcL_map ds acc (by omega) (fun x hx => hs x (List.mem_cons_of_mem _ hx)), List.filter_cons_of_neg (by rw [hp]; decide)]
theorem lc_map {fi : Iv} {t : Tg} {fc : Option Ev} {fe : Ev} {vs : List Nat} {ds : List D} {r r1 r0 : Rho} {p : D → Bool} {q : D → D} (hi : fi r = .ok ds r1) (h0 : wipeR r1 vs = r0) (hl : ds.length < 16777216)
    (hs : ∀ d ∈ ds, ∃ r1, tgt t d r0 = some r1 ∧ ∃ r2, tstR fc r1 = .ok (.val (.bl (p d))) r2 ∧ wipeR r2 vs = r0 ∧ (p d = true → ∃ r3, cSet fe r2 = .ok (.val (q d)) r3 ∧ wipeR r3 vs = r0)) : cLc vs t fi fc fe r = .ok (.val (.node .lst true ((ds.filter p).map q))) (backR r1 r0 vs) := by
  rw [q_lc, hi]
  show (match lcL t fc fe vs ds [] (wipeR r1 vs) with | .ok acc r2 => EO.ok (.val (.node .lst true acc)) (backR r1 r2 vs) | .bad => .bad) = _
  rw [h0, lcL_map ds [] (by simpa using hl) hs]
  rfl
end VL
namespace VL
open PySem PySem.Spec PyProof.Rows L2
section
variable {X : Cx} {G : GX} {C : Fc} {W : WX} {ow ow' : Ow} {r : Rho} {T T1 T2 : List (D × V)} {s : L2.St} {H H' : Hp}
/-- a, b, .. = a list of that length -/
theorem vg_lst {es : List Expr} {is : List Nat} {k : Nat} {pos : Pos} (hc : X.calm = true) (h : VGs X G C es is)
    (hn : (assignEach es X.env).length = is.length := by rfl) (hst : (assignEach es X.env).findIdx? (·.1) = none := by rfl) : VG X G C (.Tuple es k pos) (.tl is) := by
  refine PG.imp (pg_unl hc h hn hst) fun v s H Q h => ?_
  obtain ⟨r, T, d, S, h⟩ := h
  obtain ⟨ow, S⟩ := S
  cases d with
  | node k o ds =>
    cases k with
    | lst =>
      obtain ⟨a, vs, ev, h1, h2, S'⟩ := S.spread
      by_cases hl : is.length = ds.length
      · have e : tgt (.tl is) (.node .lst o ds) r = some (setAll r is ds) := if_pos hl
        rw [e] at h
        exact ⟨a, vs, ev, SqL.of h1, by rw [← h2]; exact hl.symm, r, T, ds, h2, hl, ⟨_, S'⟩, h⟩
      · have e : tgt (.tl is) (.node .lst o ds) r = none := if_neg hl
        rw [e] at h
        exact h.elim
    | _ => exact h.elim
  | _ => exact h.elim
end
end VL
namespace VL
open PySem PySem.Spec PyProof.Rows L2
/-! ### a, b = x, y, both sides written, plain local names: stored as they are -/
def cPar (is : List Nat) (fs : Av) : Sv := fun r => match fs r with
  | .ok xs r1 => (match valsR xs with
    | some ds => if is.length = ds.length then .nx (setAll r1 is ds) else .bad
    | none => .bad)
  | .exc c r1 => .exc c r1
  | .bad => .bad
section
variable {X : Cx} {G : GX} {C : Fc} {W : WX} {ow ow' : Ow} {r : Rho} {T T1 T2 : List (D × V)} {s : L2.St} {H H' : Hp} {fs : Av}
theorem par_in {is : List Nat} {D : Ends} {K : List V → Hp → Prop} (S : StOk G C r T s H) (h : GoesS G C W T D (cPar is fs r))
    (hk : ∀ ds vs r1 H1, StOk G C r1 (T ++ ds.zip vs) s H1 → ds.length = vs.length → is.length = ds.length → (∀ s' H', StOk G C (setAll r1 is ds) T s' H' → D.nx s' H') → K vs H1) : tVA G C W fs s H K := by
  refine ⟨r, T, S, ?_⟩
  unfold cPar at h
  cases e : fs r with
  | exc c r1 => rw [e] at h; exact fun H' S' => h s H' S'
  | bad => rw [e] at h; exact h.elim
  | ok xs r1 =>
    rw [e] at h
    intro vs H1 S1 l1
    cases e2 : valsR xs with
    | none => simp only [e2] at h; exact h.elim
    | some ds =>
      simp only [e2] at h
      split at h
      · rename_i hl
        obtain ⟨p1, p2⟩ := pushs_vals l1 e2
        rw [p1] at S1
        exact hk ds vs r1 H1 S1 p2 hl h
      · exact h.elim
theorem vs_par2 {i j : Nat} {x y : Str} {a b : Expr} {px py pt pos : Pos} {kt k2 pt2} (hc : X.calm = true) (hN : X.N.Nodup) (hi : X.N[i]? = some x) (hj : X.N[j]? = some y) (hij : i ≠ j)
    (hx : X.env.scope.names.lookup x = some .local) (hy : X.env.scope.names.lookup y = some .local) (hp : ∀ p ∈ C.pin, p.1 ≠ i) (hq : ∀ p ∈ C.pin, p.1 ≠ j) (ha : VA X G C W [a, b] fs)
    (hw : swappedStores [.Tuple [.Name x px, .Name y py] kt pt] (.Tuple [a, b] k2 pt2) X.env = pure (some [x, y]) := by rfl)
    (hs : swapsWithSole [.Tuple [.Name x px, .Name y py] kt pt] (.Tuple [a, b] k2 pt2) pos.line X.env = pure false := by rfl) :
    VS X G C W (.Assign [.Tuple [.Name x px, .Name y py] kt pt] (.Tuple [a, b] k2 pt2) pos) (cPar [i, j] fs) := by
  refine PS.imp (ps_par hc hN hi hj hij hx hy ha hw hs) fun D s H h => ?_
  obtain ⟨r, T, S, h⟩ := h
  refine par_in S h fun ds vs r1 H1 S1 hl h2 hD => ?_
  match ds, vs, hl, h2 with
  | [d1, d2], [v1, v2], _, _ =>
    obtain ⟨ow, S1⟩ := S1
    have A1 := StW.setM (T := T) (d := d1) (v := v1) (T2 := [(d2, v2)]) S1 hp
    have A2 := StW.setM (T := T) (d := d2) (v := v2) (T2 := []) A1 hq
    exact ⟨v1, v2, rfl, hD _ _ ⟨_, by simpa [setAll] using A2⟩⟩
theorem vs_par3 {i j l : Nat} {x y z : Str} {a b c : Expr} {px py pz pt pos : Pos} {kt k2 pt2} (hc : X.calm = true) (hN : X.N.Nodup) (hi : X.N[i]? = some x) (hj : X.N[j]? = some y) (hl : X.N[l]? = some z) (hij : i ≠ j) (hil : i ≠ l) (hjl : j ≠ l)
    (hx : X.env.scope.names.lookup x = some .local) (hy : X.env.scope.names.lookup y = some .local) (hz : X.env.scope.names.lookup z = some .local) (hp : ∀ p ∈ C.pin, p.1 ≠ i) (hq : ∀ p ∈ C.pin, p.1 ≠ j) (hr : ∀ p ∈ C.pin, p.1 ≠ l) (ha : VA X G C W [a, b, c] fs)
    (hw : swappedStores [.Tuple [.Name x px, .Name y py, .Name z pz] kt pt] (.Tuple [a, b, c] k2 pt2) X.env = pure (some [x, y, z]) := by rfl)
    (hs : swapsWithSole [.Tuple [.Name x px, .Name y py, .Name z pz] kt pt] (.Tuple [a, b, c] k2 pt2) pos.line X.env = pure false := by rfl) :
    VS X G C W (.Assign [.Tuple [.Name x px, .Name y py, .Name z pz] kt pt] (.Tuple [a, b, c] k2 pt2) pos) (cPar [i, j, l] fs) := by
  refine PS.imp (ps_par3 hc hN hi hj hl hij hil hjl hx hy hz ha hw hs) fun D s H h => ?_
  obtain ⟨r, T, S, h⟩ := h
  refine par_in S h fun ds vs r1 H1 S1 hl h2 hD => ?_
  match ds, vs, hl, h2 with
  | [d1, d2, d3], [v1, v2, v3], _, _ =>
    obtain ⟨ow, S1⟩ := S1
    have A1 := StW.setM (T := T) (d := d1) (v := v1) (T2 := [(d2, v2), (d3, v3)]) S1 hp
    have A2 := StW.setM (T := T) (d := d2) (v := v2) (T2 := [(d3, v3)]) A1 hq
    have A3 := StW.setM (T := T) (d := d3) (v := v3) (T2 := []) A2 hr
    exact ⟨v1, v2, v3, rfl, hD _ _ ⟨_, by simpa [setAll] using A3⟩⟩
end
theorem par_ok {is : List Nat} {fs : Av} {r r1 : Rho} {xs : List R} {ds : List D} (h : fs r = .ok xs r1) (h2 : valsR xs = some ds) (hl : is.length = ds.length) : cPar is fs r = .nx (setAll r1 is ds) := by
  unfold cPar
  rw [h]
  show (match valsR xs with | some ds => if is.length = ds.length then SO.nx (setAll r1 is ds) else .bad | none => .bad) = _
  rw [h2]
  show (if is.length = ds.length then SO.nx (setAll r1 is ds) else .bad) = _
  rw [if_pos hl]
end VL

namespace VL
open PySem PySem.Spec PyProof.Rows L2
section
variable {X : Cx} {G : GX} {C : Fc} {W : WX} {ow ow' : Ow} {r : Rho} {T T1 T2 : List (D × V)} {s : L2.St} {H H' : Hp} {fa fb fc : Ev} {f g : Sv} {fs : Av}
/-! ### zip(list, list) -/
def zipD (ds es : List D) : List D := List.zipWith (fun d e => D.node .tup false [d, e]) ds es
theorem zipD_get (ds es : List D) (i : Nat) (d : D) (h : (zipD ds es)[i]? = some d) : ∃ x y, ds[i]? = some x ∧ es[i]? = some y ∧ d = .node .tup false [x, y] := by
  unfold zipD at h
  rw [List.getElem?_zipWith] at h
  cases h1 : ds[i]? with
  | none => rw [h1] at h; cases h
  | some x =>
    cases h2 : es[i]? with
    | none => rw [h1, h2] at h; cases h
    | some y =>
      rw [h1, h2] at h
      cases h
      exact ⟨x, y, rfl, rfl, rfl⟩
theorem cur_zip {K : PySem.W.Frag} {ds es : List D} {a b : Addr} (e1 : frzs ds = ds) (e2 : frzs es = es) : CurOk G C (Itz K a b) (zipD ds es) fun _ => [(.node .lst false ds, .ref a), (.node .lst false es, .ref b)] := by
  refine ⟨fun i d r T s H hd S => ?_, fun r T s H S => ?_⟩
  · obtain ⟨x0, y0, hx, hy, rfl⟩ := zipD_get ds es i d hd
    obtain ⟨ow, S⟩ := S
    have za := S.tm T.length (.node .lst false ds) (.ref a) (by simp)
    have zb := S.tm (T.length + 1) (.node .lst false es) (.ref b) (by rw [List.getElem?_append_right (by omega)]; simp)
    obtain ⟨a', vs, ev, h1, h2, h3⟩ := za
    cases ev
    obtain ⟨b', us, eu, k1, k2, k3⟩ := zb
    cases eu
    obtain ⟨x, x1, x2⟩ := h3.get i x0 hx
    obtain ⟨y, y1, y2⟩ := k3.get i y0 hy
    refine ⟨⟨vs, us, x, y, SqL.of h1, SqL.of k1, x1, y1⟩, fun v H' z => ?_⟩
    obtain ⟨p, x', y', ev, hp, eH, ha, hb⟩ := z
    subst ev eH
    have ex := ha vs (SqL.of h1)
    rw [x1] at ex
    cases ex
    have ey := hb us (SqL.of k1)
    rw [y1] at ey
    cases ey
    have fx := frz_at e1 hx
    have fy := frz_at e2 hy
    have e' : frzs [x0, y0] = [x0, y0] := by show [frz x0, frz y0] = _; rw [fx, fy]
    exact StOk.alloc false ⟨ow, S.pushFs e' (l := ⟨.fo, []⟩) (i := 0) (vs := [x, y]) ⟨_, _, rfl, Rep.moveF _ fx (fun _ _ z q => ⟨z, q⟩) (fun _ _ z _ => z) x2, _, _, rfl, Rep.moveF _ fy (fun _ _ z q => ⟨z, q⟩) (fun _ _ z _ => z) y2, rfl⟩⟩ rfl hp holds_tup (fun z => nomatch z)
  · obtain ⟨ow, S⟩ := S
    have za := S.tm T.length (.node .lst false ds) (.ref a) (by simp)
    have zb := S.tm (T.length + 1) (.node .lst false es) (.ref b) (by rw [List.getElem?_append_right (by omega)]; simp)
    obtain ⟨a', vs, ev, h1, h2, h3⟩ := za
    cases ev
    obtain ⟨b', us, eu, k1, k2, k3⟩ := zb
    cases eu
    refine ⟨vs, us, SqL.of h1, SqL.of k1, ?_⟩
    rw [← h3.length, ← k3.length]
    unfold zipD
    rw [List.length_zipWith]
    omega
def gZip (r : Rho) (xs : List R) : IO := match xs with
  | [.val (.node .lst _ ds), .val (.node .lst _ es)] => .ok (zipD (frzs ds) (frzs es)) r
  | _ => .bad
theorem vi_zip {e e2 : Expr} {p pos tpos : Pos} {elts : List Expr} {kk : Nat} (hg : Gl X "zip") (hm : X.mg "zip" = none) (ha : VA X G C W [e, e2] fs)
    (hs : starEach [e, e2] X.env = (false, eval e X.env) :: starEach [e2] X.env := by rfl) (hpl : (backTo pos (starEach [e2] X.env)).any (·.1) = false := by rfl) : VI X G C W (.Tuple elts kk tpos) (.Call (.Name "zip" p) [e, e2] [] pos) (iRng gZip fs) := by
  refine PI.imp (pi_zip hg hm ha hs hpl) fun s H R h => ?_
  obtain ⟨r, T, S, h⟩ := h
  refine tV_rng S h fun xs vs r1 H1 S1 l1 g => ?_
  unfold gZip at g
  split at g
  · rename_i o ds o' es
    match vs, l1 with
    | [v, u], l1 =>
      obtain ⟨ow, S1⟩ := S1
      have S1 : StW G C ow r1 (T ++ [(D.node .lst o ds, v), (D.node .lst o' es, u)]) s H1 := by simpa [pushs, pushR] using S1
      have S2 := StW.frzTm (T1 := T) (d := D.node .lst o ds) (v := v) (T2 := [(D.node .lst o' es, u)]) S1
      have S3 := StW.frzTm (T1 := T ++ [(frz (D.node .lst o ds), v)]) (d := D.node .lst o' es) (v := u) (T2 := []) (by simpa using S2)
      generalize free (free ow (.tm T.length)) (.tm (T ++ [(frz (D.node .lst o ds), v)]).length) = ow3 at S3
      have S3 : StW G C ow3 r1 (T ++ [(frz (D.node .lst o ds), v), (frz (D.node .lst o' es), u)]) s H1 := by simpa using S3
      have za := S3.tm T.length (frz (.node .lst o ds)) v (by simp)
      have zb := S3.tm (T.length + 1) (frz (.node .lst o' es)) u (by rw [List.getElem?_append_right (by omega)]; simp)
      obtain ⟨a, ws, ev, h1, h2, h3⟩ := za
      subst ev
      obtain ⟨b, us, eu, k1, k2, k3⟩ := zb
      subst eu
      exact ⟨a, b, ws, us, rfl, SqL.of h1, SqL.of k1, g _ _ _ (cur_zip (frzs_frzs ds) (frzs_frzs es)) ⟨_, S3⟩⟩
    | [], l1 => exact l1.elim
    | [_], l1 => exact l1.2.elim
    | _ :: _ :: _ :: _, l1 => exact l1.2.2.elim
  · exact g.elim
end
theorem it_zip {fa fb : Ev} {r r1 r2 : Rho} {o o' : Bool} {ds es : List D} (h : cSet fa r = .ok (.val (.node .lst o ds)) r1) (h2 : cSet fb r1 = .ok (.val (.node .lst o' es)) r2) (f : frzs ds = ds) (f2 : frzs es = es) : iRng gZip (cCons (cSet fa) (cCons (cSet fb) cNil)) r = .ok (zipD ds es) r2 := by
  rw [q_iRng, q_cons, h]
  show (match (match cCons (cSet fb) cNil r1 with | .ok xs r2 => AO.ok (R.val (.node .lst o ds) :: xs) r2 | .exc c r2 => .exc c r2 | .bad => .bad) with | .ok xs r1 => gZip r1 xs | .exc c r1 => .exc c r1 | .bad => .bad) = _
  rw [q_cons, h2]
  show IO.ok (zipD (frzs ds) (frzs es)) r2 = _
  rw [f, f2]
/-- a def of which nothing is known yet -/
theorem fn_bad {P : Program} {w : World} {K : PySem.W.Frag} {mg : Str → Option Value} {base : Heap} {CX : CXT} {k : Nat} {f : Addr} {fd : FuncData} {ps : List Str} {G : GX} {n : Nat} : FnOk P w K mg base CX k f fd ps (spV G n fun _ => .bad) :=
  ⟨fun vs H Q E q => by obtain ⟨_, _, _, _, _, _, q⟩ := q; exact q.elim, fun A outer s H args us vs Q E hr he hb hv hs => by obtain ⟨_, _, _, _, _, _, q⟩ := hs; exact q.elim⟩
end VL

namespace VL
open PySem PySem.Spec PyProof.Rows L2
section
variable {X : Cx} {G : GX} {C : Fc} {W : WX} {ow ow' : Ow} {r : Rho} {T T1 T2 : List (D × V)} {s : L2.St} {H H' : Hp}
/-! ### is, is not of truths -/
def isBl : D → D → Option D
  | .bl a, .bl b => some (.bl (decide (a = b)))
  | _, _ => none
def isntBl : D → D → Option D
  | .bl a, .bl b => some (.bl (!decide (a = b)))
  | _, _ => none
def gIsB : G2 := g2 isBl
def gIsNotB : G2 := g2 isntBl
theorem os_isB : OpS X (compareOp .Is) gIsB := by
  refine OpS.scal op_isBl fun G ow H d e z l m v u Q h1 h2 e3 q => ?_
  cases d with
  | bl a =>
    cases e with
    | bl b =>
      cases e3
      exact ⟨a, b, rep_bl h1, rep_bl h2, q _ fun _ _ => rfl⟩
    | _ => cases e3
  | _ => cases e3
theorem os_isnotB : OpS X (compareOp .IsNot) gIsNotB := by
  refine OpS.scal op_notBl fun G ow H d e z l m v u Q h1 h2 e3 q => ?_
  cases d with
  | bl a =>
    cases e with
    | bl b =>
      cases e3
      exact ⟨a, b, rep_bl h1, rep_bl h2, q _ fun _ _ => rfl⟩
    | _ => cases e3
  | _ => cases e3
end
theorem isTF_ok {fa fb : Ev} {r r1 r2 : Rho} {a b : Bool} (h1 : fa r = .ok (.val (.bl a)) r1) (h2 : fb r1 = .ok (.val (.bl b)) r2) : cBin gIsB fa fb r = .ok (.val (.bl (decide (a = b)))) r2 := bin_ok h1 h2 (g2_ok rfl rfl rfl rfl)
theorem isnTF_ok {fa fb : Ev} {r r1 r2 : Rho} {a b : Bool} (h1 : fa r = .ok (.val (.bl a)) r1) (h2 : fb r1 = .ok (.val (.bl b)) r2) : cBin gIsNotB fa fb r = .ok (.val (.bl (!decide (a = b)))) r2 := bin_ok h1 h2 (g2_ok rfl rfl rfl rfl)
end VL

namespace VL
open PySem PySem.Spec PyProof.Rows L2
/-! ### a part of a name's own thing is lent, and given back -/
def rel (φ : Loc → Option Loc) (ow : Ow) : Ow := fun a => (ow a).bind φ
section
variable {X : Cx} {G : GX} {C : Fc} {W : WX} {ow ow' : Ow} {r : Rho} {T T1 T2 : List (D × V)} {s : L2.St} {H H' : Hp} {fa fb fc : Ev} {f g : Sv} {φ : Loc → Option Loc}
theorem rel_none {a : Addr} (h : ow a = none) : rel φ ow a = none := by unfold rel; rw [h]; rfl
theorem rel_some {a : Addr} {l : Loc} (h : ow a = some l) : rel φ ow a = φ l := by unfold rel; rw [h]; rfl
theorem rel_of {a : Addr} {l : Loc} (h : rel φ ow a = some l) : ∃ l0, ow a = some l0 ∧ φ l0 = some l := by
  unfold rel at h
  cases e : ow a with
  | none => rw [e] at h; cases h
  | some l0 => rw [e] at h; exact ⟨l0, rfl, h⟩
theorem Rep.rel {d : D} {l l' : Loc} {v : V} (h : Rep G ow H d l v) (hφ : ∀ q, φ (l.app q) = some (l'.app q)) : Rep G (VL.rel φ ow) H d l' v :=
  h.mono d (fun _ _ z _ => z) (fun _ _ z _ => z) (fun _ _ _ z => rel_none z) fun a o q _ z => (rel_some z).trans (hφ q)
theorem OwnAt.rel {k : Kd} {o : Bool} {l l' : Loc} {a : Addr} (h : OwnAt k o l (ow a)) (hφ : φ l = some l') : OwnAt k o l' (VL.rel φ ow a) := by
  rcases h.cases with e | e
  · subst e; trivial
  · refine .mk ?_
    cases o with
    | true => rw [rel_some (l := l) (by simpa using e), hφ]; rfl
    | false => rw [rel_none (by simpa using e)]; rfl
theorem StW.reloc {r' : Rho} {T' : List (D × V)} (S : StW G C ow r T s H) (hl : r'.length = r.length) (hf : ∀ l, l.b = .fo → φ l = some l)
    (hsl : ∀ (i : Nat) (d : D), r'[i]? = some (some d) → ∃ v, s[i]? = some (some v) ∧ Rep G (VL.rel φ ow) H d ⟨.sl i, []⟩ v) (htm : ∀ (j : Nat) (d : D) (v : V), T'[j]? = some (d, v) → Rep G (VL.rel φ ow) H d ⟨.tm j, []⟩ v) : StW G C (VL.rel φ ow) r' T' s H where
  len := hl.trans S.len
  sl := hsl
  tm := htm
  old := S.old
  own := fun a l q => by
    obtain ⟨l0, e, q⟩ := rel_of q
    rcases S.own a l0 e with z | z
    · rw [hf l0 z] at q; cases q; exact .inl z
    · exact .inr z
  fo := fun a q => by rw [rel_some (S.fo a q)]; exact hf _ rfl
  mu := fun a l q => by obtain ⟨l0, e, _⟩ := rel_of q; exact S.mu a l0 e
  pin := S.pin
/-- part m of slot i becomes the last temporary -/
def liftF (n i m : Nat) : Loc → Option Loc
  | ⟨.sl j, p⟩ => if j = i ∧ p.head? = some m then some ⟨.tm n, p.tail⟩ else some ⟨.sl j, p⟩
  | ⟨.tm j, p⟩ => if j < n then some ⟨.tm j, p⟩ else none
  | ⟨.fo, p⟩ => some ⟨.fo, p⟩
theorem liftF_fo {n i m : Nat} : ∀ l : Loc, l.b = .fo → liftF n i m l = some l := fun ⟨b, p⟩ h => by
  have h : b = .fo := h
  subst h; rfl
theorem liftF_tm {n i m j : Nat} {p : List Nat} (h : j < n) : liftF n i m ⟨.tm j, p⟩ = some ⟨.tm j, p⟩ := if_pos h
theorem liftF_sl {n i m j : Nat} {p : List Nat} (h : j ≠ i) : liftF n i m ⟨.sl j, p⟩ = some ⟨.sl j, p⟩ := if_neg fun z => h z.1
theorem liftF_in {n i m : Nat} {p : List Nat} (h : p.head? ≠ some m) : liftF n i m ⟨.sl i, p⟩ = some ⟨.sl i, p⟩ := if_neg fun z => h z.2
theorem liftF_at {n i m : Nat} {p : List Nat} : liftF n i m ⟨.sl i, m :: p⟩ = some ⟨.tm n, p⟩ := if_pos ⟨rfl, rfl⟩
theorem getT {p : D × V} {j : Nat} {d : D} {v : V} (q : (T ++ [p])[j]? = some (d, v)) : (j < T.length ∧ T[j]? = some (d, v)) ∨ (j = T.length ∧ p = (d, v)) := by
  by_cases hj : j < T.length
  · rw [List.getElem?_append_left hj] at q
    exact .inl ⟨hj, q⟩
  · rw [List.getElem?_append_right (by omega)] at q
    have e : j = T.length := by
      have := (List.getElem?_eq_some_iff.mp q).1
      simp at this; omega
    subst e
    simp at q
    exact .inr ⟨rfl, q⟩
theorem StW.lift {i m : Nat} {k : Kd} {o : Bool} {ds : List D} {d : D} (S : StW G C ow r T s H) (q : r[i]? = some (some (.node k o ds))) (hd : ds[m]? = some d) :
    ∃ a vs v, s[i]? = some (some (.ref a)) ∧ Holds G H a k vs ∧ OwnAt k o ⟨.sl i, []⟩ (ow a) ∧ vs.length = ds.length ∧ vs[m]? = some v ∧ Reps G ow H ds ⟨.sl i, []⟩ 0 vs ∧ StW G C (VL.rel (liftF T.length i m) ow) (r.set i (some (.node k o (ds.set m .any)))) (T ++ [(d, v)]) s H := by
  obtain ⟨v', z1, a, vs, ev, z2, z3, z4⟩ := S.sl i _ q
  subst ev
  obtain ⟨v, hv, hr⟩ := z4.get m d hd
  have hi : i < r.length := (List.getElem?_eq_some_iff.mp q).1
  refine ⟨a, vs, v, z1, z2, z3, z4.length.symm, hv, z4, S.reloc (by simp) liftF_fo (fun j d' y => ?_) fun j d' w y => ?_⟩
  · by_cases hj : j = i
    · subst hj
      rw [List.getElem?_set_self hi] at y
      cases y
      refine ⟨_, z1, a, vs, rfl, z2, z3.rel (liftF_in (by simp)), Reps.of_get (by simp [z4.length]) fun j' d' v' y1 y2 => ?_⟩
      by_cases hm : j' = m
      · subst hm
        rw [List.getElem?_set_self (List.getElem?_eq_some_iff.mp hd).1] at y1
        cases y1
        trivial
      · rw [List.getElem?_set_ne (Ne.symm hm)] at y1
        obtain ⟨v2, e1, e2⟩ := z4.get j' d' y1
        rw [y2] at e1
        cases e1
        refine e2.rel fun p => ?_
        simp only [Loc.sub, Loc.app]
        exact liftF_in (by simp; omega)
    · rw [List.getElem?_set_ne (Ne.symm hj)] at y
      obtain ⟨w, y1, y2⟩ := S.sl j d' y
      exact ⟨w, y1, y2.rel fun p => liftF_sl hj⟩
  · rcases getT y with ⟨hj, y⟩ | ⟨hj, y⟩
    · exact (S.tm j d' w y).rel fun p => liftF_tm hj
    · cases y
      subst hj
      refine hr.rel fun p => ?_
      simp only [Loc.sub, Loc.app, Nat.zero_add, List.nil_append, List.singleton_append]
      exact liftF_at
/-- slot i's thing becomes the last temporary -/
def pullF (n i : Nat) : Loc → Option Loc
  | ⟨.sl j, p⟩ => if j = i then some ⟨.tm n, p⟩ else some ⟨.sl j, p⟩
  | ⟨.tm j, p⟩ => if j < n then some ⟨.tm j, p⟩ else none
  | ⟨.fo, p⟩ => some ⟨.fo, p⟩
theorem StW.pull {i : Nat} {d : D} (S : StW G C ow r T s H) (q : r[i]? = some (some d)) : ∃ v, s[i]? = some (some v) ∧ StW G C (VL.rel (pullF T.length i) ow) (r.set i (some .any)) (T ++ [(d, v)]) s H := by
  obtain ⟨v, z1, z2⟩ := S.sl i _ q
  have hi : i < r.length := (List.getElem?_eq_some_iff.mp q).1
  refine ⟨v, z1, S.reloc (by simp) (fun ⟨b, p⟩ h => by have h : b = .fo := h; subst h; rfl) (fun j d' y => ?_) fun j d' w y => ?_⟩
  · by_cases hj : j = i
    · subst hj
      rw [List.getElem?_set_self hi] at y
      cases y
      exact ⟨v, z1, trivial⟩
    · rw [List.getElem?_set_ne (Ne.symm hj)] at y
      obtain ⟨w, y1, y2⟩ := S.sl j d' y
      exact ⟨w, y1, y2.rel fun p => if_neg hj⟩
  · rcases getT y with ⟨hj, y⟩ | ⟨hj, y⟩
    · exact (S.tm j d' w y).rel fun p => if_pos hj
    · cases y
      subst hj
      exact z2.rel fun p => if_pos rfl
/-- the last temporary becomes part m of slot i, where it stands -/
def backF (n i m : Nat) : Loc → Option Loc
  | ⟨.sl j, p⟩ => if j = i ∧ p.head? = some m then none else some ⟨.sl j, p⟩
  | ⟨.tm j, p⟩ => if j = n then some ⟨.sl i, m :: p⟩ else if j < n then some ⟨.tm j, p⟩ else none
  | ⟨.fo, p⟩ => some ⟨.fo, p⟩
theorem StW.giveBack {i m : Nat} {k : Kd} {o : Bool} {ds : List D} {d : D} {v : V} {a : Addr} {vs : List V} (S : StW G C ow r (T ++ [(d, v)]) s H) (q : r[i]? = some (some (.node k o ds))) (ha : s[i]? = some (some (.ref a))) (hk : k ≠ .rd) (hh : Holds G H a k vs) (hv : vs[m]? = some v)
    (hu : ∀ us, Holds G H a k us → us = vs) : StW G C (VL.rel (backF T.length i m) ow) (r.set i (some (.node k o (ds.set m d)))) T s H := by
  obtain ⟨v', z1, a', vs', ev, z2, z3, z4⟩ := S.sl i _ q
  rw [ha] at z1
  cases z1
  cases ev
  have ee := hu _ z2
  subst ee
  have hi : i < r.length := (List.getElem?_eq_some_iff.mp q).1
  refine StW.reloc (StW.drop S) (by simp) (fun ⟨b, p⟩ h => by have h : b = .fo := h; subst h; rfl) (fun j d' y => ?_) fun j d' w y => ?_
  · by_cases hj : j = i
    · subst hj
      rw [List.getElem?_set_self hi] at y
      cases y
      refine ⟨_, ha, a, vs', rfl, z2, z3.rel (if_neg (by simp)), Reps.of_get (by simp [z4.length]) fun j' d' v' y1 y2 => ?_⟩
      by_cases hm : j' = m
      · subst hm
        have hlt : j' < ds.length := by
          have := (List.getElem?_eq_some_iff.mp y1).1
          simpa using this
        rw [List.getElem?_set_self hlt] at y1
        cases y1
        rw [hv] at y2
        cases y2
        refine (StW.last S).rel fun p => ?_
        simp only [Loc.sub, Loc.app, Nat.zero_add, List.nil_append, List.singleton_append]
        exact if_pos rfl
      · rw [List.getElem?_set_ne (Ne.symm hm)] at y1
        obtain ⟨v2, e1, e2⟩ := z4.get j' d' y1
        rw [y2] at e1
        cases e1
        refine e2.rel fun p => ?_
        simp only [Loc.sub, Loc.app]
        exact if_neg (by simp; omega)
    · rw [List.getElem?_set_ne (Ne.symm hj)] at y
      obtain ⟨w, y1, y2⟩ := S.sl j d' y
      exact ⟨w, y1, y2.rel fun p => if_neg fun z => hj z.1⟩
  · have hj : j < T.length := (List.getElem?_eq_some_iff.mp y).1
    refine ((StW.drop S).tm j d' w y).rel fun p => ?_
    show (if j = T.length then _ else if j < T.length then _ else _) = _
    rw [if_neg (by omega), if_pos hj]
    rfl
/-! ### the frame of a body that has only the part in hand -/
def Fc.bod (C : Fc) (H : Hp) (ow : Ow) (i j : Nat) (u v : V) : Fc := ⟨H, fun b => ∃ l, ow b = some l ∧ l.b ≠ .fo ∧ l.b ≠ .sl i, fun b => C.fo b ∨ ∃ p, ow b = some ⟨.sl i, p⟩, (j, v) :: (i, u) :: C.pin⟩
theorem pinB {C' : Fc} {i j l : Nat} (h : ∀ p ∈ C.pin, p.1 ≠ l) (e : ∃ u v, C'.pin = (j, v) :: (i, u) :: C.pin) (hi : i ≠ l) (hj : j ≠ l) : ∀ p ∈ C'.pin, p.1 ≠ l := fun p hp => by
  obtain ⟨u, v, e⟩ := e
  rw [e] at hp
  rcases List.mem_cons.mp hp with z | hp
  · rw [z]; exact hj
  rcases List.mem_cons.mp hp with z | hp
  · rw [z]; exact hi
  · exact h p hp
theorem pinBo {C' : Fc} {i j : Nat} {l : List Nat} (h : ∀ p ∈ C.pin, p.1 ∉ l) (e : ∃ u v, C'.pin = (j, v) :: (i, u) :: C.pin) (hi : i ∉ l) (hj : j ∉ l) : ∀ p ∈ C'.pin, p.1 ∉ l := fun p hp => by
  obtain ⟨u, v, e⟩ := e
  rw [e] at hp
  rcases List.mem_cons.mp hp with z | hp
  · rw [z]; exact hj
  rcases List.mem_cons.mp hp with z | hp
  · rw [z]; exact hi
  · exact h p hp
def lendF (i : Nat) : Loc → Option Loc := fun l => if l.b = .sl i then some ⟨.fo, []⟩ else some l
theorem StW.lend {i j : Nat} {u v : V} (S : StW G C ow r T s H) (hi : s[i]? = some (some u)) (hj : s[j]? = some (some v)) : StW G (C.bod H ow i j u v) (VL.rel (lendF i) ow) (r.set i (some .any)) T s H where
  len := by simpa using S.len
  sl := fun i' d q => by
    by_cases he : i' = i
    · subst he
      have hlt : i' < r.length := by
        have := (List.getElem?_eq_some_iff.mp q).1
        simpa using this
      rw [List.getElem?_set_self hlt] at q
      cases q
      exact ⟨u, hi, trivial⟩
    · rw [List.getElem?_set_ne (Ne.symm he)] at q
      obtain ⟨w, y1, y2⟩ := S.sl i' d q
      exact ⟨w, y1, y2.rel fun p => if_neg fun z => he (by injection z)⟩
  tm := fun n d w q => (S.tm n d w q).rel fun p => if_neg fun z => nomatch z
  old := fun a o _ z => z
  own := fun b l q => by
    obtain ⟨l0, e, q⟩ := rel_of q
    unfold lendF at q
    split at q
    · cases q; exact .inl rfl
    · rename_i n
      cases q
      by_cases hf : l.b = .fo
      · exact .inl hf
      · exact .inr (.inr ⟨l, e, hf, n⟩)
  fo := fun b q => by
    rcases q with q | ⟨p, q⟩
    · rw [rel_some (S.fo b q)]; exact if_neg fun z => nomatch z
    · rw [rel_some q]; exact if_pos rfl
  mu := fun b l q => by obtain ⟨l0, e, _⟩ := rel_of q; exact S.mu b l0 e
  pin := fun p hp => by
    rcases List.mem_cons.mp hp with z | hp
    · rw [z]; exact hj
    rcases List.mem_cons.mp hp with z | hp
    · rw [z]; exact hi
    · exact S.pin p hp
def unl (ow ow3 : Ow) (i j m : Nat) : Ow := fun b => match ow3 b with
  | none => none
  | some ⟨.fo, _⟩ => (match ow b with
    | some ⟨.fo, p⟩ => some ⟨.fo, p⟩
    | some ⟨.sl i', p⟩ => if i' = i then some ⟨.sl i, p⟩ else none
    | _ => none)
  | some ⟨.sl j', p⟩ => if j' = i then none else if j' = j then some ⟨.sl i, m :: p⟩ else some ⟨.sl j', p⟩
  | some ⟨.tm n, p⟩ => some ⟨.tm n, p⟩
theorem unl_none {ow3 : Ow} {i j m : Nat} {b : Addr} (h : ow3 b = none) : unl ow ow3 i j m b = none := by unfold unl; rw [h]
theorem unl_tm {ow3 : Ow} {i j m n : Nat} {p : List Nat} {b : Addr} (h : ow3 b = some ⟨.tm n, p⟩) : unl ow ow3 i j m b = some ⟨.tm n, p⟩ := by unfold unl; rw [h]
theorem unl_sl {ow3 : Ow} {i j m n : Nat} {p : List Nat} {b : Addr} (h : ow3 b = some ⟨.sl n, p⟩) (h1 : n ≠ i) (h2 : n ≠ j) : unl ow ow3 i j m b = some ⟨.sl n, p⟩ := by
  unfold unl; rw [h]
  show (if n = i then none else if n = j then some (Loc.mk (.sl i) (m :: p)) else some ⟨.sl n, p⟩) = _
  rw [if_neg h1, if_neg h2]
theorem unl_j {ow3 : Ow} {i j m : Nat} {p : List Nat} {b : Addr} (h : ow3 b = some ⟨.sl j, p⟩) (h1 : j ≠ i) : unl ow ow3 i j m b = some ⟨.sl i, m :: p⟩ := by
  unfold unl; rw [h]
  show (if j = i then none else if j = j then some (Loc.mk (.sl i) (m :: p)) else some ⟨.sl j, p⟩) = _
  rw [if_neg h1, if_pos rfl]
theorem unl_i {ow3 : Ow} {i j m : Nat} {p q : List Nat} {b : Addr} (h : ow3 b = some ⟨.fo, q⟩) (h1 : ow b = some ⟨.sl i, p⟩) : unl ow ow3 i j m b = some ⟨.sl i, p⟩ := by
  unfold unl; rw [h, h1]
  show (if i = i then some (Loc.mk (.sl i) p) else none) = _
  rw [if_pos rfl]
/-- whoever owns behind the body -/
theorem unl_of {ow3 : Ow} {i j m : Nat} {b : Addr} {l : Loc} (h : unl ow ow3 i j m b = some l) : (∃ l3, ow3 b = some l3) ∧ ((∃ l0, ow b = some l0 ∧ (l.b = .fo ∨ l0.b ≠ .fo)) ∨ ∃ l3, ow3 b = some l3 ∧ l3.b ≠ .fo) := by
  unfold unl at h
  cases e : ow3 b with
  | none => rw [e] at h; cases h
  | some l3 =>
    refine ⟨⟨l3, rfl⟩, ?_⟩
    rw [e] at h
    obtain ⟨b3, p3⟩ := l3
    cases b3 with
    | fo =>
      cases e2 : ow b with
      | none => rw [e2] at h; cases h
      | some l0 =>
        rw [e2] at h
        obtain ⟨b0, p0⟩ := l0
        refine .inl ⟨_, rfl, ?_⟩
        cases b0 with
        | fo => cases h; exact .inl rfl
        | sl n => exact .inr fun z => nomatch z
        | tm n => exact .inr fun z => nomatch z
    | sl n => exact .inr ⟨_, rfl, fun z => nomatch z⟩
    | tm n => exact .inr ⟨_, rfl, fun z => nomatch z⟩
theorem StW.unlend {i j m : Nat} {ds : List D} {d' : D} {a : Addr} {v : V} {vs : List V} {ow3 : Ow} {r3 : Rho} {T3 : List (D × V)} {s3 : L2.St} {H3 : Hp} (S : StW G C ow r T s H) (q : r[i]? = some (some (.node .lst true ds))) (ha : s[i]? = some (some (.ref a)))
    (hH : H a = some (.lst vs)) (hv : vs[m]? = some v) (S3 : StW G (C.bod H ow i j (.ref a) v) ow3 r3 T3 s3 H3) (q3 : r3[j]? = some (some d') ∨ d' = .any) (hij : i ≠ j) :
    StW G C (unl ow ow3 i j m) ((r3.set i (some (.node .lst true (ds.set m d')))).set j (some .any)) T3 s3 H3 := by
  obtain ⟨w, z1, a', vs', ev, z2, z3, z4⟩ := S.sl i _ q
  rw [ha] at z1
  cases z1
  cases ev
  have z2 : H a = some (.lst vs') := z2
  rw [hH] at z2
  cases z2
  have oa : ow a = some ⟨.sl i, []⟩ := by simpa [OwnAt] using z3
  have keep : ∀ b o, H b = some o → ¬ (C.bod H ow i j (.ref a) v).io b → H3 b = some o := fun b o e n => S3.old b o n e
  have nset : ∀ b p, ow b = some ⟨.sl i, p⟩ → ¬ (C.bod H ow i j (.ref a) v).io b := fun b p e n => by
    obtain ⟨l, e2, _, n2⟩ := n
    rw [e] at e2
    cases e2
    exact n2 rfl
  have nnone : ∀ b, ow b = none → ¬ (C.bod H ow i j (.ref a) v).io b := fun b e n => by
    obtain ⟨l, e2, _, _⟩ := n
    rw [e] at e2; cases e2
  have fo3 : ∀ b p, ow b = some ⟨.sl i, p⟩ → ow3 b = some ⟨.fo, []⟩ := fun b p e => S3.fo b (.inr ⟨p, e⟩)
  have nown : ∀ b o, H b = some o → ow b = none → unl ow ow3 i j m b = none := fun b o e n => by
    cases e3 : ow3 b with
    | none => exact unl_none e3
    | some l3 =>
      obtain ⟨b3, p3⟩ := l3
      rcases S3.own b _ e3 with z | z | z
      · have z : b3 = .fo := z
        subst z
        unfold unl
        rw [e3, n]
      · have z : H b = none := z
        rw [z] at e; cases e
      · exact absurd z (nnone b n)
  have p3 : s3[j]? = some (some v) := S3.pin (j, v) List.mem_cons_self
  have p3i : s3[i]? = some (some (.ref a)) := S3.pin (i, .ref a) (List.mem_cons_of_mem _ List.mem_cons_self)
  refine ⟨by simpa using S3.len, fun i' d y => ?_, fun n d w y => ?_, fun b o n y => ?_, fun b l y => ?_, fun b y => ?_, fun b l y => ?_, fun p hp => S3.pin p (List.mem_cons_of_mem _ (List.mem_cons_of_mem _ hp))⟩
  · by_cases hj : i' = j
    · subst hj
      have hlt : i' < r3.length := by
        have := (List.getElem?_eq_some_iff.mp y).1
        simpa using this
      rw [List.getElem?_set_self (by simpa using hlt)] at y
      cases y
      exact ⟨v, p3, trivial⟩
    · rw [List.getElem?_set_ne (Ne.symm hj)] at y
      by_cases hi : i' = i
      · subst hi
        have hlt : i' < r3.length := by
          have := (List.getElem?_eq_some_iff.mp y).1
          simpa using this
        rw [List.getElem?_set_self hlt] at y
        cases y
        refine ⟨_, p3i, a, vs, rfl, keep a _ hH (nset a _ oa), .mk ?_, Reps.of_get (by simp [z4.length]) fun n d v' y1 y2 => ?_⟩
        · exact unl_i (fo3 a _ oa) oa
        · by_cases hm : n = m
          · subst hm
            have hlt : n < ds.length := by
              have := (List.getElem?_eq_some_iff.mp y1).1
              simpa using this
            rw [List.getElem?_set_self hlt] at y1
            cases y1
            rw [hv] at y2
            cases y2
            rcases q3 with q3 | q3
            · obtain ⟨w, x1, x2⟩ := S3.sl j _ q3
              rw [p3] at x1
              cases x1
              refine x2.mono d' (fun _ _ z _ => z) (fun _ _ z _ => z) (fun _ _ _ z => unl_none z) fun b o p _ z => ?_
              have z : ow3 b = some ⟨.sl j, p⟩ := by rw [z]; simp [Loc.app]
              rw [unl_j z (Ne.symm hij)]
              simp [Loc.sub, Loc.app]
            · rw [q3]; trivial
          · rw [List.getElem?_set_ne (Ne.symm hm)] at y1
            obtain ⟨v2, e1, e2⟩ := z4.get n d y1
            rw [y2] at e1
            cases e1
            refine e2.mono d (fun b o z u => keep b o z ?_) (fun b o z u => keep b o z ?_) (fun b o z n => nown b o z n) fun b o p _ z => ?_
            · rcases u with u | ⟨p, u⟩
              · exact nnone b u
              · exact nset b _ u
            · rintro ⟨l, x1, _, _⟩
              have := S.mu b l x1
              rw [z] at this
              exact u this
            · exact unl_i (fo3 b _ z) z
      · rw [List.getElem?_set_ne (Ne.symm hi)] at y
        obtain ⟨w, y1, y2⟩ := S3.sl i' d y
        refine ⟨w, y1, y2.mono d (fun _ _ z _ => z) (fun _ _ z _ => z) (fun _ _ _ z => unl_none z) fun b o p _ z => ?_⟩
        exact unl_sl z hi hj
  · exact Rep.mono (l := ⟨.tm n, []⟩) d (fun _ _ z _ => z) (fun _ _ z _ => z) (fun _ _ _ z => unl_none z) (fun b o p _ z => unl_tm (p := [] ++ p) z) (S3.tm n d w y)
  · refine keep b o (S.old b o n y) ?_
    rintro ⟨l, x1, x2, _⟩
    rcases S.own b l x1 with z | z | z
    · exact x2 z
    · rw [z] at y; cases y
    · exact n z
  · have back : ∀ l0, ow b = some l0 → l0.b ≠ .fo → C.H0 b = none ∨ C.io b := fun l0 e n => (S.own b l0 e).resolve_left n
    rcases (unl_of y).2 with ⟨l0, e, h | h⟩ | ⟨l3, e, h⟩
    · exact .inl h
    · exact .inr (back l0 e h)
    · refine .inr ?_
      rcases S3.own b l3 e with z | z | z
      · exact absurd z h
      · have z : H b = none := z
        cases e0 : C.H0 b with
        | none => exact .inl rfl
        | some o =>
          by_cases hi : C.io b
          · exact .inr hi
          · rw [S.old b o hi e0] at z; cases z
      · obtain ⟨l0, x1, x2, _⟩ := z
        exact back l0 x1 x2
  · have e3 := S3.fo b (.inl y)
    unfold unl
    rw [e3, S.fo b y]
  · obtain ⟨⟨l3, e3⟩, _⟩ := unl_of y
    exact S3.mu b l3 e3
/-! ### for x in a name's own list, each part in hand -/
def partD (r : Rho) (j : Nat) : D := match r[j]? with
  | some (some d) => d
  | _ => .any
theorem partD_or (r : Rho) (j : Nat) : r[j]? = some (some (partD r j)) ∨ partD r j = .any := by
  unfold partD
  split
  · rename_i d e; exact .inl e
  · exact .inr rfl
def putM (i j m : Nat) (ds : List D) (r2 : Rho) : Rho := (r2.set i (some (.node .lst true (ds.set m (partD r2 j))))).set j (some .any)
def atL (i j : Nat) : R → Bool
  | .loc l => decide (l = i) || decide (l = j)
  | .val _ => false
def forM (i j n : Nat) (f : Sv) : Nat → Rho → SO
  | 0, r => (match r[i]? with
    | some (some (.node .lst true ds)) => if ds.length = n then .nx r else .bad
    | _ => .bad)
  | k + 1, r => (match r[i]? with
    | some (some (.node .lst true ds)) => if ds.length = n ∧ j < r.length then (match ds[n - (k + 1)]? with
      | some d => (match f ((r.set i (some .any)).set j (some d)) with
        | .nx r2 => forM i j n f k (putM i j (n - (k + 1)) ds r2)
        | .ct r2 => forM i j n f k (putM i j (n - (k + 1)) ds r2)
        | .bk r2 => .nx (putM i j (n - (k + 1)) ds r2)
        | .rt x r2 => if atL i j x = true then .bad else .rt x (putM i j (n - (k + 1)) ds r2)
        | .exc c r2 => .exc c (putM i j (n - (k + 1)) ds r2)
        | .bad => .bad)
      | none => .bad) else .bad
    | _ => .bad)
def cForM (i j : Nat) (f : Sv) : Sv := fun r => match r[i]? with
  | some (some (.node .lst true ds)) => forM i j ds.length f ds.length r
  | _ => .bad
theorem vs_forM {i j : Nat} {x y : Str} {p py : Pos} {body : List Stmt} {pos : Pos} (hp : PassesOwn (model X.prog X.w) X.A X.env X.xe) (hc : X.calm = true) (hND : X.N.Nodup) (hij : i ≠ j) (hN : X.N[i]? = some x) (hv : Vis X.env.scope x) (hd : (x == ("__debug__" : Str)) = false) (hcd : (x == ("__classdict__" : Str)) = false)
    (hj : X.N[j]? = some y) (hx : L2.Loc X.env.scope y) (hpin : ∀ p ∈ C.pin, p.1 ≠ j) (hb : ∀ C' : Fc, (∃ u v, C'.pin = (j, v) :: (i, u) :: C.pin) → VSs X G C' W body f)
    (hf : X.fn y = true ∨ X.env.scope.names.lookup y = some .local := by first | exact .inl rfl | exact .inr rfl | assumption)
    (hs : ∀ y, foldedSetIterable (.Name x p) X.env y = pure y := by intro _; rfl) : VS X G C W (.For (.Name y py) (.Name x p) body [] pos) (cForM i j f) := by
  have hb' : PSs X body (fun D s H => ∃ C' : Fc, (∃ u v, C'.pin = (j, v) :: (i, u) :: C.pin) ∧ tVS G C' W f D s H) := ⟨fun pins s σ H D I w => by
    obtain ⟨C', e, w⟩ := w
    exact (hb C' e).run pins s σ H D I w⟩
  refine PS.imp (ps_for hp hc (pi_list (pe_var hN hv hd hcd)) (pg_name hND hj hx hf) hb' hs) fun E s H h => ?_
  obtain ⟨r, T, S, h⟩ := h
  unfold cForM at h
  split at h
  · rename_i ds0 q0
    obtain ⟨ow, S⟩ := S
    obtain ⟨v, z1, a, vs, ev, z2, z3, z4⟩ := S.sl i _ q0
    subst ev
    refine ⟨_, z1, a, rfl, ⟨vs, SqL.of z2⟩, ?_⟩
    refine ⟨fun l m s' H' => m = ds0.length - l ∧ l ≤ ds0.length ∧ s'[i]? = some (some (.ref a)) ∧ ∃ r', StOk G C r' T s' H' ∧ GoesS G C W T E (forM i j ds0.length f (ds0.length - l) r'), ⟨ds0.length, by simp, Nat.zero_le _, z1, r, ⟨ow, S⟩, by simpa using h⟩, ?_⟩
    rintro l m s' H' ⟨rfl, hl0, hpi, r', ⟨ow', S'⟩, h'⟩
    by_cases hlt : l < ds0.length
    · obtain ⟨k, hk⟩ : ∃ k, ds0.length - l = k + 1 := ⟨ds0.length - l - 1, by omega⟩
      rw [hk] at h'
      unfold forM at h'
      split at h'
      · rename_i ds q
        split at h'
        · rename_i hl
          obtain ⟨hl, hjl⟩ := hl
          have ej : ds0.length - (k + 1) = l := by omega
          rw [ej] at h'
          split at h'
          · rename_i d hd'
            obtain ⟨a2, vs2, v2, w1, hA, oA, hl2, hv2, rx, S2⟩ := S'.lift q hd'
            rw [hpi] at w1
            cases w1
            have hA : H' a = some (.lst vs2) := hA
            refine .inr ⟨⟨vs2, v2, SqL.of hA, hv2⟩, fun s2 H2 => s2[i]? = some (some (.ref a)) ∧ ∃ r2, StOk G C r2 T s2 H2 ∧ GoesS G C W T E (forM i j ds0.length f (ds0.length - (l + 1)) r2), fun s2 H2 n2 => ⟨ds0.length - (l + 1), by omega, rfl, hlt, n2⟩, fun x H2 yl => ?_⟩
            obtain ⟨e1, e2⟩ := yl
            subst e1
            have ex := e2 vs2 (SqL.of hA)
            rw [hv2] at ex
            cases ex
            have kk : ds0.length - (l + 1) = k := by omega
            rw [kk]
            obtain ⟨ow4, S4⟩ : StOk G C ((r'.set i (some (.node .lst true (ds.set l .any)))).set j (some d)) T (s'.set j (some v2)) H2 := ⟨_, S2.set hpin⟩
            have hsl : j < s'.length := by rw [← S'.len]; exact hjl
            have a4 : (s'.set j (some v2))[i]? = some (some (.ref a)) := by rw [List.getElem?_set_ne (Ne.symm hij)]; exact hpi
            have S5 := S4.lend a4 (List.getElem?_set_self hsl)
            have hil : i < r'.length := (List.getElem?_eq_some_iff.mp q).1
            have q4 : ((r'.set i (some (.node .lst true (ds.set l .any)))).set j (some d))[i]? = some (some (.node .lst true (ds.set l .any))) := by
              rw [List.getElem?_set_ne (Ne.symm hij), List.getElem?_set_self hil]
            have er : ((r'.set i (some (.node .lst true (ds.set l .any)))).set j (some d)).set i (some .any) = (r'.set i (some .any)).set j (some d) := by
              rw [List.set_comm _ _ (Ne.symm hij), List.set_set]
            rw [er] at S5
            have un : ∀ {T3 : List (D × V)} {r6 : Rho} {s6 : L2.St} {H6 : Hp}, StOk G (C.bod H2 ow4 i j (.ref a) v2) r6 T3 s6 H6 → StOk G C (putM i j l ds r6) T3 s6 H6 ∧ s6[i]? = some (some (.ref a)) := fun {T3 r6 s6 H6} ⟨ow6, S6⟩ => by
              have z := StW.unlend S4 q4 a4 hA hv2 S6 (partD_or r6 j) hij
              rw [List.set_set] at z
              exact ⟨⟨_, z⟩, S6.pin (i, .ref a) (List.mem_cons_of_mem _ List.mem_cons_self)⟩
            refine ⟨_, ⟨.ref a, v2, rfl⟩, _, T, ⟨_, S5⟩, ?_⟩
            cases e3 : f ((r'.set i (some .any)).set j (some d)) with
            | nx r3 => simp only [e3] at h'; exact fun s4 H4 S4 => ⟨(un S4).2, _, (un S4).1, h'⟩
            | ct r3 => simp only [e3] at h'; exact fun s4 H4 S4 => ⟨(un S4).2, _, (un S4).1, h'⟩
            | bk r3 => simp only [e3] at h'; exact fun s4 H4 S4 => h' s4 H4 (un S4).1
            | rt x r3 =>
              simp only [e3] at h'
              split at h'
              · exact h'.elim
              · exact fun s4 v H4 P4 => h' s4 v H4 ⟨(un P4.1).1, P4.2⟩
            | exc c r3 => simp only [e3] at h'; exact fun s4 H4 S4 => h' s4 H4 (un S4).1
            | bad => simp only [e3] at h'; exact h'.elim
          · exact h'.elim
        · exact h'.elim
      · exact h'.elim
    · have ej : l = ds0.length := by omega
      subst ej
      rw [Nat.sub_self] at h'
      unfold forM at h'
      split at h'
      · rename_i ds q
        split at h'
        · rename_i hl
          obtain ⟨v2, w1, a2, vs2, ev2, w2, w3, w4⟩ := S'.sl i _ q
          rw [hpi] at w1
          cases w1
          cases ev2
          exact .inl ⟨⟨vs2, SqL.of w2, by rw [← w4.length]; omega⟩, h' s' H' ⟨ow', S'⟩⟩
        · exact h'.elim
      · exact h'.elim
  · exact h.elim
end
/-- a turn of it -/
theorem forM_cons {i j n k : Nat} {f : Sv} {d : D} {ds : List D} {r r2 : Rho} (h : r[i]? = some (some (.node .lst true ds))) (hn : ds.length = n) (hj : j < r.length) (hd : ds[n - (k + 1)]? = some d) (h2 : f ((r.set i (some .any)).set j (some d)) = .nx r2) : forM i j n f (k + 1) r = forM i j n f k (putM i j (n - (k + 1)) ds r2) := by
  conv => lhs; unfold forM
  rw [h]
  show (if ds.length = n ∧ j < r.length then _ else _) = _
  rw [if_pos ⟨hn, hj⟩, hd]
  show (match f ((r.set i (some .any)).set j (some d)) with | .nx r2 => forM i j n f k (putM i j (n - (k + 1)) ds r2) | .ct r2 => forM i j n f k (putM i j (n - (k + 1)) ds r2) | .bk r2 => .nx (putM i j (n - (k + 1)) ds r2) | .rt x r2 => if atL i j x = true then .bad else .rt x (putM i j (n - (k + 1)) ds r2) | .exc c r2 => .exc c (putM i j (n - (k + 1)) ds r2) | .bad => .bad) = _
  rw [h2]
theorem forM_nil {i j n : Nat} {f : Sv} {ds : List D} {r : Rho} (h : r[i]? = some (some (.node .lst true ds))) (hn : ds.length = n) : forM i j n f 0 r = .nx r := by
  unfold forM
  rw [h]
  exact if_pos hn
/-- the whole walk: each part becomes another one, and the rest of the state is kept up -/
theorem forM_all {i j : Nat} {f : Sv} {ds : List D} {r : Rho} (Inv : Nat → Rho → Prop) (es : List D) (hl : es.length = ds.length) (hij : i ≠ j) (h : r[i]? = some (some (.node .lst true ds))) (hj : j < r.length) (h0 : Inv 0 r)
    (hs : ∀ (k : Nat) (r' : Rho), k < ds.length → Inv k r' → r'[i]? = some (some (.node .lst true (es.take k ++ ds.drop k))) → j < r'.length → ∃ r2, f ((r'.set i (some .any)).set j (some (ds.getD k .any))) = .nx r2 ∧ j < r2.length ∧ i < r2.length ∧ partD r2 j = es.getD k .any ∧ Inv (k + 1) ((r2.set i (some (.node .lst true (es.take (k + 1) ++ ds.drop (k + 1))))).set j (some .any))) :
    ∃ r', cForM i j f r = .nx r' ∧ Inv ds.length r' ∧ r'[i]? = some (some (.node .lst true es)) := by
  have go : ∀ (k : Nat) (r' : Rho), k ≤ ds.length → Inv (ds.length - k) r' → r'[i]? = some (some (.node .lst true (es.take (ds.length - k) ++ ds.drop (ds.length - k)))) → j < r'.length → ∃ r2, forM i j ds.length f k r' = .nx r2 ∧ Inv ds.length r2 ∧ r2[i]? = some (some (.node .lst true es)) := by
    intro k
    induction k with
    | zero =>
      intro r' _ hi hr _
      rw [Nat.sub_zero] at hi hr
      rw [List.drop_length, List.append_nil, ← hl, List.take_length] at hr
      exact ⟨r', forM_nil hr hl, hi, hr⟩
    | succ k ih =>
      intro r' hk hi hr hj'
      obtain ⟨m, hm⟩ : ∃ m, ds.length - (k + 1) = m := ⟨_, rfl⟩
      rw [hm] at hi hr
      have hml : m < ds.length := by omega
      obtain ⟨r2, e1, e2, e3, e4, e5⟩ := hs m r' hml hi hr hj'
      have hd : (es.take m ++ ds.drop m)[m]? = some ds[m] := by
        rw [List.getElem?_append_right (by rw [List.length_take]; omega), List.length_take, Nat.min_eq_left (by omega), Nat.sub_self, List.getElem?_drop, Nat.add_zero, List.getElem?_eq_getElem hml]
      have eg : ds.getD m .any = ds[m] := by rw [List.getD_eq_getElem?_getD, List.getElem?_eq_getElem hml]; rfl
      rw [eg] at e1
      have st := forM_cons (n := ds.length) (k := k) (f := f) hr (by rw [List.length_append, List.length_take, List.length_drop]; omega) hj' (by rw [hm]; exact hd) e1
      rw [st]
      have ep : putM i j (ds.length - (k + 1)) (es.take m ++ ds.drop m) r2 = (r2.set i (some (.node .lst true (es.take (m + 1) ++ ds.drop (m + 1))))).set j (some .any) := by
        unfold putM
        rw [hm, e4]
        congr 4
        rw [List.set_append_right _ _ (by rw [List.length_take]; omega), List.length_take, Nat.min_eq_left (by omega), Nat.sub_self, List.drop_eq_getElem_cons hml, List.set_cons_zero, List.take_succ_eq_append_getElem (by omega), List.append_assoc, List.getD_eq_getElem?_getD, List.getElem?_eq_getElem (by omega)]
        rfl
      have hmk : ds.length - k = m + 1 := by omega
      rw [ep]
      refine ih _ (by omega) (by rw [hmk]; exact e5) ?_ (by simpa using e2)
      rw [hmk, List.getElem?_set_ne (Ne.symm hij), List.getElem?_set_self e3]
  have st : cForM i j f r = forM i j ds.length f ds.length r := by
    unfold cForM; rw [h]
  rw [st]
  refine go ds.length r (Nat.le_refl _) (by rw [Nat.sub_self]; exact h0) ?_ hj
  rw [Nat.sub_self, List.take_zero, List.nil_append, List.drop_zero]
  exact h
end VL

namespace VL
open PySem PySem.Spec PyProof.Rows L2
/-! ### a def that changes one of its arguments, wherever it stands; the thing a name's, or new -/
def fcQ (H : Hp) (ow0 : Ow) (q : Nat) (v0 : V) : Fc := ⟨H, fun a => ∃ p, ow0 a = some ⟨.sl q, p⟩, fun a => ow0 a = some ⟨.fo, []⟩, [(q, v0)]⟩
def spQ (G : GX) (q n : Nat) (F : D → List D → MO) : Sp := fun vs H Q E => ∃ (d0 : D) (ds : List D) (v0 : V) (us1 us2 : List V) (ow0 : Ow), vs = us1 ++ v0 :: us2 ∧ us1.length = q ∧ ds.length = n ∧ frzs ds = ds ∧ Rep G ow0 H d0 ⟨.sl q, []⟩ v0 ∧ Reps G ow0 H ds ⟨.fo, []⟩ 0 (us1 ++ us2) ∧
  (∀ a l, ow0 a = some l → OwnO (H a) ∧ (l.b = .sl q ∨ l = ⟨.fo, []⟩)) ∧ match F d0 ds with
  | .ok d d0' => ∀ v H' (ow1 : Ow) (b : Bs), (∀ a o, (∀ p, ow0 a ≠ some ⟨.sl q, p⟩) → H a = some o → H' a = some o) → b ≠ .fo → b ≠ .sl q → Rep G ow1 H' d ⟨b, []⟩ v → Rep G ow1 H' d0' ⟨.sl q, []⟩ v0 →
      (∀ a l, ow1 a = some l → l.b ≠ .fo → H a = none ∨ ∃ p, ow0 a = some ⟨.sl q, p⟩) → (∀ a, ow0 a = some ⟨.fo, []⟩ → ow1 a = some ⟨.fo, []⟩) → (∀ a l, ow1 a = some l → OwnO (H' a)) → Q v H'
  | .bad => False
theorem spQ_len {G : GX} {q n : Nat} {F : D → List D → MO} {vs : List V} {H : Hp} {Q : VK} {E : XK} (h : spQ G q n F vs H Q E) : vs.length = n + 1 := by
  obtain ⟨d0, ds, v0, us1, us2, ow0, e, _, h1, _, _, h4, _⟩ := h
  have := h4.length
  rw [List.length_append] at this
  rw [e, List.length_append, List.length_cons]
  omega
def putQ (q : Nat) (d0 : D) (ds : List D) : List D := ds.take q ++ d0 :: ds.drop q
def runQ (q n : Nat) (f : Sv) (d0 : D) (ds : List D) : MO := match f (startR n (putQ q d0 ds)) with
  | .rt (.val d) r => (match r[q]? with
    | some (some d0') => .ok d d0'
    | _ => .bad)
  | .rt (.loc i) r => if i = q then .bad else (match opd r (.loc i), r[q]? with
    | some d, some (some d0') => .ok d d0'
    | _, _ => .bad)
  | .nx r => (match r[q]? with
    | some (some d0') => .ok .non d0'
    | _ => .bad)
  | _ => .bad
section
variable {G : GX} {H H' : Hp} {ow ow0 : Ow}
theorem startQ_ok {N : List Str} {d0 : D} {ds : List D} {v0 : V} {us1 us2 : List V} {q : Nat} (hq : us1.length = q) (hm : ∀ a l, ow0 a = some l → OwnO (H a) ∧ (l.b = .sl q ∨ l = ⟨.fo, []⟩)) (e : frzs ds = ds) (h0 : Rep G ow0 H d0 ⟨.sl q, []⟩ v0) (h : Reps G ow0 H ds ⟨.fo, []⟩ 0 (us1 ++ us2)) : StW G (fcQ H ow0 q v0) ow0 (startR N.length (putQ q d0 ds)) [] (L2.start N (us1 ++ v0 :: us2)) H := by
  have hlen := h.length
  rw [List.length_append] at hlen
  have part : ∀ (i' : Nat) (i : Nat) (d : D), ds[i']? = some d → (us1 ++ v0 :: us2)[i]? = (us1 ++ us2)[i']? → ∃ v, (L2.start N (us1 ++ v0 :: us2))[i]? = some (some v) ∧ Rep G ow0 H d ⟨.sl i, []⟩ v := fun i' i d q2 ev => by
    obtain ⟨v, h1, h2⟩ := h.get i' d q2
    have f : frz d = d := by
      have := congrArg (·[i']?) e
      simp only [frzs_map, List.getElem?_map, q2, Option.map_some] at this
      exact Option.some.inj this
    exact ⟨v, start_get (by rw [ev]; exact h1), Rep.moveF d f (fun a o z q => ⟨z, q⟩) (fun _ _ z _ => z) h2⟩
  exact {
  len := by
    unfold startR L2.start putQ
    simp
    omega
  sl := fun i d y => by
    have y' := startR_get y
    unfold putQ at y'
    by_cases h1 : i < q
    · rw [List.getElem?_append_left (by rw [List.length_take]; omega), List.getElem?_take_of_lt h1] at y'
      exact part i i d y' (by rw [List.getElem?_append_left (by omega), List.getElem?_append_left (by omega)])
    · by_cases h2 : i = q
      · subst h2
        rw [List.getElem?_append_right (by rw [List.length_take]; omega), List.length_take, Nat.min_eq_left (by omega), Nat.sub_self] at y'
        simp at y'
        subst y'
        exact ⟨v0, start_get (by rw [List.getElem?_append_right (by omega), hq, Nat.sub_self]; rfl), h0⟩
      · obtain ⟨m, hm⟩ : ∃ m, i = q + 1 + m := ⟨i - q - 1, by omega⟩
        subst hm
        rw [List.getElem?_append_right (by rw [List.length_take]; omega), List.length_take, Nat.min_eq_left (by omega), show q + 1 + m - q = m + 1 by omega, List.getElem?_cons_succ, List.getElem?_drop] at y'
        refine part (q + m) (q + 1 + m) d y' ?_
        rw [List.getElem?_append_right (by omega), List.getElem?_append_right (by omega), hq, show q + 1 + m - q = m + 1 by omega, List.getElem?_cons_succ, show q + m - q = m by omega]
  tm := fun j d v q => by simp at q
  old := fun a o _ z => z
  own := fun a l y => by
    obtain ⟨_, z | z⟩ := hm a l y
    · obtain ⟨lb, lp⟩ := l
      have z : lb = .sl q := z
      subst z
      exact .inr (.inr ⟨lp, y⟩)
    · subst z; exact .inl rfl
  fo := fun a y => y
  mu := fun a l y => (hm a l y).1
  pin := fun p hp => by
    have e : p = (q, v0) := by simpa [fcQ] using hp
    subst e
    exact start_get (by rw [List.getElem?_append_right (by omega), hq, Nat.sub_self]; rfl) }
end
section
variable {P : Program} {w : World} {K : PySem.W.Frag} {mg : Str → Option Value} {base : Heap} {G : GX}
theorem fnQ {x qual : Str} {st : Stmt} {f : Addr} {fd : FuncData} {N ps : List Str} {k q n : Nat} {fb : Sv} (F : Fun K x qual st f fd) (S : FnScope N ps (defScope st)) (hps : ps.length = n + 1)
    (hbody : ∀ (X : Cx) (C : Fc) (W : WX), X.prog = P → X.w = w → X.K = K → X.mg = mg → X.base = base → X.N = N → X.env.scope = defScope st → X.calm = true → X.ex = [] → Room k X.A → (∀ x, X.fn x = true) → (∀ p ∈ C.pin, p.1 = q) → Takes X W → PassesOwn (model X.prog X.w) X.A X.env X.xe → X.stack = X.env :: X.outer → X.env.frame = some X.env.locals → X.env.scope.kind = .function → VSs X G C W (defBody st) fb) :
    FnOk P w K mg base (L2.CX P w) (k + 1) f fd ps (spQ G q n (runQ q N.length fb)) := by
  refine F.okX S (fun vs H Q E h => (spQ_len h).trans hps.symm) (fun cdv A outer s H vs Q E hr h => ?_)
  obtain ⟨d0, ds, v0, us1, us2, ow0, ev, hq, h1, h2, h3, h4, h5, h6⟩ := h
  subst ev
  refine ⟨_, hbody (cxOf (L2.CX P w) P w K mg base N qual (defScope st) f cdv A outer s H E) (fcQ H ow0 q v0) (fun cls d _ H => E cls d H) rfl rfl rfl rfl rfl rfl rfl rfl rfl hr (fun _ => rfl) (fun p hp => by
    have e : p = (q, v0) := by simpa [fcQ] using hp
    rw [e]) (takes_of rfl rfl rfl rfl) (passes_of rfl) rfl rfl S.kind, ?_⟩
  refine ⟨startR N.length (putQ q d0 ds), [], ⟨_, startQ_ok (N := N) hq h5 h2 h3 h4⟩, ?_⟩
  have fin : ∀ {d d0' : D} {v : V} {r : Rho} {T : List (D × V)} {s' : L2.St} {H' : Hp} {ow : Ow} {b : Bs}, StW G (fcQ H ow0 q v0) ow r T s' H' → r[q]? = some (some d0') → b ≠ .fo → b ≠ .sl q → Rep G ow H' d ⟨b, []⟩ v →
      (∀ v H' (ow1 : Ow) (b : Bs), (∀ a o, (∀ p, ow0 a ≠ some ⟨.sl q, p⟩) → H a = some o → H' a = some o) → b ≠ .fo → b ≠ .sl q → Rep G ow1 H' d ⟨b, []⟩ v → Rep G ow1 H' d0' ⟨.sl q, []⟩ v0 →
      (∀ a l, ow1 a = some l → l.b ≠ .fo → H a = none ∨ ∃ p, ow0 a = some ⟨.sl q, p⟩) → (∀ a, ow0 a = some ⟨.fo, []⟩ → ow1 a = some ⟨.fo, []⟩) → (∀ a l, ow1 a = some l → OwnO (H' a)) → Q v H') → Q v H' :=
    fun {d d0' v r T s' H' ow b} S' h0 b1 b2 hr hq => by
      obtain ⟨v0', z1, z2⟩ := S'.sl q d0' h0
      have p0 := S'.pin (q, v0) (by simp [fcQ])
      have p0 : s'[q]? = some (some v0) := p0
      rw [p0] at z1
      cases z1
      exact hq v H' ow b (fun a o n y => S'.old a o (fun ⟨p, z⟩ => n p z) y) b1 b2 hr z2 (fun a l y n => (S'.own a l y).elim (fun z => absurd z n) id) (fun a y => S'.fo a y) S'.mu
  unfold runQ at h6
  cases e : fb (startR N.length (putQ q d0 ds)) with
  | nx r =>
    rw [e] at h6
    intro s' H' S'
    cases e2 : r[q]? with
    | none => simp only [e2] at h6
    | some o =>
      cases o with
      | none => simp only [e2] at h6
      | some d0' =>
        simp only [e2] at h6
        obtain ⟨ow, S'⟩ := S'
        exact fin (d := .non) (b := .tm 0) S' e2 (fun z => nomatch z) (fun z => nomatch z) rfl h6
  | rt x r =>
    rw [e] at h6
    intro s' v H' P'
    obtain ⟨⟨ow, S'⟩, l⟩ := P'
    cases x with
    | val d =>
      cases e2 : r[q]? with
      | none => simp only [e2] at h6
      | some o =>
        cases o with
        | none => simp only [e2] at h6
        | some d0' =>
          simp only [e2] at h6
          have z := opd_rep (x := .val d) (T := []) (T2 := []) (by simpa using S') l rfl
          exact fin (b := .tm 0) S' e2 (fun z => nomatch z) (fun z => nomatch z) z h6
    | loc i =>
      by_cases hi : i = q
      · simp only [hi, if_true] at h6
      · simp only [hi, if_false] at h6
        cases e3 : opd r (.loc i) with
        | none => simp only [e3] at h6
        | some d =>
          cases e2 : r[q]? with
          | none => simp only [e3, e2] at h6
          | some o =>
            cases o with
            | none => simp only [e3, e2] at h6
            | some d0' =>
              simp only [e3, e2] at h6
              have z := opd_rep (x := .loc i) (T := []) (T2 := []) (by simpa using S') l e3
              exact fin (b := .sl i) S' e2 (fun z => nomatch z) (fun z => hi (by injection z)) z h6
  | exc c r => rw [e] at h6; exact h6.elim
  | bk r => rw [e] at h6; exact h6.elim
  | ct r => rw [e] at h6; exact h6.elim
  | bad => rw [e] at h6; exact h6.elim
end
section
variable {X : Cx} {G : GX} {C : Fc} {W : WX} {ow ow' : Ow} {r : Rho} {T T1 T2 : List (D × V)} {s : L2.St} {H H' : Hp} {fs : Av}
/-- the last temporary goes back into the slot that it came from -/
def homeF (n i : Nat) : Loc → Option Loc
  | ⟨.sl j, p⟩ => if j = i then none else some ⟨.sl j, p⟩
  | ⟨.tm j, p⟩ => if j = n then some ⟨.sl i, p⟩ else if j < n then some ⟨.tm j, p⟩ else none
  | ⟨.fo, p⟩ => some ⟨.fo, p⟩
theorem StW.home {i : Nat} {d : D} {v : V} (S : StW G C ow r (T ++ [(d, v)]) s H) (hv : s[i]? = some (some v)) : StW G C (VL.rel (homeF T.length i) ow) (r.set i (some d)) T s H := by
  refine StW.reloc (StW.drop S) (by simp) (fun ⟨b, p⟩ h => by have h : b = .fo := h; subst h; rfl) (fun j d' y => ?_) fun j d' w y => ?_
  · by_cases hj : j = i
    · subst hj
      have hlt : j < r.length := by
        have := (List.getElem?_eq_some_iff.mp y).1
        simpa using this
      rw [List.getElem?_set_self hlt] at y
      cases y
      exact ⟨v, hv, (StW.last S).rel fun p => if_pos rfl⟩
    · rw [List.getElem?_set_ne (Ne.symm hj)] at y
      obtain ⟨w, y1, y2⟩ := S.sl j d' y
      exact ⟨w, y1, y2.rel fun p => if_neg hj⟩
  · have hj : j < T.length := (List.getElem?_eq_some_iff.mp y).1
    refine ((StW.drop S).tm j d' w y).rel fun p => ?_
    show (if j = T.length then _ else if j < T.length then _ else _) = _
    rw [if_neg (by omega), if_pos hj]
    rfl
def lentT (ow : Ow) (m q : Nat) : Ow := fun a => match ow a with
  | some l => if l.b = .tm m then some ⟨.sl q, l.p⟩ else some ⟨.fo, []⟩
  | none => none
def paidT (ow ow1 : Ow) (m n q : Nat) : Ow := fun a => match ow1 a with
  | some l => if l.b = .fo then ow a else if l.b = .sl q then some ⟨.tm m, l.p⟩ else some ⟨.tm n, l.p⟩
  | none => none
theorem lentT_none {m q : Nat} {a : Addr} : lentT ow m q a = none ↔ ow a = none := by
  unfold lentT
  cases ow a with
  | none => simp
  | some l => by_cases h : l.b = .tm m <;> simp [h]
theorem lentT_tm {m q : Nat} {a : Addr} {p : List Nat} : lentT ow m q a = some ⟨.sl q, p⟩ ↔ ow a = some ⟨.tm m, p⟩ := by
  unfold lentT
  cases ow a with
  | none => simp
  | some l =>
    obtain ⟨lb, lp⟩ := l
    by_cases h : lb = .tm m <;> simp [h]
theorem lentT_fo {m q : Nat} {a : Addr} {l : Loc} (h : ow a = some l) (n : l.b ≠ .tm m) : lentT ow m q a = some ⟨.fo, []⟩ := by
  unfold lentT; rw [h]; simp [n]
/-- the call, the changed thing the last temporary but one -/
theorem tempQ {q n : Nat} {F : D → List D → MO} {d0 : D} {v0 : V} {ds : List D} {us1 us2 : List V} {Q : VK} {E : XK} (S2 : StW G C ow r (T ++ [(d0, v0)]) s H) (hq : us1.length = q) (hn : ds.length = n) (hf : frzs ds = ds) (hr : Reps G ow H ds ⟨.fo, []⟩ 0 (us1 ++ us2))
    (h : match F d0 ds with
      | .ok d d0' => ∀ v H', StOk G C r (T ++ [(d0', v0)] ++ [(d, v)]) s H' → (∀ a o, H a = some o → (∀ p, ow a ≠ some ⟨.tm T.length, p⟩) → H' a = some o) → Q v H'
      | .bad => False) : spQ G q n F (us1 ++ v0 :: us2) H Q E := by
  have z2 : Rep G ow H d0 ⟨.tm T.length, []⟩ v0 := S2.last
  refine ⟨d0, ds, v0, us1, us2, lentT ow T.length q, rfl, hq, hn, hf, ?_, ?_, ?_, ?_⟩
  · refine Rep.mono (l := ⟨.tm T.length, []⟩) d0 (fun _ _ z _ => z) (fun _ _ z _ => z) (fun a o _ n => lentT_none.mpr n) (fun a o p _ n => ?_) z2
    exact lentT_tm.mpr n
  · exact Reps.moveF _ hf (fun a o z n => ⟨z, lentT_none.mpr n⟩) (fun _ _ z _ => z) hr
  · intro a m y
    unfold lentT at y
    cases x : ow a with
    | none => rw [x] at y; cases y
    | some m' =>
      rw [x] at y
      refine ⟨S2.mu a m' x, ?_⟩
      simp only at y
      split at y
      · cases y; exact .inl rfl
      · cases y; exact .inr rfl
  · cases e3 : F d0 ds with
    | bad => simp only [e3] at h
    | ok d d0' =>
      simp only [e3] at h
      intro v H' ow1 b k1 b1 b2 hr h0 k2 k3 k4
      have kept : ∀ a o, H a = some o → (∀ p, ow a ≠ some ⟨.tm T.length, p⟩) → H' a = some o := fun a o q n => k1 a o (fun p z => n p (lentT_tm.mp z)) q
      refine h v H' ⟨paidT ow ow1 T.length (T.length + 1) q, ?_⟩ kept
      have exn : ∀ a o, H a = some o → ¬ OwnO (some o) → H' a = some o := fun a o q n => kept a _ q fun p z => by
        have m := S2.mu a _ z
        rw [q] at m
        exact n m
      have none_ : ∀ a o, H a = some o → ow a = none → paidT ow ow1 T.length (T.length + 1) q a = none := fun a o q n => by
        unfold paidT
        cases y : ow1 a with
        | none => rfl
        | some m =>
          by_cases hf : m.b = .fo
          · simp only [hf, if_true]; exact n
          · rcases k2 a m y hf with z | ⟨p, z⟩
            · rw [z] at q; cases q
            · rw [lentT_tm.mp z] at n; cases n
      have same_ : ∀ a m, ow a = some m → m.b ≠ .tm T.length → paidT ow ow1 T.length (T.length + 1) q a = some m := fun a m q n => by
        unfold paidT
        rw [k3 a (lentT_fo q n)]
        simp [q]
      have hpush : StW G C (paidT ow ow1 T.length (T.length + 1) q) r (T ++ [(d0', v0)]) s H' := by
        refine ⟨S2.len, fun i' d' y => ?_, fun j' d' w y => ?_, fun a o n y => ?_, fun a m y => ?_, fun a y => ?_, fun a m y => ?_, S2.pin⟩
        · obtain ⟨w, y1, y2⟩ := S2.sl i' d' y
          refine ⟨w, y1, Rep.mono (l := ⟨.sl i', []⟩) d' (fun a o z u => kept a o z fun p z2 => ?_) (fun a o z n => exn a o z n) (fun a o z n => none_ a o z n) (fun a o p _ n => ?_) y2⟩
          · rcases u with u | ⟨p', u⟩
            · rw [u] at z2; cases z2
            · rw [u] at z2
              have z2 := Option.some.inj z2
              unfold Loc.app at z2
              injection z2 with z3 _
              cases z3
          · exact same_ a _ n (fun z => nomatch z)
        · rcases getT y with ⟨hj, y⟩ | ⟨hj, y⟩
          · have z := (StW.drop S2).tm j' d' w y
            refine Rep.mono (l := ⟨.tm j', []⟩) d' (fun a o z u => kept a o z fun p z2 => ?_) (fun a o z n => exn a o z n) (fun a o z n => none_ a o z n) (fun a o p _ n => ?_) z
            · rcases u with u | ⟨p', u⟩
              · rw [u] at z2; cases z2
              · rw [u] at z2
                have z2 := Option.some.inj z2
                unfold Loc.app at z2
                injection z2 with z3 _
                injection z3 with z3
                omega
            · exact same_ a _ n (fun z => by unfold Loc.app at z; injection z with z; omega)
          · cases y
            subst hj
            refine Rep.mono (l := ⟨.sl q, []⟩) d0' (fun _ _ z _ => z) (fun _ _ z _ => z) (fun a o _ n => by unfold paidT; rw [n]) (fun a o p _ n => ?_) h0
            have n' : ow1 a = some ⟨.sl q, [] ++ p⟩ := n
            unfold paidT
            rw [n']
            simp [Loc.app]
        · refine kept a o (S2.old a o n y) fun p z => ?_
          rcases S2.own a _ z with z2 | z2 | z2
          · cases z2
          · rw [z2] at y; cases y
          · exact n z2
        · unfold paidT at y
          cases y1 : ow1 a with
          | none => rw [y1] at y; cases y
          | some m' =>
            rw [y1] at y
            by_cases hf : m'.b = .fo
            · simp only [hf, if_true] at y
              exact S2.own a m y
            · refine .inr ?_
              rcases k2 a m' y1 hf with z | ⟨p, z⟩
              · cases e : C.H0 a with
                | none => exact .inl rfl
                | some u =>
                  by_cases hi : C.io a
                  · exact .inr hi
                  · rw [S2.old a u hi e] at z; cases z
              · rcases S2.own a _ (lentT_tm.mp z) with z2 | z2
                · cases z2
                · exact z2
        · exact same_ a _ (S2.fo a y) (fun z => nomatch z)
        · unfold paidT at y
          cases y1 : ow1 a with
          | none => rw [y1] at y; cases y
          | some m' => exact k4 a m' y1
      refine hpush.push (Rep.mono (l := ⟨b, []⟩) d (fun _ _ z _ => z) (fun _ _ z _ => z) (fun a o _ n => by unfold paidT; rw [n]) (fun a o p _ n => ?_) hr)
      have n' : ow1 a = some ⟨b, [] ++ p⟩ := n
      unfold paidT
      rw [n']
      simp [Loc.app, b1, b2]
theorem locs_split : ∀ {xs1 : List R} {x0 : R} {xs2 : List R} {vs : List V}, LocsOk s (xs1 ++ x0 :: xs2) vs → ∃ us1 v0 us2, vs = us1 ++ v0 :: us2 ∧ us1.length = xs1.length ∧ us2.length = xs2.length ∧ LocsOk s (xs1 ++ xs2) (us1 ++ us2) ∧ LocsOk s (xs2 ++ xs1) (us2 ++ us1) ∧ LocOk s v0 x0 ∧ pushs (xs1 ++ x0 :: xs2) vs = pushs xs1 us1 ++ (pushR x0 v0 ++ pushs xs2 us2) ∧ pushs (xs1 ++ xs2) (us1 ++ us2) = pushs xs1 us1 ++ pushs xs2 us2 ∧ pushs (xs2 ++ xs1) (us2 ++ us1) = pushs xs2 us2 ++ pushs xs1 us1 := by
  have app : ∀ {xs ys : List R} {us ws : List V}, xs.length = us.length → LocsOk s xs us → LocsOk s ys ws → LocsOk s (xs ++ ys) (us ++ ws) ∧ pushs (xs ++ ys) (us ++ ws) = pushs xs us ++ pushs ys ws := by
    intro xs
    induction xs with
    | nil =>
      intro ys us ws hl _ h2
      have : us = [] := by simpa using hl.symm
      subst this
      exact ⟨h2, rfl⟩
    | cons x xs ih =>
      intro ys us ws hl h1 h2
      cases us with
      | nil => simp at hl
      | cons u us =>
        obtain ⟨a, b⟩ := ih (by simpa using hl) h1.2 h2
        refine ⟨⟨h1.1, a⟩, ?_⟩
        show pushR x u ++ pushs (xs ++ ys) (us ++ ws) = (pushR x u ++ pushs xs us) ++ pushs ys ws
        rw [b, List.append_assoc]
  have spl : ∀ {xs1 : List R} {x0 : R} {xs2 : List R} {vs : List V}, LocsOk s (xs1 ++ x0 :: xs2) vs → ∃ us1 v0 us2, vs = us1 ++ v0 :: us2 ∧ us1.length = xs1.length ∧ us2.length = xs2.length ∧ LocsOk s xs1 us1 ∧ LocsOk s xs2 us2 ∧ LocOk s v0 x0 ∧ pushs (xs1 ++ x0 :: xs2) vs = pushs xs1 us1 ++ (pushR x0 v0 ++ pushs xs2 us2) := by
    intro xs1
    induction xs1 with
    | nil =>
      intro x0 xs2 vs h
      cases vs with
      | nil => exact h.elim
      | cons v vs => exact ⟨[], v, vs, rfl, rfl, h.2.length.symm, trivial, h.2, h.1, rfl⟩
    | cons x xs ih =>
      intro x0 xs2 vs h
      cases vs with
      | nil => exact h.elim
      | cons v vs =>
        obtain ⟨us1, v0, us2, e, l1, l2, h1, h2, h3, h4⟩ := ih h.2
        refine ⟨v :: us1, v0, us2, by rw [e]; rfl, by simp [l1], l2, ⟨h.1, h1⟩, h2, h3, ?_⟩
        show pushR x v ++ pushs (xs ++ x0 :: xs2) vs = (pushR x v ++ pushs xs us1) ++ _
        rw [h4, List.append_assoc]
  intro xs1 x0 xs2 vs h
  obtain ⟨us1, v0, us2, e, l1, l2, h1, h2, h3, h4⟩ := spl h
  obtain ⟨a1, b1⟩ := app l1.symm h1 h2
  obtain ⟨a2, b2⟩ := app l2.symm h2 h1
  exact ⟨us1, v0, us2, e, l1, l2, a1, a2, h3, h4, b1, b2⟩
theorem valsR_app : ∀ {xs ys : List R} {ds es : List D}, valsR xs = some ds → valsR ys = some es → valsR (xs ++ ys) = some (ds ++ es)
  | [], ys, ds, es, h1, h2 => by cases h1; exact h2
  | .loc _ :: _, _, _, _, h1, _ => by cases h1
  | .val d :: xs, ys, ds, es, h1, h2 => by
    unfold valsR at h1
    cases e : valsR xs with
    | none => rw [e] at h1; cases h1
    | some ds' =>
      rw [e] at h1
      cases h1
      show (match valsR (xs ++ ys) with | some ds => some (d :: ds) | none => none) = _
      rw [valsR_app e h2]; rfl
/-- the call: the q-th argument a name's own thing or a new one -/
def callKQ (q n : Nat) (F : D → List D → MO) (xs : List R) (r : Rho) : EO := if xs.length = n + 1 then (match xs.drop q with
  | .loc i :: rest => (match valsR (xs.take q), valsR rest, r[i]? with
    | some ds1, some ds2, some (some d0) => (match F d0 (frzs (ds1 ++ ds2)) with
      | .ok d d0' => .ok (.val d) (r.set i (some d0'))
      | .bad => .bad)
    | _, _, _ => .bad)
  | .val d0 :: rest => (match valsR (xs.take q), valsR rest with
    | some ds1, some ds2 => (match F d0 (frzs (ds1 ++ ds2)) with
      | .ok d _ => .ok (.val d) r
      | .bad => .bad)
    | _, _ => .bad)
  | [] => .bad) else .bad
def cCallQ (q n : Nat) (F : D → List D → MO) (fs : Av) : Ev := fun r => (fs r).bd (callKQ q n F)
theorem callQ_go {q n : Nat} {F : D → List D → MO} {Q : VK} {xs : List R} {vs : List V} {E : XK} (hqn : q ≤ n) (S : StOk G C r (T ++ pushs xs vs) s H) (l : LocsOk s xs vs) (h : Goes G C W T s Q (callKQ q n F xs r)) : spQ G q n F vs H Q E := by
  unfold callKQ at h
  split at h
  · rename_i hlen
    obtain ⟨x0, rest, hd⟩ : ∃ x0 rest, xs.drop q = x0 :: rest := by
      cases e : xs.drop q with
      | nil => have := congrArg List.length e; rw [List.length_drop] at this; simp at this; omega
      | cons x y => exact ⟨x, y, rfl⟩
    have hx : xs = xs.take q ++ x0 :: rest := by rw [← hd, List.take_append_drop]
    rw [hd] at h
    have htl : (xs.take q).length = q := by rw [List.length_take]; omega
    generalize hxs : xs.take q = xs1 at h hx htl
    subst hx
    obtain ⟨us1, v0, us2, ev, l1, l2, a1, a2, l0, e1, e2, e3⟩ := locs_split l
    rw [e1] at S
    subst ev
    have hrest : rest.length + q = n := by rw [List.length_append, List.length_cons] at hlen; omega
    cases x0 with
    | loc i =>
      simp only at h
      cases y1 : valsR xs1 with
      | none => simp only [y1] at h; exact h.elim
      | some ds1 =>
        cases y2 : valsR rest with
        | none => simp only [y1, y2] at h; exact h.elim
        | some ds2 =>
          cases y3 : r[i]? with
          | none => simp only [y1, y2, y3] at h; exact h.elim
          | some o =>
            cases o with
            | none => simp only [y1, y2, y3] at h; exact h.elim
            | some d0 =>
              simp only [y1, y2, y3] at h
              obtain ⟨ow, S⟩ := S
              have y12 := valsR_app y1 y2
              obtain ⟨g1, g2, g3⟩ := valsR_frz (r := r) y12
              obtain ⟨ow2, S2, r1, r2, r3⟩ := StW.settles (T := T) (xs := xs1 ++ rest) (vs := us1 ++ us2) (show StW G C ow r (T ++ pushs (xs1 ++ rest) (us1 ++ us2)) s H by rw [e2]; exact S) a1 g1
              rw [g2] at S2
              obtain ⟨v', z1, S3⟩ := S2.pull y3
              have l0 : s[i]? = some (some v0) := l0
              rw [l0] at z1
              cases z1
              refine tempQ (ds := frzs (ds1 ++ ds2)) S3 (by omega) (by rw [frzs_length, g3, List.length_append]; omega) (frzs_frzs _) (Reps.moveF _ (frzs_frzs _) (fun a o z n => ⟨z, rel_none n⟩) (fun _ _ z _ => z) (r1 ⟨.fo, []⟩ 0)) ?_
              cases y4 : F d0 (frzs (ds1 ++ ds2)) with
              | bad => simp only [y4] at h; exact h.elim
              | ok d d0' =>
                simp only [y4] at h
                intro v H' S4 _
                refine h v H' ⟨?_, trivial⟩
                have S5 : StOk G C (r.set i (some .any)) (T ++ ([(d0', v0)] ++ [(d, v)])) s H' := by simpa using S4
                have S6 := S5.swap
                obtain ⟨ow6, S6⟩ := S6
                have S7 : StW G C ow6 (r.set i (some .any)) ((T ++ [(d, v)]) ++ [(d0', v0)]) s H' := by simpa using S6
                have S8 := S7.home l0
                rw [List.set_set] at S8
                exact ⟨_, S8⟩
    | val d0 =>
      simp only at h
      cases y1 : valsR xs1 with
      | none => simp only [y1] at h; exact h.elim
      | some ds1 =>
        cases y2 : valsR rest with
        | none => simp only [y1, y2] at h; exact h.elim
        | some ds2 =>
          simp only [y1, y2] at h
          have S1 : StOk G C r ((T ++ [(d0, v0)]) ++ pushs (rest ++ xs1) (us2 ++ us1)) s H := by
            rw [e3]
            have z := StOk.swap (T := T) (A := pushs xs1 us1) (B := [(d0, v0)] ++ pushs rest us2) S
            simpa using z
          obtain ⟨ow, S1⟩ := S1
          have y21 := valsR_app y2 y1
          obtain ⟨g1, g2, g3⟩ := valsR_frz (r := r) y21
          have k1 := (valsR_frz (r := r) y1).2.2
          have k2 := (valsR_frz (r := r) y2).2.2
          obtain ⟨ow2, S2, r1, r2, r3⟩ := StW.settles S1 a2 g1
          rw [g2] at S2
          refine tempQ (ds := frzs (ds1 ++ ds2)) S2 (by omega) (by rw [frzs_length, List.length_append]; omega) (frzs_frzs _) ?_ ?_
          · have r1 := r1 ⟨.fo, []⟩ 0
            refine Reps.of_get (by rw [frzs_length, List.length_append, List.length_append]; omega) fun j d v x1 x2 => ?_
            have fd : frz d = d := by
              rw [frzs_map, List.getElem?_map] at x1
              cases z : (ds1 ++ ds2)[j]? with
              | none => rw [z] at x1; cases x1
              | some d1 => rw [z] at x1; cases x1; exact frz_frz d1
            have main : ∀ j', (frzs (ds2 ++ ds1))[j']? = some d → (us2 ++ us1)[j']? = some v → Rep G ow2 H d (Loc.sub ⟨.fo, []⟩ (0 + j)) v := fun j' w1 w2 => by
              obtain ⟨v', w3, w4⟩ := r1.get j' d w1
              rw [w2] at w3
              cases w3
              exact Rep.moveF d fd (fun a o z n => ⟨z, n⟩) (fun _ _ z _ => z) w4
            rw [frzs_map, List.map_append] at x1
            by_cases hj : j < ds1.length
            · rw [List.getElem?_append_left (by simpa using hj)] at x1
              rw [List.getElem?_append_left (by omega)] at x2
              refine main (ds2.length + j) ?_ ?_
              · rw [frzs_map, List.map_append, List.getElem?_append_right (by simp), List.length_map, Nat.add_sub_cancel_left]
                exact x1
              · rw [List.getElem?_append_right (by omega), show ds2.length + j - us2.length = j by omega]
                exact x2
            · rw [List.getElem?_append_right (by simpa using hj), List.length_map] at x1
              rw [List.getElem?_append_right (by omega)] at x2
              refine main (j - ds1.length) ?_ ?_
              · rw [frzs_map, List.map_append, List.getElem?_append_left (by
                  have := (List.getElem?_eq_some_iff.mp x1).1
                  exact this)]
                exact x1
              · rw [List.getElem?_append_left (by
                  have := (List.getElem?_eq_some_iff.mp x1).1
                  simp at this; omega), show j - ds1.length = j - us1.length by omega]
                exact x2
          · cases y4 : F d0 (frzs (ds1 ++ ds2)) with
            | bad => simp only [y4] at h; exact h.elim
            | ok d d0' =>
              simp only [y4] at h
              intro v H' S4 _
              exact h v H' (Post.slide (T2 := [(d0', v0)]) (x := .val d) ⟨S4, trivial⟩)
  · exact h.elim
theorem ve_callQ {q n k : Nat} {F : D → List D → MO} {f : Addr} {fd : FuncData} {ps : List Str} {x : Str} {p pos : Pos} {e : Expr} {es : List Expr} (tk : Takes X W) (Fk : FnOk X.prog X.w X.K X.mg X.base (L2.CX X.prog X.w) k f fd ps (spQ G q n F)) (hqn : q ≤ n) (hr : Room k X.A) (hg : Gl X x) (hm : X.mg x = some (.ref f))
    (hk : PySem.W.keepIn X.K (.ref f) = true) (hb : Binds X.K fd ps []) (ha : VA X G C W (e :: es) fs) (hdb : (x == ("__debug__" : Str)) = false := by decide) (he : starEach (e :: es) X.env = (false, eval e X.env) :: starEach es X.env := by rfl) (hpl : (backTo pos (starEach es X.env)).any (·.1) = false := by rfl) :
    VE X G C W (.Call (.Name x p) (e :: es) [] pos) (cCallQ q n F fs) := by
  refine PE.imp (pe_callS Fk hr hg hm hk hb (fun σ => passAt tk σ) ha hdb he hpl) fun s H Q h => ?_
  obtain ⟨r, T, S, g⟩ := h
  exact many (T2 := []) (by simpa using S) g fun xs vs r1 H1 S1 l1 g1 => callQ_go hqn (by simpa using S1) l1 g1
end
end VL

namespace VL
open PySem PySem.Spec PyProof.Rows L2
/-! ### a part by its place: x[k].append(e), f(x[k], ..) -/
section
variable {X : Cx} {G : GX} {C : Fc} {W : WX} {ow ow' : Ow} {r : Rho} {T T1 T2 : List (D × V)} {s : L2.St} {H H' : Hp} {fa fb fc fk : Ev} {fs : Av} {f g : Sv}
def unl0 (ow ow3 : Ow) (i : Nat) : Ow := fun b => match ow3 b with
  | none => none
  | some ⟨.fo, _⟩ => (match ow b with
    | some ⟨.fo, p⟩ => some ⟨.fo, p⟩
    | some ⟨.sl i', p⟩ => if i' = i then some ⟨.sl i, p⟩ else none
    | _ => none)
  | some ⟨.sl j', p⟩ => if j' = i then none else some ⟨.sl j', p⟩
  | some ⟨.tm n, p⟩ => some ⟨.tm n, p⟩
theorem unl0_none {ow3 : Ow} {i : Nat} {b : Addr} (h : ow3 b = none) : unl0 ow ow3 i b = none := by unfold unl0; rw [h]
theorem unl0_tm {ow3 : Ow} {i n : Nat} {p : List Nat} {b : Addr} (h : ow3 b = some ⟨.tm n, p⟩) : unl0 ow ow3 i b = some ⟨.tm n, p⟩ := by unfold unl0; rw [h]
theorem unl0_sl {ow3 : Ow} {i n : Nat} {p : List Nat} {b : Addr} (h : ow3 b = some ⟨.sl n, p⟩) (h1 : n ≠ i) : unl0 ow ow3 i b = some ⟨.sl n, p⟩ := by
  unfold unl0; rw [h]
  show (if n = i then none else some (Loc.mk (.sl n) p)) = _
  rw [if_neg h1]
theorem unl0_i {ow3 : Ow} {i : Nat} {p q : List Nat} {b : Addr} (h : ow3 b = some ⟨.fo, q⟩) (h1 : ow b = some ⟨.sl i, p⟩) : unl0 ow ow3 i b = some ⟨.sl i, p⟩ := by
  unfold unl0; rw [h, h1]
  show (if i = i then some (Loc.mk (.sl i) p) else none) = _
  rw [if_pos rfl]
theorem unl0_of {ow3 : Ow} {i : Nat} {b : Addr} {l : Loc} (h : unl0 ow ow3 i b = some l) : (∃ l3, ow3 b = some l3) ∧ ((∃ l0, ow b = some l0 ∧ (l.b = .fo ∨ l0.b ≠ .fo)) ∨ ∃ l3, ow3 b = some l3 ∧ l3.b ≠ .fo) := by
  unfold unl0 at h
  cases e : ow3 b with
  | none => rw [e] at h; cases h
  | some l3 =>
    refine ⟨⟨l3, rfl⟩, ?_⟩
    rw [e] at h
    obtain ⟨b3, p3⟩ := l3
    cases b3 with
    | fo =>
      cases e2 : ow b with
      | none => rw [e2] at h; cases h
      | some l0 =>
        rw [e2] at h
        obtain ⟨b0, p0⟩ := l0
        refine .inl ⟨_, rfl, ?_⟩
        cases b0 with
        | fo => cases h; exact .inl rfl
        | sl n => exact .inr fun z => nomatch z
        | tm n => exact .inr fun z => nomatch z
    | sl n => exact .inr ⟨_, rfl, fun z => nomatch z⟩
    | tm n => exact .inr ⟨_, rfl, fun z => nomatch z⟩
theorem StW.unlend0 {i : Nat} {k : Kd} {o : Bool} {ds : List D} {a : Addr} {vs : List V} {ow3 : Ow} {r3 : Rho} {T3 : List (D × V)} {s3 : L2.St} {H3 : Hp} (S : StW G C ow r T s H) (q : r[i]? = some (some (.node k o ds))) (hk : k ≠ .rd) (ha : s[i]? = some (some (.ref a)))
    (hH : Holds G H a k vs) (hu : ∀ us, Holds G H a k us → us = vs) (S3 : StW G (C.bod H ow i i (.ref a) (.ref a)) ow3 r3 T3 s3 H3) :
    StW G C (unl0 ow ow3 i) (r3.set i (some (.node k o ds))) T3 s3 H3 ∧ Holds G H3 a k vs ∧ s3[i]? = some (some (.ref a)) := by
  obtain ⟨w, z1, a', vs', ev, z2, z3, z4⟩ := S.sl i _ q
  rw [ha] at z1
  cases z1
  cases ev
  have ee := hu _ z2
  subst ee
  have oa : ow a = if o = true then some ⟨.sl i, []⟩ else none := z3.cases.resolve_left hk
  have keep : ∀ b o, H b = some o → ¬ (C.bod H ow i i (.ref a) (.ref a)).io b → H3 b = some o := fun b o e n => S3.old b o n e
  have nset : ∀ b p, ow b = some ⟨.sl i, p⟩ → ¬ (C.bod H ow i i (.ref a) (.ref a)).io b := fun b p e n => by
    obtain ⟨l, e2, _, n2⟩ := n
    rw [e] at e2
    cases e2
    exact n2 rfl
  have nnone : ∀ b, ow b = none → ¬ (C.bod H ow i i (.ref a) (.ref a)).io b := fun b e n => by
    obtain ⟨l, e2, _, _⟩ := n
    rw [e] at e2; cases e2
  have fo3 : ∀ b p, ow b = some ⟨.sl i, p⟩ → ow3 b = some ⟨.fo, []⟩ := fun b p e => S3.fo b (.inr ⟨p, e⟩)
  have nown : ∀ b o, H b = some o → ow b = none → unl0 ow ow3 i b = none := fun b o e n => by
    cases e3 : ow3 b with
    | none => exact unl0_none e3
    | some l3 =>
      obtain ⟨b3, p3⟩ := l3
      rcases S3.own b _ e3 with z | z | z
      · have z : b3 = .fo := z
        subst z
        unfold unl0
        rw [e3, n]
      · have z : H b = none := z
        rw [z] at e; cases e
      · exact absurd z (nnone b n)
  have p3i : s3[i]? = some (some (.ref a)) := S3.pin (i, .ref a) (List.mem_cons_of_mem _ List.mem_cons_self)
  have na : ¬ (C.bod H ow i i (.ref a) (.ref a)).io a := by
    cases o with
    | true => exact nset a [] (by simpa using oa)
    | false => exact nnone a (by simpa using oa)
  have hH3 : Holds G H3 a k vs' := by
    obtain ⟨ob, hob⟩ := hH.there hk
    exact hH.keep fun o z => keep a o z na
  refine ⟨⟨by simpa using S3.len, fun i' d y => ?_, fun n d w y => ?_, fun b o n y => ?_, fun b l y => ?_, fun b y => ?_, fun b l y => ?_, fun p hp => S3.pin p (List.mem_cons_of_mem _ (List.mem_cons_of_mem _ hp))⟩, hH3, p3i⟩
  · by_cases hi : i' = i
    · subst hi
      have hlt : i' < r3.length := by
        have := (List.getElem?_eq_some_iff.mp y).1
        simpa using this
      rw [List.getElem?_set_self hlt] at y
      cases y
      refine ⟨_, p3i, a, vs', rfl, hH3, .mk ?_, Reps.of_get z4.length fun n d v' y1 y2 => ?_⟩
      · obtain ⟨ob, hob⟩ := hH.there hk
        cases o with
        | true =>
          have oa' : ow a = some ⟨.sl i', []⟩ := by simpa using oa
          rw [unl0_i (fo3 a _ oa') oa']; rfl
        | false =>
          have oa' : ow a = none := by simpa using oa
          rw [nown a ob hob oa']; rfl
      · obtain ⟨v2, e1, e2⟩ := z4.get n d y1
        rw [y2] at e1
        cases e1
        refine e2.mono d (fun b o z u => keep b o z ?_) (fun b o z u => keep b o z ?_) (fun b o z n => nown b o z n) fun b o p _ z => ?_
        · rcases u with u | ⟨p, u⟩
          · exact nnone b u
          · exact nset b _ u
        · rintro ⟨l, x1, _, _⟩
          have := S.mu b l x1
          rw [z] at this
          exact u this
        · exact unl0_i (fo3 b _ z) z
    · rw [List.getElem?_set_ne (Ne.symm hi)] at y
      obtain ⟨w, y1, y2⟩ := S3.sl i' d y
      refine ⟨w, y1, y2.mono d (fun _ _ z _ => z) (fun _ _ z _ => z) (fun _ _ _ z => unl0_none z) fun b o p _ z => ?_⟩
      exact unl0_sl z hi
  · exact Rep.mono (l := ⟨.tm n, []⟩) d (fun _ _ z _ => z) (fun _ _ z _ => z) (fun _ _ _ z => unl0_none z) (fun b o p _ z => unl0_tm (p := [] ++ p) z) (S3.tm n d w y)
  · refine keep b o (S.old b o n y) ?_
    rintro ⟨l, x1, x2, _⟩
    rcases S.own b l x1 with z | z | z
    · exact x2 z
    · rw [z] at y; cases y
    · exact n z
  · have back : ∀ l0, ow b = some l0 → l0.b ≠ .fo → C.H0 b = none ∨ C.io b := fun l0 e n => (S.own b l0 e).resolve_left n
    rcases (unl0_of y).2 with ⟨l0, e, h | h⟩ | ⟨l3, e, h⟩
    · exact .inl h
    · exact .inr (back l0 e h)
    · refine .inr ?_
      rcases S3.own b l3 e with z | z | z
      · exact absurd z h
      · have z : H b = none := z
        cases e0 : C.H0 b with
        | none => exact .inl rfl
        | some o =>
          by_cases hi : C.io b
          · exact .inr hi
          · rw [S.old b o hi e0] at z; cases z
      · obtain ⟨l0, x1, x2, _⟩ := z
        exact back l0 x1 x2
  · have e3 := S3.fo b (.inl y)
    unfold unl0
    rw [e3, S.fo b y]
  · obtain ⟨⟨l3, e3⟩, _⟩ := unl0_of y
    exact S3.mu b l3 e3
/-- nothing is kept of it -/
theorem StW.unlendA {i : Nat} {a : Addr} {ow3 : Ow} {r3 : Rho} {T3 : List (D × V)} {s3 : L2.St} {H3 : Hp} (S : StW G C ow r T s H) (S3 : StW G (C.bod H ow i i (.ref a) (.ref a)) ow3 r3 T3 s3 H3) :
    StW G C (unl0 ow ow3 i) (r3.set i (some .any)) T3 s3 H3 := by
  have keep : ∀ b o, H b = some o → ¬ (C.bod H ow i i (.ref a) (.ref a)).io b → H3 b = some o := fun b o e n => S3.old b o n e
  have p3i : s3[i]? = some (some (.ref a)) := S3.pin (i, .ref a) (List.mem_cons_of_mem _ List.mem_cons_self)
  refine ⟨by simpa using S3.len, fun i' d y => ?_, fun n d w y => ?_, fun b o n y => ?_, fun b l y => ?_, fun b y => ?_, fun b l y => ?_, fun p hp => S3.pin p (List.mem_cons_of_mem _ (List.mem_cons_of_mem _ hp))⟩
  · by_cases hi : i' = i
    · subst hi
      have hlt : i' < r3.length := by
        have := (List.getElem?_eq_some_iff.mp y).1
        simpa using this
      rw [List.getElem?_set_self hlt] at y
      cases y
      exact ⟨_, p3i, trivial⟩
    · rw [List.getElem?_set_ne (Ne.symm hi)] at y
      obtain ⟨w, y1, y2⟩ := S3.sl i' d y
      refine ⟨w, y1, y2.mono d (fun _ _ z _ => z) (fun _ _ z _ => z) (fun _ _ _ z => unl0_none z) fun b o p _ z => ?_⟩
      exact unl0_sl z hi
  · exact Rep.mono (l := ⟨.tm n, []⟩) d (fun _ _ z _ => z) (fun _ _ z _ => z) (fun _ _ _ z => unl0_none z) (fun b o p _ z => unl0_tm (p := [] ++ p) z) (S3.tm n d w y)
  · refine keep b o (S.old b o n y) ?_
    rintro ⟨l, x1, x2, _⟩
    rcases S.own b l x1 with z | z | z
    · exact x2 z
    · rw [z] at y; cases y
    · exact n z
  · have back : ∀ l0, ow b = some l0 → l0.b ≠ .fo → C.H0 b = none ∨ C.io b := fun l0 e n => (S.own b l0 e).resolve_left n
    rcases (unl0_of y).2 with ⟨l0, e, h | h⟩ | ⟨l3, e, h⟩
    · exact .inl h
    · exact .inr (back l0 e h)
    · refine .inr ?_
      rcases S3.own b l3 e with z | z | z
      · exact absurd z h
      · have z : H b = none := z
        cases e0 : C.H0 b with
        | none => exact .inl rfl
        | some o =>
          by_cases hi : C.io b
          · exact .inr hi
          · rw [S.old b o hi e0] at z; cases z
      · obtain ⟨l0, x1, x2, _⟩ := z
        exact back l0 x1 x2
  · have e3 := S3.fo b (.inl y)
    unfold unl0
    rw [e3, S.fo b y]
  · obtain ⟨⟨l3, e3⟩, _⟩ := unl0_of y
    exact S3.mu b l3 e3
def seqK : Kd → Bool
  | .lst => true
  | .tup => true
  | _ => false
theorem seqK_of {k : Kd} (h : seqK k = true) : k = .lst ∨ k = .tup := by
  cases k <;> first | exact .inl rfl | exact .inr rfl | cases h
theorem seqK_one {k : Kd} {a : Addr} {us vs : List V} (h : seqK k = true) (h1 : Holds G H a k us) (h2 : Holds G H a k vs) : us = vs := by
  rcases seqK_of h with e | e
  · subst e
    have h1 : H a = some (.lst us) := h1
    have h2 : H a = some (.lst vs) := h2
    rw [h1] at h2; cases h2; rfl
  · subst e
    have h1 : H a = some (.tup us) := h1
    have h2 : H a = some (.tup vs) := h2
    rw [h1] at h2; cases h2; rfl
theorem seqK_ix {K : PySem.W.Frag} {k : Kd} {a : Addr} {vs : List V} {i : Int} {w : V} {Q : VK} (h : seqK k = true) (h1 : Holds G H a k vs) (h2 : atI vs i = some w) (hq : Q w H) : L2.rIx K (.ref a) (.int i) H Q := by
  rcases seqK_of h with e | e
  · subst e
    exact .inl ⟨a, vs, i, w, rfl, rfl, SqL.of h1, h2, hq⟩
  · subst e
    exact .inr (.inl ⟨a, vs, i, w, rfl, rfl, SqT.of h1, h2, hq⟩)
def isSeq (r : Rho) (i : Nat) : Bool := match r[i]? with
  | some (some (.node k _ _)) => seqK k
  | _ => false
theorem isSeq_at {i : Nat} (h : isSeq r i = true) : ∃ k o ds, r[i]? = some (some (.node k o ds)) ∧ seqK k = true := by
  unfold isSeq at h
  split at h
  · rename_i k o ds e; exact ⟨k, o, ds, e, h⟩
  · cases h
/-- where x[k] lies -/
def spot (r : Rho) (i : Nat) (y : R) : Option (Kd × Bool × List D × Nat × D) := match y, r[i]? with
  | .val (.int kk), some (some (.node k o ds)) => if seqK k = true then (match ixN ds.length kk with
    | some m => (match ds[m]? with
      | some d => some (k, o, ds, m, d)
      | none => none)
    | none => none) else none
  | _, _ => none
theorem spot_of {i : Nat} {y : R} {k : Kd} {o : Bool} {ds : List D} {m : Nat} {d : D} (h : spot r i y = some (k, o, ds, m, d)) : ∃ kk, y = .val (.int kk) ∧ r[i]? = some (some (.node k o ds)) ∧ seqK k = true ∧ ixN ds.length kk = some m ∧ ds[m]? = some d := by
  unfold spot at h
  split at h
  · rename_i kk k' o' ds' e
    split at h
    · rename_i hk
      split at h
      · rename_i m' em
        split at h
        · rename_i d' ed
          cases h
          exact ⟨kk, rfl, e, hk, em, ed⟩
        · cases h
      · cases h
    · cases h
  · cases h
def cAppP (i : Nat) (fk fa : Ev) : Ev := fun r => if isSeq r i = true then (fk r).bd (fun y r1 => match spot r1 i y with
  | some (k, o, ds, m, .node .lst true acc) => (match cSet fa (r1.set i (some .any)) with
    | .ok (.val d) r2 => if acc.length < 16777216 then .ok (.val .non) (r2.set i (some (.node k o (ds.set m (.node .lst true (acc ++ [d])))))) else .bad
    | .exc c r2 => .exc c (r2.set i (some .any))
    | _ => .bad)
  | _ => .bad) else .bad
/-- x[k] in hand, the rest lent away -/
theorem spot_go {i : Nat} {y : R} {u : V} {k : Kd} {o : Bool} {ds : List D} {m : Nat} {d : D} (P : Post G C r T s H y u) (h : spot r i y = some (k, o, ds, m, d)) : ∃ kk a vs w ow2, u = .int kk ∧ s[i]? = some (some (.ref a)) ∧ Holds G H a k vs ∧ atI vs kk = some w ∧ vs[m]? = some w ∧
    StW G C ow2 (r.set i (some (.node k o (ds.set m .any)))) (T ++ [(d, w)]) s H ∧ StW G (C.bod H ow2 i i (.ref a) (.ref a)) (VL.rel (lendF i) ow2) (r.set i (some .any)) (T ++ [(d, w)]) s H := by
  obtain ⟨kk, ey, q, hk, em, ed⟩ := spot_of h
  subst ey
  obtain ⟨⟨ow, S⟩, _⟩ := P
  have eu : u = .int kk := StW.last S
  obtain ⟨a, vs, w, w1, hA, oA, hl, hv, rx, S2⟩ := (StW.drop S).lift q ed
  have hat : atI vs kk = some w := by
    unfold atI
    rw [hl, em]
    exact hv
  have S3 := S2.lend w1 w1
  rw [List.set_set] at S3
  exact ⟨kk, a, vs, w, _, eu, w1, hA, hat, hv, S2, S3⟩
theorem ve_appP {i : Nat} {x : Str} {e ek : Expr} {p ps apos cpos : Pos} (hN : X.N[i]? = some x) (hv : Vis X.env.scope x) (hd : (x == ("__debug__" : Str)) = false) (hcd : (x == ("__classdict__" : Str)) = false) (hk : VE X G C W ek fk) (hs1 : PlainIx ek)
    (ha : ∀ C' : Fc, (∃ u v, C'.pin = (i, v) :: (i, u) :: C.pin) → VE X G C' W e fa)
    (hbase : attributeBase (.Subscript (.Name x p) ek ps) "append" X.env (eval (.Subscript (.Name x p) ek ps) X.env) = eval (.Subscript (.Name x p) ek ps) X.env := by rfl)
    (hfew : ((backTo cpos (starEach [e] X.env)).all (fun x => !x.1) && (backToKw cpos (keywordEach [] X.env)).all (fun x => x.1.isSome)
      && decide ([e].length + ([] : List Keyword).length + (if ([] : List Keyword).isEmpty then 0 else 1) < 30)) = true := by rfl)
    (hline : (apos.endLine == cpos.line) = true := by rfl) (hs : starEach [e] X.env = (false, eval e X.env) :: starEach [] X.env := by rfl) (hplain : (backTo cpos (starEach [] X.env)).any (·.1) = false := by rfl) :
    VE X G C W (.Call (.Attribute (.Subscript (.Name x p) ek ps) "append" apos) [e] [] cpos) (cAppP i fk fa) := by
  have he : PE X e (fun s H Q => ∃ C' : Fc, (∃ u v, C'.pin = (i, v) :: (i, u) :: C.pin) ∧ tV G C' W (cSet fa) s H Q) := ⟨fun pins s σ H Q I w => by
    obtain ⟨C', e', w⟩ := w
    exact (ve_set (ha C' e')).run pins s σ H Q I w⟩
  refine PE.imp (pe_bm PySem.F.plainAttrs_list PySem.F.slot_list_append PySem.F.type_list_append mt_append (pe_ix ix_seq (pe_var hN hv hd hcd) hk hs1) (pa_cons he pa_nil hs) hbase hfew hline hs hplain) fun s H Q h => ?_
  obtain ⟨r, T, S, g⟩ := h
  have g : Goes G C W T s Q (cAppP i fk fa r) := g
  unfold cAppP at g
  split at g
  · rename_i hi
    obtain ⟨k0, o0, ds0, hr, _⟩ := isSeq_at hi
    obtain ⟨ow, S0⟩ := S
    obtain ⟨v, v1, a0, vs0, ev, v2, v3, v4⟩ := S0.sl i _ hr
    subst ev
    refine ⟨_, v1, ?_⟩
    refine one (fa := fk) ⟨ow, S0⟩ g fun y u r1 H1 P g1 => ?_
    cases es : spot r1 i y with
    | none => simp only [es] at g1; exact g1.elim
    | some z =>
      obtain ⟨k, o, ds, m, d⟩ := z
      obtain ⟨kk, a, vs, w, ow2, eu, w1, hA, hat, hvm, S2, S3⟩ := spot_go P es
      obtain ⟨_, _, _, hk, _, hdm⟩ := spot_of es
      rw [v1] at w1
      cases w1
      subst eu
      refine seqK_ix hk hA hat ?_
      simp only [es] at g1
      split at g1
      · rename_i k' o' ds' m' acc ee
        cases ee
        obtain ⟨b, ws, eb, hB, oB, _⟩ := StW.last S2
        subst eb
        have hB : H1 b = some (.lst ws) := hB
        refine ⟨.inl ⟨rfl, ws, SqL.of hB⟩, ?_⟩
        refine ⟨_, ⟨_, _, rfl⟩, r1.set i (some .any), _, ⟨_, S3⟩, ?_⟩
        have hil : i < r1.length := by
          have := S2.len
          have h2 := (List.getElem?_eq_some_iff.mp v1).1
          simp at this; omega
        have q2 : (r1.set i (some (.node k o (ds.set m .any))))[i]? = some (some (.node k o (ds.set m .any))) := List.getElem?_set_self hil
        have hkr : k ≠ .rd := by rcases seqK_of hk with e | e <;> (rw [e]; exact fun z => nomatch z)
        cases e3 : cSet fa (r1.set i (some .any)) with
        | bad => simp only [e3] at g1; exact g1.elim
        | exc c r2 =>
          simp only [e3] at g1
          intro H4 S4
          obtain ⟨ow4, S4⟩ := S4
          exact g1 H4 (StOk.drop ⟨_, S2.unlendA S4⟩)
        | ok x r2 =>
          simp only [e3] at g1
          cases x with
          | loc l => exact g1.elim
          | val dv =>
            simp only at g1
            split at g1
            · rename_i hz
              intro v' H4 P4
              obtain ⟨⟨ow4, S4⟩, _⟩ := P4
              obtain ⟨S5, hA5, s5⟩ := S2.unlend0 q2 hkr v1 hA (fun us h => seqK_one hk h hA) S4
              have S5 : StW G C (unl0 ow2 ow4 i) (r2.set i (some (.node k o (ds.set m .any)))) (T ++ [(.node .lst true acc, .ref b), (dv, v')]) s H4 := by simpa [pushR] using S5
              obtain ⟨ws2, h1, h2, S6⟩ := StW.appT S5
              refine ⟨b, ws2, v', rfl, rfl, h1, by rw [h2, sizeLine_eq]; exact hz, ?_⟩
              have hil2 : i < r2.length := by
                have := S5.len
                have h2 := (List.getElem?_eq_some_iff.mp v1).1
                simp at this; omega
              have hne : a0 ≠ b := fun z => by
                subst z
                have o5 := S5.tm T.length (.node .lst true acc) (.ref a0) (by simp)
                obtain ⟨_, _, e5, _, o6, _⟩ := o5
                cases e5
                have o6 := o6.cases.resolve_left (fun z => nomatch z)
                obtain ⟨_, y1, a7, _, e7, _, o7, _⟩ := S5.sl i _ (List.getElem?_set_self hil2)
                rw [s5] at y1
                cases y1
                cases e7
                have o7 := o7.cases.resolve_left hkr
                rw [o6] at o7
                cases o <;> cases o7
              have hA6 : Holds G (upd H4 b (.lst (ws2 ++ [v']))) a0 k vs := hA5.keep fun o z => by rw [upd_ne hne]; exact z
              have S7 := S6.giveBack (List.getElem?_set_self hil2) s5 hkr hA6 hvm (fun us h => seqK_one hk h hA6)
              rw [List.set_set, List.set_set] at S7
              exact g1 _ _ ⟨StOk.pushN ⟨_, S7⟩, trivial⟩
            · exact g1.elim
      · exact g1.elim
  · exact g.elim
/-! ### f(x[k], ..) -/
def callKP (i n : Nat) (F : D → List D → MO) (fs : Av) (y : R) (r1 : Rho) : EO := match spot r1 i y with
  | some (k, o, ds, m, d0) => (match fs (r1.set i (some .any)) with
    | .ok xs r2 => if xs.length = n then (match valsR xs with
      | some as => (match F d0 (frzs as) with
        | .ok d d0' => .ok (.val d) (r2.set i (some (.node k o (ds.set m d0'))))
        | .bad => .bad)
      | none => .bad) else .bad
    | .exc c r2 => .exc c (r2.set i (some .any))
    | .bad => .bad)
  | none => .bad
def cCallP (i n : Nat) (F : D → List D → MO) (fk : Ev) (fs : Av) : Ev := fun r => if isSeq r i = true then (fk r).bd (callKP i n F fs) else .bad
theorem ve_callP {i n k : Nat} {F : D → List D → MO} {f : Addr} {fd : FuncData} {ps : List Str} {x y : Str} {p py psub pos : Pos} {ek : Expr} {es : List Expr} (tk : Takes X W) (Fk : FnOk X.prog X.w X.K X.mg X.base (L2.CX X.prog X.w) k f fd ps (spQ G 0 n F)) (hr : Room k X.A) (hg : Gl X x) (hm : X.mg x = some (.ref f))
    (hk : PySem.W.keepIn X.K (.ref f) = true) (hb : Binds X.K fd ps []) (hN : X.N[i]? = some y) (hv : Vis X.env.scope y) (hd : (y == ("__debug__" : Str)) = false) (hcd : (y == ("__classdict__" : Str)) = false) (hek : VE X G C W ek fk) (hs1 : PlainIx ek)
    (ha : ∀ C' : Fc, (∃ u v, C'.pin = (i, v) :: (i, u) :: C.pin) → VA X G C' W es fs) (hdb : (x == ("__debug__" : Str)) = false := by decide) (he : starEach (.Subscript (.Name y py) ek psub :: es) X.env = (false, eval (.Subscript (.Name y py) ek psub) X.env) :: starEach es X.env := by rfl) (hpl : (backTo pos (starEach es X.env)).any (·.1) = false := by rfl) :
    VE X G C W (.Call (.Name x p) (.Subscript (.Name y py) ek psub :: es) [] pos) (cCallP i n F fk fs) := by
  have hA : PA X es (fun s H Q => ∃ C' : Fc, (∃ u v, C'.pin = (i, v) :: (i, u) :: C.pin) ∧ tVA G C' W fs s H Q) := ⟨fun pos pins s σ H Q I w => by
    obtain ⟨C', e', w⟩ := w
    exact (ha C' e').run pos pins s σ H Q I w⟩
  refine PE.imp (pe_callS Fk hr hg hm hk hb (fun σ => passAt tk σ) (pa_cons (pe_ix ix_seq (pe_var hN hv hd hcd) hek hs1) hA he) hdb he hpl) fun s H Q h => ?_
  obtain ⟨r, T, S, g⟩ := h
  have g : Goes G C W T s Q (cCallP i n F fk fs r) := g
  unfold cCallP at g
  split at g
  · rename_i hi
    obtain ⟨k0, o0, ds0, hr, _⟩ := isSeq_at hi
    obtain ⟨ow, S0⟩ := S
    obtain ⟨v, v1, a0, vs0, ev, v2, v3, v4⟩ := S0.sl i _ hr
    subst ev
    refine ⟨_, v1, ?_⟩
    refine one (fa := fk) ⟨ow, S0⟩ g fun y u r1 H1 P g1 => ?_
    unfold callKP at g1
    cases es : spot r1 i y with
    | none => simp only [es] at g1; exact g1.elim
    | some z =>
      obtain ⟨k, o, ds, m, d0⟩ := z
      obtain ⟨kk, a, vs, w, ow2, eu, w1, hA, hat, hvm, S2, S3⟩ := spot_go P es
      obtain ⟨_, _, _, hk, _, hdm⟩ := spot_of es
      rw [v1] at w1
      cases w1
      subst eu
      refine seqK_ix hk hA hat ?_
      simp only [es] at g1
      have hil : i < r1.length := by
        have := S2.len
        have h2 := (List.getElem?_eq_some_iff.mp v1).1
        simp at this; omega
      have q2 : (r1.set i (some (.node k o (ds.set m .any))))[i]? = some (some (.node k o (ds.set m .any))) := List.getElem?_set_self hil
      have hkr : k ≠ .rd := by rcases seqK_of hk with e | e <;> (rw [e]; exact fun z => nomatch z)
      refine ⟨_, ⟨_, _, rfl⟩, r1.set i (some .any), _, ⟨_, S3⟩, ?_⟩
      cases e3 : fs (r1.set i (some .any)) with
      | bad => simp only [e3] at g1; exact g1.elim
      | exc c r2 =>
        simp only [e3] at g1
        intro H4 S4
        obtain ⟨ow4, S4⟩ := S4
        exact g1 H4 (StOk.drop ⟨_, S2.unlendA S4⟩)
      | ok xs r2 =>
        simp only [e3] at g1
        split at g1
        · rename_i hn
          cases ex : valsR xs with
          | none => simp only [ex] at g1; exact g1.elim
          | some as =>
            simp only [ex] at g1
            intro us H4 S4 l4
            obtain ⟨ow4, S4⟩ := S4
            obtain ⟨S5, hA5, s5⟩ := S2.unlend0 q2 hkr v1 hA (fun us h => seqK_one hk h hA) S4
            have hil2 : i < r2.length := by
              have := S5.len
              have h2 := (List.getElem?_eq_some_iff.mp v1).1
              simp at this; omega
            obtain ⟨g1', g2', g3'⟩ := valsR_frz (r := r2.set i (some (.node k o (ds.set m .any)))) ex
            obtain ⟨ow6, S6, r1', r2', r3'⟩ := StW.settles S5 l4 g1'
            rw [g2'] at S6
            refine tempQ (ds := frzs as) (us1 := []) S6 rfl (by rw [frzs_length, g3', hn]) (frzs_frzs _) (r1' ⟨.fo, []⟩ 0) ?_
            cases e4 : F d0 (frzs as) with
            | bad => simp only [e4] at g1; exact g1.elim
            | ok d d0' =>
              simp only [e4] at g1
              intro v' H5 S7 kept
              have S7 : StOk G C (r2.set i (some (.node k o (ds.set m .any)))) (T ++ ([(d0', w)] ++ [(d, v')])) s H5 := by simpa using S7
              obtain ⟨ow7, S7⟩ := S7.swap
              have S7 : StW G C ow7 (r2.set i (some (.node k o (ds.set m .any)))) ((T ++ [(d, v')]) ++ [(d0', w)]) s H5 := by simpa using S7
              have hA6 : Holds G H5 a0 k vs := by
                refine hA5.keep fun ob z => kept a0 ob z fun p z2 => ?_
                obtain ⟨_, y1, a7, _, e7, _, o7, _⟩ := S6.sl i _ (List.getElem?_set_self hil2)
                rw [s5] at y1
                cases y1
                cases e7
                have o7 := o7.cases.resolve_left hkr
                rw [z2] at o7
                cases o <;> cases o7
              have S8 := S7.giveBack (List.getElem?_set_self hil2) s5 hkr hA6 hvm (fun us h => seqK_one hk h hA6)
              rw [List.set_set, List.set_set] at S8
              exact g1 _ _ ⟨⟨_, S8⟩, trivial⟩
        · exact g1.elim
  · exact g.elim
end
/-! ### values -/
theorem appP_ok {fk fa : Ev} {i m : Nat} {kk : Int} {k : Kd} {o : Bool} {r r1 r2 : Rho} {ds acc : List D} {d : D} (h0 : isSeq r i = true) (hk : fk r = .ok (.val (.int kk)) r1) (h1 : r1[i]? = some (some (.node k o ds))) (hs : seqK k = true) (hm : ixN ds.length kk = some m) (hd : ds[m]? = some (.node .lst true acc))
    (ha : fa (r1.set i (some .any)) = .ok (.val d) r2) (hl : acc.length < 16777216) : cExpr (cAppP i fk fa) r = .nx (r2.set i (some (.node k o (ds.set m (.node .lst true (acc ++ [d])))))) := by
  have sp : spot r1 i (.val (.int kk)) = some (k, o, ds, m, .node .lst true acc) := by
    unfold spot
    simp only [h1, hs, hm, hd, if_true]
  have e : cSet fa (r1.set i (some .any)) = .ok (.val d) r2 := by rw [q_set, ha, bd_ok]
  rw [q_expr]
  show (if isSeq r i = true then (fk r).bd _ else EO.bad).st _ = _
  rw [if_pos h0, hk, bd_ok]
  simp only [sp, e, if_pos hl]
  rfl
theorem callP_ok {fk : Ev} {fs : Av} {F : D → List D → MO} {i m n : Nat} {kk : Int} {k : Kd} {o : Bool} {r r1 r2 : Rho} {ds as : List D} {xs : List R} {d d0 d0' : D} (h0 : isSeq r i = true) (hk : fk r = .ok (.val (.int kk)) r1) (h1 : r1[i]? = some (some (.node k o ds))) (hs : seqK k = true) (hm : ixN ds.length kk = some m) (hd : ds[m]? = some d0)
    (ha : fs (r1.set i (some .any)) = .ok xs r2) (hn : xs.length = n) (hx : valsR xs = some as) (hF : F d0 (frzs as) = .ok d d0') : cCallP i n F fk fs r = .ok (.val d) (r2.set i (some (.node k o (ds.set m d0')))) := by
  have sp : spot r1 i (.val (.int kk)) = some (k, o, ds, m, d0) := by
    unfold spot
    simp only [h1, hs, hm, hd, if_true]
  unfold cCallP
  rw [if_pos h0, hk, bd_ok]
  unfold callKP
  simp only [sp, ha, if_pos hn, hx, hF]
theorem callQ_loc {q n i : Nat} {F : D → List D → MO} {fs : Av} {r r1 : Rho} {xs rest : List R} {ds1 ds2 : List D} {d d0 d0' : D} (h : fs r = .ok xs r1) (hn : xs.length = n + 1) (hd : xs.drop q = .loc i :: rest) (h1 : valsR (xs.take q) = some ds1) (h2 : valsR rest = some ds2) (h3 : r1[i]? = some (some d0)) (hF : F d0 (frzs (ds1 ++ ds2)) = .ok d d0') : cCallQ q n F fs r = .ok (.val d) (r1.set i (some d0')) := by
  unfold cCallQ
  rw [h]
  show callKQ q n F xs r1 = _
  unfold callKQ
  simp only [if_pos hn, hd, h1, h2, h3, hF]
theorem callQ_val {q n : Nat} {F : D → List D → MO} {fs : Av} {r r1 : Rho} {xs rest : List R} {ds1 ds2 : List D} {d d0 d0' : D} (h : fs r = .ok xs r1) (hn : xs.length = n + 1) (hd : xs.drop q = .val d0 :: rest) (h1 : valsR (xs.take q) = some ds1) (h2 : valsR rest = some ds2) (hF : F d0 (frzs (ds1 ++ ds2)) = .ok d d0') : cCallQ q n F fs r = .ok (.val d) r1 := by
  unfold cCallQ
  rw [h]
  show callKQ q n F xs r1 = _
  unfold callKQ
  simp only [if_pos hn, hd, h1, h2, hF]
section
variable {P : Program} {w : World} {K : PySem.W.Frag} {mg : Str → Option Value} {base : Heap} {G : GX}
theorem fnQ2 {x qual : Str} {st : Stmt} {f : Addr} {fd : FuncData} {N ps : List Str} {k q n : Nat} {fb : Sv} (F : Fun K x qual st f fd) (S : FnScope N ps (defScope st)) (hps : ps.length = n + 1)
    (hbody : ∀ (cdv : Value) (A : Around) (outer : List Env) (s : Shared) (H : Hp) (E : XK) (C : Fc), Room k (A.deeper (envOfC qual (defScope st) s.heap.objs.size f cdv)) → (∀ p ∈ C.pin, p.1 = q) → VSs (cxOf (L2.CX P w) P w K mg base N qual (defScope st) f cdv A outer s H E) G C (fun cls d _ H => E cls d H) (defBody st) fb) :
    FnOk P w K mg base (L2.CX P w) (k + 1) f fd ps (spQ G q n (runQ q N.length fb)) := by
  refine F.okX S (fun vs H Q E h => (spQ_len h).trans hps.symm) (fun cdv A outer s H vs Q E hr h => ?_)
  obtain ⟨d0, ds, v0, us1, us2, ow0, ev, hq, h1, h2, h3, h4, h5, h6⟩ := h
  subst ev
  refine ⟨_, hbody cdv A outer s H E (fcQ H ow0 q v0) hr (fun p hp => by
    have e : p = (q, v0) := by simpa [fcQ] using hp
    rw [e]), ?_⟩
  refine ⟨startR N.length (putQ q d0 ds), [], ⟨_, startQ_ok (N := N) hq h5 h2 h3 h4⟩, ?_⟩
  have fin : ∀ {d d0' : D} {v : V} {r : Rho} {T : List (D × V)} {s' : L2.St} {H' : Hp} {ow : Ow} {b : Bs}, StW G (fcQ H ow0 q v0) ow r T s' H' → r[q]? = some (some d0') → b ≠ .fo → b ≠ .sl q → Rep G ow H' d ⟨b, []⟩ v →
      (∀ v H' (ow1 : Ow) (b : Bs), (∀ a o, (∀ p, ow0 a ≠ some ⟨.sl q, p⟩) → H a = some o → H' a = some o) → b ≠ .fo → b ≠ .sl q → Rep G ow1 H' d ⟨b, []⟩ v → Rep G ow1 H' d0' ⟨.sl q, []⟩ v0 →
      (∀ a l, ow1 a = some l → l.b ≠ .fo → H a = none ∨ ∃ p, ow0 a = some ⟨.sl q, p⟩) → (∀ a, ow0 a = some ⟨.fo, []⟩ → ow1 a = some ⟨.fo, []⟩) → (∀ a l, ow1 a = some l → OwnO (H' a)) → Q v H') → Q v H' :=
    fun {d d0' v r T s' H' ow b} S' h0 b1 b2 hr hq => by
      obtain ⟨v0', z1, z2⟩ := S'.sl q d0' h0
      have p0 := S'.pin (q, v0) (by simp [fcQ])
      have p0 : s'[q]? = some (some v0) := p0
      rw [p0] at z1
      cases z1
      exact hq v H' ow b (fun a o n y => S'.old a o (fun ⟨p, z⟩ => n p z) y) b1 b2 hr z2 (fun a l y n => (S'.own a l y).elim (fun z => absurd z n) id) (fun a y => S'.fo a y) S'.mu
  unfold runQ at h6
  cases e : fb (startR N.length (putQ q d0 ds)) with
  | nx r =>
    rw [e] at h6
    intro s' H' S'
    cases e2 : r[q]? with
    | none => simp only [e2] at h6
    | some o =>
      cases o with
      | none => simp only [e2] at h6
      | some d0' =>
        simp only [e2] at h6
        obtain ⟨ow, S'⟩ := S'
        exact fin (d := .non) (b := .tm 0) S' e2 (fun z => nomatch z) (fun z => nomatch z) rfl h6
  | rt x r =>
    rw [e] at h6
    intro s' v H' P'
    obtain ⟨⟨ow, S'⟩, l⟩ := P'
    cases x with
    | val d =>
      cases e2 : r[q]? with
      | none => simp only [e2] at h6
      | some o =>
        cases o with
        | none => simp only [e2] at h6
        | some d0' =>
          simp only [e2] at h6
          have z := opd_rep (x := .val d) (T := []) (T2 := []) (by simpa using S') l rfl
          exact fin (b := .tm 0) S' e2 (fun z => nomatch z) (fun z => nomatch z) z h6
    | loc i =>
      by_cases hi : i = q
      · simp only [hi, if_true] at h6
      · simp only [hi, if_false] at h6
        cases e3 : opd r (.loc i) with
        | none => simp only [e3] at h6
        | some d =>
          cases e2 : r[q]? with
          | none => simp only [e3, e2] at h6
          | some o =>
            cases o with
            | none => simp only [e3, e2] at h6
            | some d0' =>
              simp only [e3, e2] at h6
              have z := opd_rep (x := .loc i) (T := []) (T2 := []) (by simpa using S') l e3
              exact fin (b := .sl i) S' e2 (fun z => nomatch z) (fun z => hi (by injection z)) z h6
  | exc c r => rw [e] at h6; exact h6.elim
  | bk r => rw [e] at h6; exact h6.elim
  | ct r => rw [e] at h6; exact h6.elim
  | bad => rw [e] at h6; exact h6.elim
end
theorem pinQ {C : Fc} {q : Nat} (h : ∀ p ∈ C.pin, p.1 = q) (i : Nat) (hi : i ≠ q) : ∀ p ∈ C.pin, p.1 ≠ i := fun p hp z => hi ((h p hp).symm.trans z).symm
theorem pinQo {C : Fc} {q : Nat} (h : ∀ p ∈ C.pin, p.1 = q) (l : List Nat) (hl : q ∉ l) : ∀ p ∈ C.pin, p.1 ∉ l := fun p hp z => hl (by rw [h p hp] at z; exact z)
end VL

namespace VL
open PySem PySem.Spec PyProof.Rows L2
/-! ### an expression that only reads: what is owned stays so -/
def Fc.reads (C : Fc) (H : Hp) : Fc := ⟨H, fun _ => False, C.fo, C.pin⟩
theorem pinP {C C' : Fc} {i : Nat} (h : ∀ p ∈ C.pin, p.1 ≠ i) (e : C'.pin = C.pin) : ∀ p ∈ C'.pin, p.1 ≠ i := by rw [e]; exact h
theorem pinPo {C C' : Fc} {l : List Nat} (h : ∀ p ∈ C.pin, p.1 ∉ l) (e : C'.pin = C.pin) : ∀ p ∈ C'.pin, p.1 ∉ l := by rw [e]; exact h
def frzR (r : Rho) : Rho := r.map fun o => o.map frz
def frzT (T : List (D × V)) : List (D × V) := T.map fun p => (frz p.1, p.2)
def onlyFo (ow : Ow) : Ow := fun a => match ow a with
  | some l => if l.b = .fo then some l else none
  | none => none
section
variable {X : Cx} {G : GX} {C : Fc} {W : WX} {ow ow' : Ow} {r : Rho} {T T1 T2 : List (D × V)} {s : L2.St} {H H' : Hp} {fa fb fc : Ev} {fs : Av} {f g : Sv}
theorem onlyFo_none {a : Addr} (h : ow a = none) : onlyFo ow a = none := by unfold onlyFo; rw [h]
theorem onlyFo_not {a : Addr} {l : Loc} (h : ow a = some l) (n : l.b ≠ .fo) : onlyFo ow a = none := by unfold onlyFo; rw [h]; exact if_neg n
theorem onlyFo_fo {a : Addr} {l : Loc} (h : ow a = some l) (n : l.b = .fo) : onlyFo ow a = some l := by unfold onlyFo; rw [h]; exact if_pos n
theorem onlyFo_of {a : Addr} {l : Loc} (h : onlyFo ow a = some l) : ow a = some l ∧ l.b = .fo := by
  unfold onlyFo at h
  cases e : ow a with
  | none => rw [e] at h; cases h
  | some m =>
    rw [e] at h
    by_cases n : m.b = .fo
    · have h : (if m.b = .fo then some m else none) = some l := h
      rw [if_pos n] at h; cases h; exact ⟨rfl, n⟩
    · have h : (if m.b = .fo then some m else none) = some l := h
      rw [if_neg n] at h; cases h
theorem StW.reads (S : StW G C ow r T s H) : StW G (C.reads H) (onlyFo ow) (frzR r) (frzT T) s H where
  len := by simpa [frzR] using S.len
  sl := fun i d q => by
    unfold frzR at q
    rw [List.getElem?_map] at q
    cases e : r[i]? with
    | none => rw [e] at q; cases q
    | some o =>
      rw [e] at q
      cases o with
      | none => cases q
      | some d0 =>
        cases q
        obtain ⟨v, y1, y2⟩ := S.sl i d0 e
        refine ⟨v, y1, Rep.frz (l := ⟨.sl i, []⟩) d0 (fun a o z q => ⟨z, ?_⟩) (fun _ _ z _ => z) y2⟩
        rcases q with q | ⟨p, q⟩
        · exact onlyFo_none q
        · exact onlyFo_not q (fun z => nomatch z)
  tm := fun j d v q => by
    unfold frzT at q
    rw [List.getElem?_map] at q
    cases e : T[j]? with
    | none => rw [e] at q; cases q
    | some p =>
      rw [e] at q
      obtain ⟨d0, v0⟩ := p
      cases q
      refine Rep.frz (l := ⟨.tm j, []⟩) d0 (fun a o z q => ⟨z, ?_⟩) (fun _ _ z _ => z) (S.tm j d0 _ e)
      rcases q with q | ⟨p, q⟩
      · exact onlyFo_none q
      · exact onlyFo_not q (fun z => nomatch z)
  old := fun a o _ z => z
  own := fun a l q => .inl (onlyFo_of q).2
  fo := fun a q => onlyFo_fo (S.fo a q) rfl
  mu := fun a l q => S.mu a l (onlyFo_of q).1
  pin := S.pin
def cPure (fa : Ev) : Ev := fun r => match fa (frzR r) with
  | .ok (.val d) _ => if noL d = true then .ok (.val d) r else .bad
  | .exc c _ => .exc c r
  | _ => .bad
theorem pure_go {Q : VK} (h : tV G C W (cPure fa) s H Q) : ∃ C' : Fc, C'.pin = C.pin ∧ tV G C' W fa s H Q := by
  obtain ⟨r, T, ⟨ow, S⟩, g⟩ := h
  refine ⟨C.reads H, rfl, frzR r, frzT T, ⟨_, S.reads⟩, ?_⟩
  have g : Goes G C W T s Q (cPure fa r) := g
  unfold cPure at g
  cases e : fa (frzR r) with
  | bad => simp only [e] at g; exact g.elim
  | exc c r1 =>
    simp only [e] at g
    intro H1 S1
    obtain ⟨ow1, S1⟩ := S1
    have hx : Ext H H1 := fun a o z => S1.old a o (fun z => z) z
    exact g H1 ⟨ow, S.ext hx⟩
  | ok x r1 =>
    simp only [e] at g
    cases x with
    | loc i => exact g.elim
    | val d =>
      simp only at g
      split at g
      · rename_i hno
        intro v H1 P1
        obtain ⟨⟨ow1, S1⟩, _⟩ := P1
        have hx : Ext H H1 := fun a o z => S1.old a o (fun z => z) z
        have lt : (frzT T).length = T.length := by simp [frzT]
        have hd : Rep G ow1 H1 d ⟨.tm (frzT T).length, []⟩ v := S1.last
        rw [lt] at hd
        have hr : Rep G (VL.aft H ow ow1 T.length) H1 d ⟨.tm T.length, []⟩ v := Rep.aft (l := ⟨.tm T.length, []⟩) d (fun a k vs _ z y q nz => by
          rcases y with y | y
          · cases k with
            | tup =>
              cases y2 : ow a with
              | none => rfl
              | some m =>
                have mu := S.mu a m y2
                cases z2 : H a with
                | none => exact absurd z2 nz
                | some u =>
                  have z3 := hx a u z2
                  rw [show H1 a = some (.tup vs) from z] at z3
                  cases z3
                  rw [z2] at mu
                  exact mu.elim
            | _ => cases y
          · rw [hno] at y; cases y) (fun a m q n => by
            rcases S1.own a m q with z | z | z
            · exact absurd z n
            · exact z
            · exact z.elim) (fun z => nomatch z) rfl rfl hd
        exact g v H1 ⟨⟨_, S.aft hx S1.mu hr⟩, trivial⟩
      · exact g.elim
theorem ve_pure {e : Expr} (h : ∀ C' : Fc, C'.pin = C.pin → VE X G C' W e fa) : VE X G C W e (cPure fa) := ⟨fun pins s σ H Q I w => by
  obtain ⟨C', e', w⟩ := pure_go w
  exact (h C' e').run pins s σ H Q I w⟩
theorem pure_goT {Q : Bool → Hp → Prop} (h : tVT G C W (cPure fa) s H Q) : ∃ C' : Fc, C'.pin = C.pin ∧ tVT G C' W fa s H Q := by
  obtain ⟨r, T, ⟨ow, S⟩, g⟩ := h
  refine ⟨C.reads H, rfl, frzR r, frzT T, ⟨_, S.reads⟩, ?_⟩
  unfold cPure at g
  cases e : fa (frzR r) with
  | bad => simp only [e] at g
  | exc c r1 =>
    simp only [e] at g
    intro H1 S1
    obtain ⟨ow1, S1⟩ := S1
    exact g H1 ⟨ow, S.ext fun a o z => S1.old a o (fun z => z) z⟩
  | ok x r1 =>
    simp only [e] at g
    cases x with
    | loc i => exact g.elim
    | val d =>
      simp only at g
      by_cases hno : noL d = true
      · rw [if_pos hno] at g
        cases d with
        | bl b =>
          intro H1 S1
          obtain ⟨ow1, S1⟩ := S1
          exact g H1 ⟨ow, S.ext fun a o z => S1.old a o (fun z => z) z⟩
        | _ => exact g.elim
      · rw [if_neg hno] at g
        exact g.elim
theorem vt_pure {e : Expr} (h : ∀ C' : Fc, C'.pin = C.pin → VT X G C' W e fa) : VT X G C W e (cPure fa) := ⟨fun pins s σ H Q I w => by
  obtain ⟨C', e', w⟩ := pure_goT w
  exact (h C' e').run pins s σ H Q I w⟩
theorem ps_setLcR {i : Nat} {y : Str} {py : Pos} {elt tg iter : Expr} {ifs : List Expr} {scope : Scope} {own : List (Str × Nat)} {pos spos : Pos} {fi : Iv} {t : Tg} {ft : Option Ev} {fe : Ev} (hc : X.calm = true) (hN : X.N.Nodup) (hy : X.N[i]? = some y) (hyl : X.env.scope.names.lookup y = some .local)
    (hsw : swapsWith (.ListComp elt [⟨tg, iter, ifs, 0⟩] scope pos) (some (.Name y py)) spos.line X.env = pure true) (hi : VI X G C W tg iter fi) (ok : BlkOk X.N X.env.scope scope own)
    (hpin : ∀ p ∈ C.pin, p.1 ∉ own.map (·.2)) (hts : ∀ i ∈ t.slots, i ∈ own.map (·.2))
    (hg : ∀ (s : Shared) (H : Hp) (ca : Addr) (cl : List (Str × Addr)) (fp : List Addr), VG (X.blk s H scope (compEnvC scope cl ca X.env) fp) G C tg t) (ht : ∀ (s : Shared) (H : Hp) (ca : Addr) (cl : List (Str × Addr)) (fp : List Addr), VTs (X.blk s H scope (compEnvC scope cl ca X.env) fp) G C W0 ifs ft)
    (he : ∀ (s : Shared) (H : Hp) (ca : Addr) (cl : List (Str × Addr)) (fp : List Addr), VE (X.blk s H scope (compEnvC scope cl ca X.env) fp) G C W0 elt fe) (hs : ∀ x, foldedSetIterable iter X.env x = pure x := by intro _; rfl) :
    PS X (.Assign [.Name y py] (.ListComp elt [⟨tg, iter, ifs, 0⟩] scope pos) spos) (fun D s H => tV G C W (cLc (own.map (·.2)) t fi ft fe) s H fun x H1 => gName i x s H1 D.nx) :=
  PS.imp (ps_setLc hc hN hy hyl hsw hi ok hg ht (fun s H ca cl fp => ve_set (he s H ca cl fp)) hs) fun D s H h => lc_go hpin hts h
/-- a list of things read, put under a name -/
theorem vs_setLcP {i : Nat} {st : Stmt} (hp : ∀ p ∈ C.pin, p.1 ≠ i) (h : ∀ C' : Fc, C'.pin = C.pin → PS X st (fun D s H => tV G C' W fa s H fun x H1 => gName i x s H1 D.nx)) : VS X G C W st (cAsg (.nm i) (cPure fa)) := ⟨fun pins s σ H E I w => by
  obtain ⟨r, T, S, g⟩ := w
  have z : tV G C W (cPure fa) σ H fun x H1 => gName i x σ H1 E.nx := by
    refine ⟨r, T, S, ?_⟩
    have g : GoesS G C W T E (cAsg (.nm i) (cPure fa) r) := g
    unfold cAsg cSet at g
    cases e : cPure fa r with
    | bad => rw [e] at g; exact g.elim
    | exc c r1 => rw [e] at g; exact fun H1 S1 => g σ H1 S1
    | ok x r1 =>
      rw [e] at g
      cases x with
      | loc j =>
        unfold cPure at e
        split at e
        · split at e <;> cases e
        · cases e
        · cases e
      | val d => exact fun v H1 P => g _ _ (P.1.set hp)
  obtain ⟨C', e', z⟩ := pure_go z
  exact (h C' e').run pins s σ H E I z⟩
end
theorem pure_ok {fa : Ev} {r r1 : Rho} {d : D} (h : fa (frzR r) = .ok (.val d) r1) (hn : noL d = true) : cPure fa r = .ok (.val d) r := by
  unfold cPure
  rw [h]
  exact if_pos hn
/-! ### a name's thing handed on for good -/
def cTake (i : Nat) : Ev := fun r => match r[i]? with
  | some (some d) => .ok (.val d) (r.set i (some .any))
  | _ => .bad
section
variable {X : Cx} {G : GX} {C : Fc} {W : WX}
theorem ve_take {i : Nat} {x : Str} {pos : Pos} (hN : X.N[i]? = some x) (hv : Vis X.env.scope x) (hd : (x == ("__debug__" : Str)) = false := by decide) (hcd : (x == ("__classdict__" : Str)) = false := by decide) : VE X G C W (.Name x pos) (cTake i) := by
  refine PE.imp (pe_var hN hv hd hcd) fun s H Q h => ?_
  obtain ⟨r, T, ⟨ow, S⟩, g⟩ := h
  have g : Goes G C W T s Q (cTake i r) := g
  unfold cTake at g
  split at g
  · rename_i d e
    obtain ⟨v, z1, S2⟩ := S.pull e
    exact ⟨v, z1, g v H ⟨⟨_, S2⟩, trivial⟩⟩
  · exact g.elim
end
theorem take_at {r : Rho} {i : Nat} {d : D} (h : r[i]? = some (some d)) : cTake i r = .ok (.val d) (r.set i (some .any)) := by
  unfold cTake
  rw [h]
end VL

namespace VL
open PySem PySem.Spec PyProof.Rows L2
/-! ### xs.pop(k) of whole numbers -/
def popIK (i : Nat) (x : R) (r1 : Rho) : EO := match opd r1 x, r1[i]? with
  | some (.int k), some (some (.node .lst true ds)) => (match intsOf ds with
    | some ns => (match ixN ns.length k with
      | some j => (match ns[j]? with
        | some y => if -(2 ^ 63) ≤ k ∧ k < 2 ^ 63 then .ok (.val (.int y)) ((r1.set i (some (.node .lst true (frzs ds)))).set i (some (.node .lst true ((ns.eraseIdx j).map .int)))) else .bad
        | none => .bad)
      | none => .bad)
    | none => .bad)
  | _, _ => .bad
def cPopI (i : Nat) (fa : Ev) : Ev := fun r => if isLst r i = true then (fa r).bd (popIK i) else .bad
section
variable {X : Cx} {G : GX} {C : Fc} {W : WX} {fa : Ev}
theorem erase_map {α β : Type} (f : α → β) : ∀ (xs : List α) (j : Nat), (xs.map f).eraseIdx j = (xs.eraseIdx j).map f
  | [], _ => rfl
  | _ :: _, 0 => rfl
  | x :: xs, j + 1 => by
    show f x :: (xs.map f).eraseIdx j = f x :: (xs.eraseIdx j).map f
    rw [erase_map f xs j]
theorem ve_popI {i : Nat} {x : Str} {e : Expr} {p apos cpos : Pos} (hN : X.N[i]? = some x) (hv : Vis X.env.scope x) (hd : (x == ("__debug__" : Str)) = false) (hcd : (x == ("__classdict__" : Str)) = false) (ha : VE X G C W e fa)
    (hbase : attributeBase (.Name x p) "pop" X.env (eval (.Name x p) X.env) = eval (.Name x p) X.env := by rfl)
    (hfew : ((backTo cpos (starEach [e] X.env)).all (fun x => !x.1) && (backToKw cpos (keywordEach [] X.env)).all (fun x => x.1.isSome)
      && decide ([e].length + ([] : List Keyword).length + (if ([] : List Keyword).isEmpty then 0 else 1) < 30)) = true := by rfl)
    (hline : (apos.endLine == cpos.line) = true := by rfl) (hs : starEach [e] X.env = (false, eval e X.env) :: starEach [] X.env := by rfl) (hplain : (backTo cpos (starEach [] X.env)).any (·.1) = false := by rfl) :
    VE X G C W (.Call (.Attribute (.Name x p) "pop" apos) [e] [] cpos) (cPopI i fa) := by
  refine PE.imp (pe_bm PySem.F.plainAttrs_list PySem.F.slot_list_pop PySem.F.type_list_pop mt_popAt (pe_var hN hv hd hcd) (pa_cons ha pa_nil hs) hbase hfew hline hs hplain) fun s H Q h => ?_
  obtain ⟨r, T, S, g⟩ := h
  have g : Goes G C W T s Q (cPopI i fa r) := g
  unfold cPopI at g
  split at g
  · rename_i hi
    obtain ⟨o, ds, hr⟩ := isLst_at hi
    obtain ⟨ow, S0⟩ := S
    obtain ⟨v, v1, a, vs, ev, v2, v3, v4⟩ := S0.sl i _ hr
    subst ev
    refine ⟨_, v1, .inl ⟨rfl, vs, SqL.of v2⟩, ?_⟩
    refine one (fa := fa) ⟨ow, S0⟩ g fun x v' r1 H1 P g1 => ?_
    unfold popIK at g1
    split at g1
    · rename_i k ds2 e1 q
      split at g1
      · rename_i ns e2
        split at g1
        · rename_i j hj
          split at g1
          · rename_i y hy
            split at g1
            · rename_i hk
              obtain ⟨ow1, S1⟩ := P.1
              have ek := rep_int (opd_rep (T2 := []) (by simpa using S1) P.2 e1)
              obtain ⟨ow3, a', vs', z1, hA, S3, q3, rx, hn3, oa⟩ := S1.drop.mine q
              rw [v1] at z1
              cases z1
              have ev := ints_rep (by rw [frzs_ints_of e2]; exact e2) (rx ⟨.fo, []⟩)
              obtain ⟨s1, s2, s3, s4⟩ := ixN_seq hj
              have S4 := S3.relist (o' := true) (ds' := (ns.eraseIdx j).map .int) (vs' := (ns.eraseIdx j).map V.int) (l := ⟨.fo, []⟩) (n := 0) q3 v1 (frzs_ints _) (reps_ints _ _ _)
              refine ⟨a, vs', k, j, V.int y, rfl, by rw [ek], hA, hk.1, hk.2, ?_, ?_, ?_⟩
              · rw [ev, List.length_map]; exact s1
              · rw [ev, List.getElem?_map, hy]; rfl
              · rw [ev, erase_map]
                exact g1 _ _ ⟨⟨_, StW.push S4 rfl⟩, trivial⟩
            · exact g1.elim
          · exact g1.elim
        · exact g1.elim
      · exact g1.elim
    · exact g1.elim
  · exact g.elim
end
/-! ### x[k] taken out of its list, for good -/
def cMoveIx (i : Nat) (fk : Ev) : Ev := fun r => if isSeq r i = true then (fk r).bd (fun y r1 => match spot r1 i y with
  | some (k, o, ds, m, d) => .ok (.val d) (r1.set i (some (.node k o (ds.set m .any))))
  | none => .bad) else .bad
section
variable {X : Cx} {G : GX} {C : Fc} {W : WX} {fk : Ev}
theorem ve_moveIx {i : Nat} {x : Str} {ek : Expr} {p ps : Pos} (hN : X.N[i]? = some x) (hv : Vis X.env.scope x) (hd : (x == ("__debug__" : Str)) = false) (hcd : (x == ("__classdict__" : Str)) = false) (hk : VE X G C W ek fk) (hs1 : PlainIx ek) :
    VE X G C W (.Subscript (.Name x p) ek ps) (cMoveIx i fk) := by
  refine PE.imp (pe_ix ix_seq (pe_var hN hv hd hcd) hk hs1) fun s H Q h => ?_
  obtain ⟨r, T, S, g⟩ := h
  have g : Goes G C W T s Q (cMoveIx i fk r) := g
  unfold cMoveIx at g
  split at g
  · rename_i hi
    obtain ⟨k0, o0, ds0, hr, _⟩ := isSeq_at hi
    obtain ⟨ow, S0⟩ := S
    obtain ⟨v, v1, a0, vs0, ev, v2, v3, v4⟩ := S0.sl i _ hr
    subst ev
    refine ⟨_, v1, ?_⟩
    refine one (fa := fk) ⟨ow, S0⟩ g fun y u r1 H1 P g1 => ?_
    cases es : spot r1 i y with
    | none => simp only [es] at g1; exact g1.elim
    | some z =>
      obtain ⟨k, o, ds, m, d⟩ := z
      obtain ⟨kk, a, vs, w, ow2, eu, w1, hA, hat, hvm, S2, S3⟩ := spot_go P es
      obtain ⟨_, _, _, hk, _, hdm⟩ := spot_of es
      rw [v1] at w1
      cases w1
      subst eu
      refine seqK_ix hk hA hat ?_
      simp only [es] at g1
      exact g1 _ _ ⟨⟨_, S2⟩, trivial⟩
  · exact g.elim
end
theorem moveIx_ok {fk : Ev} {i m : Nat} {kk : Int} {k : Kd} {o : Bool} {r r1 : Rho} {ds : List D} {d : D} (h0 : isSeq r i = true) (hk : fk r = .ok (.val (.int kk)) r1) (h1 : r1[i]? = some (some (.node k o ds))) (hs : seqK k = true) (hm : ixN ds.length kk = some m) (hd : ds[m]? = some d) : cMoveIx i fk r = .ok (.val d) (r1.set i (some (.node k o (ds.set m .any)))) := by
  have sp : spot r1 i (.val (.int kk)) = some (k, o, ds, m, d) := by
    unfold spot
    simp only [h1, hs, hm, hd, if_true]
  show (if isSeq r i = true then (fk r).bd _ else EO.bad) = _
  rw [if_pos h0, hk, bd_ok]
  simp only [sp]
theorem ixN_at {n j : Nat} (h : j < n) : ixN n (j : Int) = some j := by
  unfold ixN
  rw [if_pos (by omega), if_pos (by omega), Int.toNat_natCast]
theorem popI_ok {r r1 : Rho} {i v : Nat} {fa : Ev} {xs : List Int} {y : Int} (h0 : isLst r i = true) (h : fa r = .ok (.val (.int (v : Nat))) r1) (h1 : r1[i]? = some (some (.node .lst true (xs.map .int)))) (hv : xs[v]? = some y) (hs : v < 2 ^ 62) : cPopI i fa r = .ok (.val (.int y)) (r1.set i (some (.node .lst true ((xs.eraseIdx v).map .int)))) := by
  have hl : v < xs.length := (List.getElem?_eq_some_iff.mp hv).1
  unfold cPopI
  rw [if_pos h0, h, bd_ok]
  unfold popIK
  have e1 : opd r1 (.val (.int (v : Nat))) = some (.int (v : Nat)) := rfl
  simp only [e1, h1, intsOf_map, ixN_at hl, hv, frzs_ints]
  rw [if_pos ⟨by omega, by omega⟩, List.set_set]
/-! ### a comprehension with a test, over encoded things -/
theorem lcL_fl {α : Type} {enc g : α → D} {p : α → Bool} {t : Tg} {fc : Option Ev} {fe : Ev} {vs : List Nat} {r0 : Rho} : ∀ (xs : List α) (acc : List D), acc.length + xs.length < 16777216 →
    (∀ a ∈ xs, ∃ r1, tgt t (enc a) r0 = some r1 ∧ ∃ r2, tstR fc r1 = .ok (.val (.bl (p a))) r2 ∧ wipeR r2 vs = r0 ∧ (p a = true → ∃ r3, cSet fe r2 = .ok (.val (g a)) r3 ∧ wipeR r3 vs = r0)) → lcL t fc fe vs (xs.map enc) acc r0 = .ok (acc ++ (xs.filter p).map g) r0
  | [], acc, _, _ => by simp [lcL]
  | d :: ds, acc, hl, hs => by
    simp only [List.length_cons] at hl
    obtain ⟨r1, e1, r2, e2, e3, e4⟩ := hs d List.mem_cons_self
    rw [List.map_cons]
    unfold lcL
    rw [e1]
    show (match tstR fc r1 with | .ok (.val (.bl true)) r2 => (match cSet fe r2 with | .ok (.val e) r3 => if acc.length < 16777216 then lcL t fc fe vs (ds.map enc) (acc ++ [e]) (wipeR r3 vs) else .bad | _ => .bad) | .ok (.val (.bl false)) r2 => lcL t fc fe vs (ds.map enc) acc (wipeR r2 vs) | _ => LO.bad) = _
    rw [e2]
    cases hp : p d with
    | true =>
      obtain ⟨r3, e5, e6⟩ := e4 hp
      show (match cSet fe r2 with | .ok (.val e) r3 => if acc.length < 16777216 then lcL t fc fe vs (ds.map enc) (acc ++ [e]) (wipeR r3 vs) else .bad | _ => LO.bad) = _
      rw [e5]
      show (if acc.length < 16777216 then lcL t fc fe vs (ds.map enc) (acc ++ [g d]) (wipeR r3 vs) else LO.bad) = _
      rw [if_pos (by omega), e6, lcL_fl ds (acc ++ [g d]) (by rw [List.length_append, List.length_singleton]; omega) (fun x hx => hs x (List.mem_cons_of_mem _ hx)), List.filter_cons_of_pos (by rw [hp]), List.map_cons, List.append_assoc]
      rfl
    | false =>
      show lcL t fc fe vs (ds.map enc) acc (wipeR r2 vs) = _
      rw [e3, lcL_fl ds acc (by omega) (fun x hx => hs x (List.mem_cons_of_mem _ hx)), List.filter_cons_of_neg (by rw [hp]; decide)]
theorem lc_fl {α : Type} {enc g : α → D} {p : α → Bool} {fi : Iv} {t : Tg} {fc : Option Ev} {fe : Ev} {vs : List Nat} {r r1 r0 : Rho} (xs : List α) (hi : fi r = .ok (xs.map enc) r1) (h0 : wipeR r1 vs = r0) (hl : xs.length < 16777216)
    (hs : ∀ a ∈ xs, ∃ r1, tgt t (enc a) r0 = some r1 ∧ ∃ r2, tstR fc r1 = .ok (.val (.bl (p a))) r2 ∧ wipeR r2 vs = r0 ∧ (p a = true → ∃ r3, cSet fe r2 = .ok (.val (g a)) r3 ∧ wipeR r3 vs = r0)) : cLc vs t fi fc fe r = .ok (.val (.node .lst true ((xs.filter p).map g))) (backR r1 r0 vs) := by
  rw [q_lc, hi]
  show (match lcL t fc fe vs (xs.map enc) [] (wipeR r1 vs) with | .ok acc r2 => EO.ok (.val (.node .lst true acc)) (backR r1 r2 vs) | .bad => .bad) = _
  rw [h0, lcL_fl xs [] (by simpa using hl) hs]
  rfl
end VL

namespace VL
open PySem PySem.Spec PyProof.Rows L2
/-! ### x[k][j] = e, e a scalar, x[k] a list of scalars -/
section
variable {X : Cx} {G : GX} {C : Fc} {W : WX} {ow ow' : Ow} {r : Rho} {T T1 T2 : List (D × V)} {s : L2.St} {H H' : Hp} {fa fb fc fk fj : Ev} {fs : Av} {f g : Sv}
def scal : D → Bool
  | .int _ => true
  | .bl _ => true
  | .non => true
  | .str _ => true
  | _ => false
theorem rep_atomH {d : D} {v : V} {l l' : Loc} (a : scal d = true) (h : Rep G ow H d l v) : Rep G ow' H' d l' v := by
  cases d with
  | int _ => exact h
  | bl _ => exact h
  | non => exact h
  | str _ => exact h
  | _ => cases a
theorem StW.setT {acc : List D} {d : D} {a : Addr} {v : V} {j : Nat} (S : StW G C ow r (T ++ [(.node .lst true acc, .ref a)]) s H) (ha : acc.all scal = true) (ad : scal d = true) {l0 : Loc} {H0 : Hp} {ow0 : Ow} (hd : Rep G ow0 H0 d l0 v) : ∃ vs, H a = some (.lst vs) ∧ vs.length = acc.length ∧ StW G C ow r (T ++ [(.node .lst true (acc.set j d), .ref a)]) s (upd H a (.lst (vs.set j v))) := by
  have z0 := S.tm T.length (.node .lst true acc) (.ref a) (by simp)
  obtain ⟨a', vs, ev, h1, h2, h3⟩ := z0
  cases ev
  have h1 : H a = some (.lst vs) := h1
  have h2 : ow a = some ⟨.tm T.length, []⟩ := by simpa [OwnAt] using h2
  have ne : ∀ (b : Addr) (l : Loc), ow b = none ∨ (∃ q, ow b = some (l.app q)) → l.b ≠ .tm T.length → b ≠ a := fun b l hb hl e => by
    subst e
    rw [h2] at hb
    rcases hb with hb | ⟨q, hb⟩
    · cases hb
    · have hb := Option.some.inj hb
      unfold Loc.app at hb
      injection hb with e1 e2
      exact hl e1.symm
  have exn : ∀ (b : Addr) (o : HO), H b = some o → ¬ OwnO (some o) → upd H a (.lst (vs.set j v)) b = some o := fun b o z n => by
    rw [upd_ne (fun e => by rw [e, h1] at z; cases z; exact n trivial)]; exact z
  refine ⟨vs, h1, h3.length.symm, S.len, fun i d' q => ?_, fun n d' v' q => ?_, fun b o n q => ?_, fun b l q => S.own b l q, fun b q => S.fo b q, fun b l q => ?_, S.pin⟩
  · obtain ⟨v', z1, z2⟩ := S.sl i d' q
    exact ⟨v', z1, Rep.mono (l := ⟨.sl i, []⟩) d' (fun b o z y => by rw [upd_ne (ne b ⟨.sl i, []⟩ y (fun z => nomatch z))]; exact z) (fun b o z n => exn b o z n) (fun a o _ n => n) (fun a o q _ n => n) z2⟩
  · by_cases hj : n < T.length
    · rw [List.getElem?_append_left hj] at q
      have z := S.tm n d' v' (by rw [List.getElem?_append_left hj]; exact q)
      exact Rep.mono (l := ⟨.tm n, []⟩) d' (fun b o z y => by rw [upd_ne (ne b ⟨.tm n, []⟩ y (fun z => by injection z with z; omega))]; exact z) (fun b o z n => exn b o z n) (fun a o _ n => n) (fun a o q _ n => n) z
    · rw [List.getElem?_append_right (by omega)] at q
      have e : n = T.length := by
        have := (List.getElem?_eq_some_iff.mp q).1
        simp at this; omega
      subst e
      simp at q
      obtain ⟨e1, e2⟩ := q
      subst e1; subst e2
      refine ⟨a, vs.set j v, rfl, upd_same, .mk ?_, Reps.of_get (by rw [List.length_set, List.length_set]; exact h3.length) fun m dm vm q1 q2 => ?_⟩
      · rw [h2]; simp
      · by_cases hm : m = j
        · subst hm
          have l1 := (List.getElem?_eq_some_iff.mp q1).1
          have l2 := (List.getElem?_eq_some_iff.mp q2).1
          rw [List.length_set] at l1 l2
          rw [List.getElem?_set_self l1] at q1
          rw [List.getElem?_set_self l2] at q2
          cases q1; cases q2
          exact rep_atomH ad hd
        · rw [List.getElem?_set_ne (Ne.symm hm)] at q1 q2
          obtain ⟨vm', y1, y2⟩ := h3.get m dm q1
          rw [q2] at y1
          cases y1
          exact rep_atomH (List.all_eq_true.mp ha dm (List.mem_of_getElem? q1)) y2
  · by_cases hb : b = a
    · subst hb
      have z := S.old b o n q
      rcases S.own b _ h2 with z2 | z2 | z2
      · cases z2
      · rw [z2] at q; cases q
      · exact absurd z2 n
    · rw [upd_ne hb]; exact S.old b o n q
  · by_cases hb : b = a
    · subst hb; rw [upd_same]; trivial
    · rw [upd_ne hb]; exact S.mu b l q
def setPK (i : Nat) (fj : Ev) (d : D) (y : R) (r2 : Rho) : SO := match spot r2 i y with
  | some (k, o, ds, m, .node .lst true acc) => if acc.all scal = true then (match fj (r2.set i (some .any)) with
      | .ok (.val (.int jj)) r3 => (match ixN acc.length jj with
        | some j => .nx (r3.set i (some (.node k o (ds.set m (.node .lst true (acc.set j d))))))
        | none => .bad)
      | .exc c r3 => .exc c (r3.set i (some .any))
      | _ => .bad) else .bad
  | _ => .bad
def cSetIxP (i : Nat) (fk fj fa : Ev) : Sv := fun r => (cSet fa r).st fun x r1 => match x with
  | .val d => if scal d = true ∧ isSeq r1 i = true then (fk r1).st (setPK i fj d) else .bad
  | _ => .bad
theorem vs_setIxP {i : Nat} {x : Str} {ek ej e : Expr} {p ps tpos pos : Pos} (hN : X.N[i]? = some x) (hv : Vis X.env.scope x) (hd : (x == ("__debug__" : Str)) = false) (hcd : (x == ("__classdict__" : Str)) = false) (hk : VE X G C W ek fk) (hs1 : PlainIx ek)
    (hj : ∀ C' : Fc, (∃ u v, C'.pin = (i, v) :: (i, u) :: C.pin) → VE X G C' W ej fj) (ha : VE X G C W e fa)
    (has : ∀ v, assign (.Subscript (.Subscript (.Name x p) ek ps) ej tpos) X.env v = (do
      let ov ← holding [v] (eval (.Subscript (.Name x p) ek ps) X.env)
      let iv ← holding [v, ov] (eval ej X.env)
      standAt tpos
      holding [v, ov, iv] (setItem ov iv v)
      release [v, ov, iv] []) := by intro _; rfl)
    (hs : swapsWithSole [.Subscript (.Subscript (.Name x p) ek ps) ej tpos] e pos.line X.env = pure false := by rfl) (hw : swappedStores [.Subscript (.Subscript (.Name x p) ek ps) ej tpos] e X.env = pure none := by rfl)
    (h1 : (assignEach [.Subscript (.Subscript (.Name x p) ek ps) ej tpos] X.env).map (·.2) = [assign (.Subscript (.Subscript (.Name x p) ek ps) ej tpos) X.env] := by rfl) : VS X G C W (.Assign [.Subscript (.Subscript (.Name x p) ek ps) ej tpos] e pos) (cSetIxP i fk fj fa) := by
  have hej : PE X ej (fun s H Q => ∃ C' : Fc, (∃ u v, C'.pin = (i, v) :: (i, u) :: C.pin) ∧ tV G C' W fj s H Q) := ⟨fun pins s σ H Q I w => by
    obtain ⟨C', e', w⟩ := w
    exact (hj C' e').run pins s σ H Q I w⟩
  refine PS.imp (ps_asg (ve_set ha) (pg_sub (pe_ix ix_seq (pe_var hN hv hd hcd) hk hs1) hej set_list has) hs hw h1) fun D s H h => ?_
  obtain ⟨r, T, S, g⟩ := h
  have g : GoesS G C W T D (cSetIxP i fk fj fa r) := g
  refine oneS (fa := cSet fa) S g fun x v r1 H1 P g1 => ?_
  cases x with
  | loc l => exact g1.elim
  | val d =>
    simp only at g1
    split at g1
    · rename_i hz
      obtain ⟨ad, hi⟩ := hz
      obtain ⟨k0, o0, ds0, hr, _⟩ := isSeq_at hi
      obtain ⟨⟨ow1, S1⟩, _⟩ := P
      have S1 : StW G C ow1 r1 (T ++ [(d, v)]) s H1 := S1
      obtain ⟨w0, v1, a0, vs0, ev, v2, v3, v4⟩ := S1.sl i _ hr
      subst ev
      have rd : Rep G ow1 H1 d ⟨.tm T.length, []⟩ v := S1.last
      refine ⟨_, v1, ?_⟩
      refine ⟨r1, T ++ [(d, v)], ⟨ow1, S1⟩, ?_⟩
      cases e1 : fk r1 with
      | exc c r2 => rw [e1] at g1; exact fun H' S' => g1 s H' S'.drop
      | bad => rw [e1] at g1; exact g1.elim
      | ok y r2 =>
        rw [e1] at g1
        simp only [st_ok] at g1
        intro u H2 P2
        unfold setPK at g1
        cases es : spot r2 i y with
        | none => simp only [es] at g1; exact g1.elim
        | some z =>
          obtain ⟨k, o, ds, m, dp⟩ := z
          obtain ⟨kk, a, vs, w, ow2, eu, w1, hA, hat, hvm, S2, S3⟩ := spot_go P2 es
          obtain ⟨_, _, _, hkq, _, hdm⟩ := spot_of es
          rw [v1] at w1
          cases w1
          subst eu
          refine seqK_ix hkq hA hat ?_
          simp only [es] at g1
          split at g1
          · rename_i k' o' ds' m' acc ee
            cases ee
            split at g1
            · rename_i hall
              obtain ⟨b, ws, eb, hB, oB, _⟩ := StW.last S2
              subst eb
              refine ⟨_, ⟨_, _, rfl⟩, r2.set i (some .any), _, ⟨_, S3⟩, ?_⟩
              have hil : i < r2.length := by
                have := S2.len
                have h2 := (List.getElem?_eq_some_iff.mp v1).1
                simp at this; omega
              have q2 : (r2.set i (some (.node k o (ds.set m .any))))[i]? = some (some (.node k o (ds.set m .any))) := List.getElem?_set_self hil
              have hkr : k ≠ .rd := by rcases seqK_of hkq with e | e <;> (rw [e]; exact fun z => nomatch z)
              cases e3 : fj (r2.set i (some .any)) with
              | bad => simp only [e3] at g1; exact g1.elim
              | exc c r3 =>
                simp only [e3] at g1
                intro H4 S4
                obtain ⟨ow4, S4⟩ := S4
                exact g1 s H4 (StOk.drop (StOk.drop ⟨_, S2.unlendA S4⟩))
              | ok jx r3 =>
                simp only [e3] at g1
                split at g1
                · rename_i jj r3' ej2
                  cases ej2
                  split at g1
                  · rename_i j hjx
                    intro u4 H4 P4
                    obtain ⟨⟨ow4, S4⟩, _⟩ := P4
                    obtain ⟨S5, hA5, s5⟩ := S2.unlend0 q2 hkr v1 hA (fun us h => seqK_one hkq h hA) S4
                    have eu4 : u4 = .int jj := StW.last (T := T ++ [(d, v)] ++ [(.node .lst true acc, .ref b)]) (d := .int jj) S5
                    have S5 : StW G C (unl0 ow2 ow4 i) (r3.set i (some (.node k o (ds.set m .any)))) ((T ++ [(d, v)]) ++ [(.node .lst true acc, .ref b)]) s H4 := StW.drop (T2 := [(.int jj, u4)]) S5
                    obtain ⟨ws2, h1', h2', S6⟩ := S5.setT (j := j) hall ad rd
                    obtain ⟨m1, m2, _⟩ := ixN_seq hjx
                    refine ⟨b, ws2, jj, j, rfl, eu4, h1', by rw [h2']; exact hjx, ?_⟩
                    have hil2 : i < r3.length := by
                      have := S5.len
                      have h2 := (List.getElem?_eq_some_iff.mp v1).1
                      simp at this; omega
                    have hne : a0 ≠ b := fun z => by
                      subst z
                      have o5 := S5.tm (T ++ [(d, v)]).length (.node .lst true acc) (.ref a0) (by simp)
                      obtain ⟨_, _, e5, _, o6, _⟩ := o5
                      cases e5
                      have o6 := o6.cases.resolve_left (fun z => nomatch z)
                      obtain ⟨_, y1, a7, _, e7, _, o7, _⟩ := S5.sl i _ (List.getElem?_set_self hil2)
                      rw [s5] at y1
                      cases y1
                      cases e7
                      have o7 := o7.cases.resolve_left hkr
                      rw [o6] at o7
                      cases o <;> cases o7
                    have hA6 : Holds G (upd H4 b (.lst (ws2.set j v))) a0 k vs := hA5.keep fun o z => by rw [upd_ne hne]; exact z
                    have S7 := S6.giveBack (List.getElem?_set_self hil2) s5 hkr hA6 hvm (fun us h => seqK_one hkq h hA6)
                    rw [List.set_set, List.set_set] at S7
                    exact g1 _ _ (StOk.drop ⟨_, S7⟩)
                  · exact g1.elim
                · rename_i heq
                  simp only [reduceCtorEq] at heq
                · exact g1.elim
            · exact g1.elim
          · exact g1.elim
    · exact g1.elim
end
theorem setIxP_ok {fa fk fj : Ev} {i m j : Nat} {kk jj : Int} {k : Kd} {o : Bool} {r r1 r2 r3 : Rho} {ds acc : List D} {d : D} (h : fa r = .ok (.val d) r1) (ad : scal d = true) (hi : isSeq r1 i = true) (hk : fk r1 = .ok (.val (.int kk)) r2) (h2 : r2[i]? = some (some (.node k o ds))) (hs : seqK k = true) (hm : ixN ds.length kk = some m) (hd : ds[m]? = some (.node .lst true acc))
    (hall : acc.all scal = true) (hj : fj (r2.set i (some .any)) = .ok (.val (.int jj)) r3) (hx : ixN acc.length jj = some j) : cSetIxP i fk fj fa r = .nx (r3.set i (some (.node k o (ds.set m (.node .lst true (acc.set j d)))))) := by
  have sp : spot r2 i (.val (.int kk)) = some (k, o, ds, m, .node .lst true acc) := by
    unfold spot
    simp only [h2, hs, hm, hd, if_true]
  have e : cSet fa r = .ok (.val d) r1 := by rw [q_set, h, bd_ok]
  show (cSet fa r).st _ = _
  rw [e]
  show (if scal d = true ∧ isSeq r1 i = true then (fk r1).st (setPK i fj d) else .bad) = _
  rw [if_pos ⟨ad, hi⟩, hk]
  show setPK i fj d (.val (.int kk)) r2 = _
  unfold setPK
  simp only [sp, hall, if_true, hj, hx]
theorem scal_ints (xs : List Int) : (xs.map D.int).all scal = true := by
  rw [List.all_map, List.all_eq_true]
  exact fun x _ => rfl
/-! ### one name's thing is changed, all else is but read -/
mutual
theorem Rep.own3 {G : GX} {H' : Hp} : ∀ (d : D) {l l' : Loc} {v : V} {ow1 ow3 : Ow}, (∀ a k vs, k ≠ .rd → Holds G H' a k vs → (isTup k = true ∨ VL.noL d = false) → ow1 a = none → ow3 a = none) → (∀ a p, ow1 a = some (l.app p) → ow3 a = some (l'.app p)) → Rep G ow1 H' d l v → Rep G ow3 H' d l' v
  | .any, _, _, _, _, _, _, _, _ => trivial
  | .non, _, _, _, _, _, _, _, h => h
  | .bl _, _, _, _, _, _, _, _, h => h
  | .int _, _, _, _, _, _, _, _, h => h
  | .str _, _, _, _, _, _, _, _, h => h
  | .exc _, _, _, _, _, _, _, _, h => h
  | .ty _, _, _, _, _, _, _, _, h => h
  | .cls _, _, _, _, _, _, _, _, h => h
  | .node k o xs, l, l', v, ow1, ow3, hz, hn, h => by
    obtain ⟨a, vs, ev, h1, h2, h3⟩ := h
    have un : VL.noLs xs = false → VL.noL (.node k o xs) = false := fun z => by
      show ((o || isTup k) && VL.noLs xs) = false
      rw [z, Bool.and_false]
    refine ⟨a, vs, ev, h1, ?_, Reps.own3 xs (fun a k' vs' nr z y => hz a k' vs' nr z (y.imp id un)) hn h3⟩
    by_cases hrd : k = .rd
    · subst hrd; trivial
    have h2 := h2.cases.resolve_left hrd
    refine .mk ?_
    cases o with
    | true =>
      have q : ow1 a = some l := by simpa using h2
      have e0 : l.app [] = l := by unfold Loc.app; rw [List.append_nil]
      have e1 : l'.app [] = l' := by unfold Loc.app; rw [List.append_nil]
      have z := hn a [] (by rw [e0]; exact q)
      rw [e1] at z
      rw [z]; simp
    | false =>
      have q : ow1 a = none := by simpa using h2
      have hk : isTup k = true ∨ VL.noL (.node k false xs) = false := by
        cases e : isTup k with
        | true => exact .inl rfl
        | false =>
          refine .inr ?_
          show ((false || isTup k) && VL.noLs xs) = false
          rw [e]; rfl
      rw [hz a k vs hrd h1 hk q]; simp
theorem Reps.own3 {G : GX} {H' : Hp} : ∀ (ds : List D) {l l' : Loc} {i : Nat} {vs : List V} {ow1 ow3 : Ow}, (∀ a k vs, k ≠ .rd → Holds G H' a k vs → (isTup k = true ∨ VL.noLs ds = false) → ow1 a = none → ow3 a = none) → (∀ a p, ow1 a = some (l.app p) → ow3 a = some (l'.app p)) → Reps G ow1 H' ds l i vs → Reps G ow3 H' ds l' i vs
  | [], _, _, _, _, _, _, _, _, h => h
  | d :: ds, l, l', i, vs, ow1, ow3, hz, hn, h => by
    obtain ⟨v, ws, ev, h1, h2⟩ := h
    have u1 : VL.noL d = false → VL.noLs (d :: ds) = false := fun z => by show (VL.noL d && VL.noLs ds) = false; rw [z]; rfl
    have u2 : VL.noLs ds = false → VL.noLs (d :: ds) = false := fun z => by show (VL.noL d && VL.noLs ds) = false; rw [z, Bool.and_false]
    refine ⟨v, ws, ev, Rep.own3 (l := l.sub i) (l' := l'.sub i) d (fun a k vs nr z y => hz a k vs nr z (y.imp id u1)) (fun a p q => ?_) h1, Reps.own3 ds (fun a k vs nr z y => hz a k vs nr z (y.imp id u2)) hn h2⟩
    have e : ∀ m : Loc, (m.sub i).app p = m.app (i :: p) := fun m => by unfold Loc.sub Loc.app; simp
    rw [e] at q ⊢
    exact hn a _ q
end
def Fc.readsK (C : Fc) (H : Hp) (ow : Ow) (i : Nat) : Fc := ⟨H, fun a => ∃ p, ow a = some ⟨.sl i, p⟩, C.fo, C.pin⟩
def keepI (ow : Ow) (i : Nat) : Ow := fun a => match ow a with
  | some l => if l.b = .fo ∨ l.b = .sl i then some l else none
  | none => none
def frzRK (i : Nat) (r : Rho) : Rho := (frzR r).set i (match r[i]? with
  | some o => o
  | none => none)
section
variable {X : Cx} {G : GX} {C : Fc} {W : WX} {ow ow' : Ow} {r : Rho} {T T1 T2 : List (D × V)} {s : L2.St} {H H' : Hp} {fa fb fc : Ev} {fs : Av} {f g : Sv}
theorem keepI_none {i : Nat} {a : Addr} (h : ow a = none) : keepI ow i a = none := by unfold keepI; rw [h]
theorem keepI_not {i : Nat} {a : Addr} {l : Loc} (h : ow a = some l) (n : l.b ≠ .fo) (n2 : l.b ≠ .sl i) : keepI ow i a = none := by
  unfold keepI; rw [h]; exact if_neg (fun z => z.elim n n2)
theorem keepI_yes {i : Nat} {a : Addr} {l : Loc} (h : ow a = some l) (n : l.b = .fo ∨ l.b = .sl i) : keepI ow i a = some l := by unfold keepI; rw [h]; exact if_pos n
theorem keepI_of {i : Nat} {a : Addr} {l : Loc} (h : keepI ow i a = some l) : ow a = some l ∧ (l.b = .fo ∨ l.b = .sl i) := by
  unfold keepI at h
  cases e : ow a with
  | none => rw [e] at h; cases h
  | some m =>
    rw [e] at h
    by_cases n : m.b = .fo ∨ m.b = .sl i
    · have h : (if m.b = .fo ∨ m.b = .sl i then some m else none) = some l := h
      rw [if_pos n] at h; cases h; exact ⟨rfl, n⟩
    · have h : (if m.b = .fo ∨ m.b = .sl i then some m else none) = some l := h
      rw [if_neg n] at h; cases h
theorem StW.readsK {i : Nat} (S : StW G C ow r T s H) : StW G (C.readsK H ow i) (keepI ow i) (frzRK i r) (frzT T) s H where
  len := by simpa [frzRK, frzR] using S.len
  sl := fun j d q => by
    unfold frzRK at q
    by_cases hj : i = j
    · subst hj
      have hlt : i < (frzR r).length := by
        have := (List.getElem?_eq_some_iff.mp q).1
        simpa using this
      rw [List.getElem?_set_self hlt] at q
      have q := Option.some.inj q
      cases e : r[i]? with
      | none => rw [e] at q; cases q
      | some o =>
        rw [e] at q
        have q : o = some d := q
        subst q
        obtain ⟨v, y1, y2⟩ := S.sl i d e
        exact ⟨v, y1, Rep.mono (l := ⟨.sl i, []⟩) d (fun _ _ z _ => z) (fun _ _ z _ => z) (fun a o _ n => keepI_none n) (fun a o p _ n => keepI_yes n (.inr rfl)) y2⟩
    · rw [List.getElem?_set_ne hj] at q
      unfold frzR at q
      rw [List.getElem?_map] at q
      cases e : r[j]? with
      | none => rw [e] at q; cases q
      | some o =>
        rw [e] at q
        cases o with
        | none => cases q
        | some d0 =>
          cases q
          obtain ⟨v, y1, y2⟩ := S.sl j d0 e
          refine ⟨v, y1, Rep.frz (l := ⟨.sl j, []⟩) d0 (fun a o z q => ⟨z, ?_⟩) (fun _ _ z _ => z) y2⟩
          rcases q with q | ⟨p, q⟩
          · exact keepI_none q
          · exact keepI_not q (fun z => nomatch z) (fun z => hj (by injection z with z; exact z.symm))
  tm := fun j d v q => by
    unfold frzT at q
    rw [List.getElem?_map] at q
    cases e : T[j]? with
    | none => rw [e] at q; cases q
    | some p =>
      rw [e] at q
      obtain ⟨d0, v0⟩ := p
      cases q
      refine Rep.frz (l := ⟨.tm j, []⟩) d0 (fun a o z q => ⟨z, ?_⟩) (fun _ _ z _ => z) (S.tm j d0 _ e)
      rcases q with q | ⟨p, q⟩
      · exact keepI_none q
      · exact keepI_not q (fun z => nomatch z) (fun z => nomatch z)
  old := fun a o _ z => z
  own := fun a l q => by
    obtain ⟨q1, q2⟩ := keepI_of q
    rcases q2 with z | z
    · exact .inl z
    · obtain ⟨lb, lp⟩ := l
      have z : lb = .sl i := z
      subst z
      exact .inr (.inr ⟨lp, q1⟩)
  fo := fun a q => keepI_yes (S.fo a q) (.inl rfl)
  mu := fun a l q => S.mu a l (keepI_of q).1
  pin := S.pin
/-- whose things are behind it -/
def afterK (H : Hp) (ow ow1 : Ow) (i n : Nat) : Ow := fun a => match ow a with
  | some l => if l.b = .sl i then (match ow1 a with
      | some m => if m.b = .sl i ∨ m.b = .tm n then some m else none
      | none => none) else some l
  | none => (match H a with
    | some _ => none
    | none => (match ow1 a with
      | some m => if m.b = .sl i ∨ m.b = .tm n then some m else none
      | none => none))
def cPureK (i : Nat) (fa : Ev) : Ev := fun r => match fa (frzRK i r) with
  | .ok (.val d) r1 => (match r1[i]? with
    | some (some d') => if noL d = true ∧ noL d' = true then .ok (.val d) (r.set i (some d')) else .bad
    | _ => .bad)
  | _ => .bad
theorem pureK_go {i : Nat} {Q : VK} (h : tV G C W (cPureK i fa) s H Q) : ∃ C' : Fc, C'.pin = C.pin ∧ tV G C' W fa s H Q := by
  obtain ⟨r, T, ⟨ow, S⟩, g⟩ := h
  refine ⟨C.readsK H ow i, rfl, frzRK i r, frzT T, ⟨_, S.readsK⟩, ?_⟩
  have g : Goes G C W T s Q (cPureK i fa r) := g
  unfold cPureK at g
  cases e : fa (frzRK i r) with
  | bad => simp only [e] at g; exact g.elim
  | exc c r1 => simp only [e] at g; exact g.elim
  | ok x r1 =>
    simp only [e] at g
    cases x with
    | loc i => exact g.elim
    | val d =>
      simp only at g
      cases e1 : r1[i]? with
      | none => simp only [e1] at g; exact g.elim
      | some o =>
        cases o with
        | none => simp only [e1] at g; exact g.elim
        | some d' =>
          simp only [e1] at g
          split at g
          · rename_i hno
            obtain ⟨no1, no2⟩ := hno
            intro v H1 P1
            obtain ⟨⟨ow1, S1⟩, _⟩ := P1
            have lt : (frzT T).length = T.length := by simp [frzT]
            have S1 : StW G (C.readsK H ow i) ow1 r1 (frzT T ++ [(d, v)]) s H1 := S1
            refine g v H1 ⟨⟨afterK H ow ow1 i T.length, ?_⟩, trivial⟩
            have keep : ∀ a o, H a = some o → (∀ p, ow a ≠ some ⟨.sl i, p⟩) → H1 a = some o := fun a o z n => S1.old a o (fun ⟨p, y⟩ => n p y) z
            have exn : ∀ a o, H a = some o → ¬ OwnO (some o) → H1 a = some o := fun a o z n => keep a o z fun p y => by
              have m := S.mu a _ y
              rw [z] at m
              exact n m
            have none_ : ∀ a o, H a = some o → ow a = none → afterK H ow ow1 i T.length a = none := fun a o z n => by
              unfold afterK; rw [n]; simp only [z]
            have same_ : ∀ a l, ow a = some l → l.b ≠ .sl i → afterK H ow ow1 i T.length a = some l := fun a l z n => by
              unfold afterK; rw [z]; simp only [if_neg n]
            have new_ : ∀ a l, ow1 a = some l → (l.b = .sl i ∨ l.b = .tm T.length) → afterK H ow ow1 i T.length a = some l := fun a l z n => by
              have nf : l.b ≠ .fo := by rcases n with n | n <;> (rw [n]; exact fun z => nomatch z)
              unfold afterK
              rcases S1.own a l z with y | y | ⟨p, y⟩
              · exact absurd y nf
              · have y : H a = none := y
                cases x : ow a with
                | none => simp only [y, z, if_pos n]
                | some m =>
                  have mm := S.mu a m x
                  rw [y] at mm
                  exact mm.elim
              · simp only [y, z, if_pos n, if_true]
            have hz : ∀ (a : Addr) (k : Kd) (vs : List V), k ≠ .rd → Holds G H1 a k vs → (isTup k = true ∨ false = true) → ow1 a = none → afterK H ow ow1 i T.length a = none := fun a k vs nr z y q => by
              rcases y with y | y
              · cases k with
                | tup =>
                  unfold afterK
                  cases y2 : ow a with
                  | none =>
                    cases z2 : H a with
                    | none => simp only [q]
                    | some u => rfl
                  | some m =>
                    by_cases hm : m.b = .sl i
                    · simp only [if_pos hm, q]
                    · exfalso
                      have mu := S.mu a m y2
                      cases z2 : H a with
                      | none => rw [z2] at mu; exact mu.elim
                      | some u =>
                        have z3 := keep a u z2 (fun p e => by rw [y2] at e; cases e; exact hm rfl)
                        rw [show H1 a = some (.tup vs) from z] at z3
                        cases z3
                        rw [z2] at mu
                        exact mu.elim
                | _ => cases y
              · cases y
            have hd : Rep G ow1 H1 d ⟨.tm T.length, []⟩ v := by have z := S1.last; rw [lt] at z; exact z
            obtain ⟨v', w1, w2⟩ := S1.sl i d' e1
            have hdn : Rep G (afterK H ow ow1 i T.length) H1 d ⟨.tm T.length, []⟩ v := Rep.own3 d (fun a k vs nr z y q => hz a k vs nr z (y.imp id fun z => by rw [no1] at z; cases z) q) (fun a p q => new_ a _ q (.inr rfl)) hd
            have hin : Rep G (afterK H ow ow1 i T.length) H1 d' ⟨.sl i, []⟩ v' := Rep.own3 d' (fun a k vs nr z y q => hz a k vs nr z (y.imp id fun z => by rw [no2] at z; cases z) q) (fun a p q => new_ a _ q (.inl rfl)) w2
            have S2 : StW G C (afterK H ow ow1 i T.length) (r.set i (some d')) T s H1 := by
              refine ⟨by simpa using S.len, fun j dj y => ?_, fun j dj w y => ?_, fun a o n y => ?_, fun a m y => ?_, fun a y => ?_, fun a m y => ?_, S.pin⟩
              · by_cases hj : i = j
                · subst hj
                  have hlt : i < r.length := by
                    have := (List.getElem?_eq_some_iff.mp y).1
                    simpa using this
                  rw [List.getElem?_set_self hlt] at y
                  cases y
                  exact ⟨v', w1, hin⟩
                · rw [List.getElem?_set_ne hj] at y
                  obtain ⟨w, y1, y2⟩ := S.sl j dj y
                  refine ⟨w, y1, Rep.mono (l := ⟨.sl j, []⟩) dj (fun a o z u => keep a o z fun p z2 => ?_) (fun a o z n => exn a o z n) (fun a o z n => none_ a o z n) (fun a o p _ n => ?_) y2⟩
                  · rcases u with u | ⟨p', u⟩
                    · rw [u] at z2; cases z2
                    · rw [u] at z2
                      have z2 := Option.some.inj z2
                      unfold Loc.app at z2
                      injection z2 with z3 _
                      injection z3 with z3
                      exact hj z3.symm
                  · exact same_ a _ n (fun z => hj (by injection z with z; exact z.symm))
              · have z := S.tm j dj w y
                refine Rep.mono (l := ⟨.tm j, []⟩) dj (fun a o z u => keep a o z fun p z2 => ?_) (fun a o z n => exn a o z n) (fun a o z n => none_ a o z n) (fun a o p _ n => ?_) z
                · rcases u with u | ⟨p', u⟩
                  · rw [u] at z2; cases z2
                  · rw [u] at z2
                    have z2 := Option.some.inj z2
                    unfold Loc.app at z2
                    injection z2 with z3 _
                    cases z3
                · exact same_ a _ n (fun z => nomatch z)
              · refine keep a o (S.old a o n y) fun p z => ?_
                rcases S.own a _ z with z2 | z2 | z2
                · cases z2
                · rw [z2] at y; cases y
                · exact n z2
              · unfold afterK at y
                have back : ∀ l, ow a = some l → l.b ≠ .fo → C.H0 a = none ∨ C.io a := fun l e n => (S.own a l e).resolve_left n
                cases x : ow a with
                | some l =>
                  rw [x] at y
                  by_cases hl : l.b = .sl i
                  · exact .inr (back l x (by rw [hl]; exact fun z => nomatch z))
                  · simp only [if_neg hl] at y
                    cases y
                    exact S.own a _ x
                | none =>
                  rw [x] at y
                  cases z : H a with
                  | some u => simp only [z] at y; cases y
                  | none =>
                    refine .inr ?_
                    cases e0 : C.H0 a with
                    | none => exact .inl rfl
                    | some o =>
                      by_cases hi : C.io a
                      · exact .inr hi
                      · rw [S.old a o hi e0] at z; cases z
              · exact same_ a _ (S.fo a y) (fun z => nomatch z)
              · unfold afterK at y
                cases x : ow a with
                | some l =>
                  rw [x] at y
                  by_cases hl : l.b = .sl i
                  · simp only [if_pos hl] at y
                    cases x1 : ow1 a with
                    | none => simp only [x1] at y; cases y
                    | some l1 =>
                      simp only [x1] at y
                      split at y
                      · exact S1.mu a l1 x1
                      · cases y
                  · simp only [if_neg hl] at y
                    cases y
                    have mm := S.mu a _ x
                    cases z : H a with
                    | none => rw [z] at mm; exact mm.elim
                    | some u =>
                      rw [keep a u z (fun p e => by rw [x] at e; cases e; exact hl rfl), ← z]
                      exact mm
                | none =>
                  rw [x] at y
                  cases z : H a with
                  | some u => simp only [z] at y; cases y
                  | none =>
                    simp only [z] at y
                    cases x1 : ow1 a with
                    | none => simp only [x1] at y; cases y
                    | some l1 =>
                      simp only [x1] at y
                      split at y
                      · exact S1.mu a l1 x1
                      · cases y
            exact S2.push hdn
          · exact g.elim
theorem ve_pureK {i : Nat} {e : Expr} (h : ∀ C' : Fc, C'.pin = C.pin → VE X G C' W e fa) : VE X G C W e (cPureK i fa) := ⟨fun pins s σ H Q I w => by
  obtain ⟨C', e', w⟩ := pureK_go w
  exact (h C' e').run pins s σ H Q I w⟩
end
theorem pureK_ok {fa : Ev} {i : Nat} {r r1 : Rho} {d d' : D} (h : fa (frzRK i r) = .ok (.val d) r1) (h1 : r1[i]? = some (some d')) (hn : noL d = true) (hn2 : noL d' = true) : cPureK i fa r = .ok (.val d) (r.set i (some d')) := by
  unfold cPureK
  rw [h]
  simp only [h1, hn, hn2, and_self, if_true]
theorem or_yes {fa fb : Ev} {r r1 : Rho} (h : fa r = .ok (.val (.bl true)) r1) : cOr fa fb r = .ok (.val (.bl true)) r1 := by
  rw [q_or, h, bd_ok]
theorem call2_exc {F : List D → FO} {fa fb : Ev} {r r1 r2 : Rho} {x y : R} {z w : D} {c : Nat} (h : fa r = .ok x r1) (h2 : fb r1 = .ok y r2) (ho : opd r2 x = some z) (ho2 : opd r2 y = some w) (hF : F [frz z, frz w] = .exc c) : cCall 2 F (cCons fa (cCons fb cNil)) r = .exc c r2 := by
  have fz : frzs [z, w] = [frz z, frz w] := rfl
  rw [q_call, q_cons, h]
  show (match cCons fb cNil r1 with | .ok xs r2 => AO.ok (x :: xs) r2 | .exc c r2 => .exc c r2 | .bad => .bad).bd _ = _
  rw [q_cons, h2]
  show callK F [x, y] r2 = _
  rw [q_callK, q_opds1, ho, q_opds1, ho2, q_opds0]
  show (match F (frzs [z, w]) with | .ok d => if noL d = true then EO.ok (.val d) r2 else .ok (.val d) (settles r2 [x, y]) | .exc c => .exc c r2 | .bad => .bad) = _
  rw [fz, hF]
/-! ### is, is not of a truth and any list, tuple -/
def rIsRB : R2 := fun x y H Q => ∃ (a : Addr) (b : Bool), x = .ref a ∧ y = .bl b ∧ Q (.bl false) H
def rNotRB : R2 := fun x y H Q => ∃ (a : Addr) (b : Bool), x = .ref a ∧ y = .bl b ∧ Q (.bl true) H
section
variable {X : Cx}
theorem op_isRB : OpR X (compareOp .Is) rIsRB := by
  intro pins s σ H x y v u Q I rx ry h
  obtain ⟨a, b, rfl, rfl, q⟩ := h
  cases rx
  cases (show u = Value.bool b from ry)
  exact wpAny_is_other rfl (fun z => nomatch z) ⟨.bl false, H, I, rfl, q⟩
theorem op_notRB : OpR X (compareOp .IsNot) rNotRB := by
  intro pins s σ H x y v u Q I rx ry h
  obtain ⟨a, b, rfl, rfl, q⟩ := h
  cases rx
  cases (show u = Value.bool b from ry)
  exact wpAny_isNot_other rfl (fun z => nomatch z) ⟨.bl true, H, I, rfl, q⟩
def isBl2 : D → D → Option D
  | .bl a, .bl b => some (.bl (decide (a = b)))
  | .node _ _ _, .bl _ => some (.bl false)
  | _, _ => none
def isntBl2 : D → D → Option D
  | .bl a, .bl b => some (.bl (!decide (a = b)))
  | .node _ _ _, .bl _ => some (.bl true)
  | _, _ => none
def gIsB2 : G2 := g2 isBl2
def gIsNotB2 : G2 := g2 isntBl2
theorem os_isB2 : OpS X (compareOp .Is) gIsB2 := by
  refine OpS.scal (op_isBl.or op_isRB) fun G ow H d e z l m v u Q h1 h2 e3 q => ?_
  cases d with
  | bl a =>
    cases e with
    | bl b =>
      cases e3
      exact .inl ⟨a, b, rep_bl h1, rep_bl h2, q _ fun _ _ => rfl⟩
    | _ => cases e3
  | node k o xs =>
    cases e with
    | bl b =>
      cases e3
      obtain ⟨a, vs, ev, _⟩ := h1
      exact .inr ⟨a, b, ev, rep_bl h2, q _ fun _ _ => rfl⟩
    | _ => cases e3
  | _ => cases e3
theorem os_isnotB2 : OpS X (compareOp .IsNot) gIsNotB2 := by
  refine OpS.scal (op_notBl.or op_notRB) fun G ow H d e z l m v u Q h1 h2 e3 q => ?_
  cases d with
  | bl a =>
    cases e with
    | bl b =>
      cases e3
      exact .inl ⟨a, b, rep_bl h1, rep_bl h2, q _ fun _ _ => rfl⟩
    | _ => cases e3
  | node k o xs =>
    cases e with
    | bl b =>
      cases e3
      obtain ⟨a, vs, ev, _⟩ := h1
      exact .inr ⟨a, b, ev, rep_bl h2, q _ fun _ _ => rfl⟩
    | _ => cases e3
  | _ => cases e3
end
theorem isnTF2_ok {fa fb : Ev} {r r1 r2 : Rho} {a b : Bool} (h1 : fa r = .ok (.val (.bl a)) r1) (h2 : fb r1 = .ok (.val (.bl b)) r2) : cBin gIsNotB2 fa fb r = .ok (.val (.bl (!decide (a = b)))) r2 := bin_ok h1 h2 (g2_ok rfl rfl rfl rfl)
end VL

namespace VL
open PySem PySem.Spec PyProof.Rows L2
/-! ### a def to which all its arguments are given for good -/
def fcG (H : Hp) (ow0 : Ow) : Fc := ⟨H, fun a => ∃ j p, ow0 a = some ⟨.sl j, p⟩, fun a => ow0 a = some ⟨.fo, []⟩, []⟩
def spG (G : GX) (n : Nat) (F : List D → FO) : Sp := fun vs H Q E => ∃ (ds : List D) (ow0 : Ow), ds.length = n ∧ vs.length = n ∧ (∀ j d, ds[j]? = some d → ∃ v, vs[j]? = some v ∧ Rep G ow0 H d ⟨.sl j, []⟩ v) ∧
  (∀ a l, ow0 a = some l → OwnO (H a) ∧ ((∃ j, l.b = .sl j) ∨ l = ⟨.fo, []⟩)) ∧ match F ds with
  | .ok d => ∀ v H' (ow1 : Ow) (b : Bs), (∀ a o, (∀ j p, ow0 a ≠ some ⟨.sl j, p⟩) → H a = some o → H' a = some o) → b ≠ .fo → Rep G ow1 H' d ⟨b, []⟩ v →
      (∀ a l, ow1 a = some l → l.b ≠ .fo → H a = none ∨ ∃ j p, ow0 a = some ⟨.sl j, p⟩) → (∀ a, ow0 a = some ⟨.fo, []⟩ → ow1 a = some ⟨.fo, []⟩) → (∀ a l, ow1 a = some l → OwnO (H' a)) → Q v H'
  | _ => False
def runG (n : Nat) (f : Sv) (ds : List D) : FO := match f (startR n ds) with
  | .rt x r => (match opd r x with
    | some d => .ok d
    | none => .bad)
  | .nx _ => .ok .non
  | _ => .bad
section
variable {G : GX} {H H' : Hp} {ow ow0 : Ow}
theorem startG_ok {N : List Str} {ds : List D} {us : List V} (hl : us.length = ds.length) (hm : ∀ a l, ow0 a = some l → OwnO (H a) ∧ ((∃ j, l.b = .sl j) ∨ l = ⟨.fo, []⟩)) (h : ∀ j d, ds[j]? = some d → ∃ v, us[j]? = some v ∧ Rep G ow0 H d ⟨.sl j, []⟩ v) : StW G (fcG H ow0) ow0 (startR N.length ds) [] (L2.start N us) H where
  len := by
    unfold startR L2.start
    simp
    omega
  sl := fun i d y => by
    obtain ⟨v, h1, h2⟩ := h i d (startR_get y)
    exact ⟨v, start_get h1, h2⟩
  tm := fun j d v q => by simp at q
  old := fun a o _ z => z
  own := fun a l y => by
    obtain ⟨_, ⟨j, z⟩ | z⟩ := hm a l y
    · obtain ⟨lb, lp⟩ := l
      have z : lb = .sl j := z
      subst z
      exact .inr (.inr ⟨j, lp, y⟩)
    · subst z; exact .inl rfl
  fo := fun a y => y
  mu := fun a l y => (hm a l y).1
  pin := fun p hp => by cases hp
end
section
variable {P : Program} {w : World} {K : PySem.W.Frag} {mg : Str → Option Value} {base : Heap} {G : GX}
theorem fnG {x qual : Str} {st : Stmt} {f : Addr} {fd : FuncData} {N ps : List Str} {k n : Nat} {fb : Sv} (F : Fun K x qual st f fd) (S : FnScope N ps (defScope st)) (hps : ps.length = n)
    (hbody : ∀ (cdv : Value) (A : Around) (outer : List Env) (s : Shared) (H : Hp) (E : XK) (C : Fc), Room k (A.deeper (envOfC qual (defScope st) s.heap.objs.size f cdv)) → C.pin = [] → VSs (cxOf (L2.CX P w) P w K mg base N qual (defScope st) f cdv A outer s H E) G C (fun cls d _ H => E cls d H) (defBody st) fb) :
    FnOk P w K mg base (L2.CX P w) (k + 1) f fd ps (spG G n (runG N.length fb)) := by
  refine F.okX S (fun vs H Q E h => by obtain ⟨_, _, _, h, _⟩ := h; exact h.trans hps.symm) (fun cdv A outer s H vs Q E hr h => ?_)
  obtain ⟨ds, ow0, h1, h2, h3, h4, h6⟩ := h
  refine ⟨_, hbody cdv A outer s H E (fcG H ow0) hr rfl, ?_⟩
  refine ⟨startR N.length ds, [], ⟨_, startG_ok (N := N) (h2.trans h1.symm) h4 h3⟩, ?_⟩
  have fin : ∀ {d : D} {v : V} {r : Rho} {T : List (D × V)} {s' : L2.St} {H' : Hp} {ow : Ow} {b : Bs}, StW G (fcG H ow0) ow r T s' H' → b ≠ .fo → Rep G ow H' d ⟨b, []⟩ v →
      (∀ v H' (ow1 : Ow) (b : Bs), (∀ a o, (∀ j p, ow0 a ≠ some ⟨.sl j, p⟩) → H a = some o → H' a = some o) → b ≠ .fo → Rep G ow1 H' d ⟨b, []⟩ v →
      (∀ a l, ow1 a = some l → l.b ≠ .fo → H a = none ∨ ∃ j p, ow0 a = some ⟨.sl j, p⟩) → (∀ a, ow0 a = some ⟨.fo, []⟩ → ow1 a = some ⟨.fo, []⟩) → (∀ a l, ow1 a = some l → OwnO (H' a)) → Q v H') → Q v H' :=
    fun {d v r T s' H' ow b} S' b1 hr hq => hq v H' ow b (fun a o n y => S'.old a o (fun ⟨j, p, z⟩ => n j p z) y) b1 hr (fun a l y n => (S'.own a l y).elim (fun z => absurd z n) id) (fun a y => S'.fo a y) S'.mu
  unfold runG at h6
  cases e : fb (startR N.length ds) with
  | nx r =>
    rw [e] at h6
    intro s' H' S'
    obtain ⟨ow, S'⟩ := S'
    exact fin (d := .non) (b := .tm 0) S' (fun z => nomatch z) rfl h6
  | rt x r =>
    rw [e] at h6
    intro s' v H' P'
    obtain ⟨⟨ow, S'⟩, l⟩ := P'
    cases e3 : opd r x with
    | none => simp only [e3] at h6
    | some d =>
      simp only [e3] at h6
      have z := opd_rep (x := x) (T := []) (T2 := []) (by simpa using S') l e3
      cases x with
      | val d0 => exact fin (b := .tm 0) S' (fun z => nomatch z) z h6
      | loc i => exact fin (b := .sl i) S' (fun z => nomatch z) z h6
  | exc c r => rw [e] at h6; exact h6.elim
  | bk r => rw [e] at h6; exact h6.elim
  | ct r => rw [e] at h6; exact h6.elim
  | bad => rw [e] at h6; exact h6.elim
end
section
variable {X : Cx} {G : GX} {C : Fc} {W : WX} {ow ow' : Ow} {r : Rho} {T T1 T2 : List (D × V)} {s : L2.St} {H H' : Hp} {fs : Av}
def lentG (ow : Ow) (m n : Nat) : Ow := fun a => match ow a with
  | some ⟨.tm t, p⟩ => if m ≤ t ∧ t < m + n then some ⟨.sl (t - m), p⟩ else some ⟨.fo, []⟩
  | some _ => some ⟨.fo, []⟩
  | none => none
def paidG (ow ow1 : Ow) (m : Nat) : Ow := fun a => match ow1 a with
  | some l => if l.b = .fo then ow a else some ⟨.tm m, l.p⟩
  | none => none
theorem lentG_none {m n : Nat} {a : Addr} : lentG ow m n a = none ↔ ow a = none := by
  unfold lentG
  cases ow a with
  | none => simp
  | some l =>
    obtain ⟨lb, lp⟩ := l
    cases lb with
    | tm t => by_cases h : m ≤ t ∧ t < m + n <;> simp [h]
    | _ => simp
theorem lentG_tm {m n j : Nat} {a : Addr} {p : List Nat} (hj : j < n) (h : ow a = some ⟨.tm (m + j), p⟩) : lentG ow m n a = some ⟨.sl j, p⟩ := by
  unfold lentG
  rw [h]
  show (if m ≤ m + j ∧ m + j < m + n then some (Loc.mk (.sl (m + j - m)) p) else _) = _
  rw [if_pos ⟨by omega, by omega⟩, Nat.add_sub_cancel_left]
theorem lentG_sl {m n j : Nat} {a : Addr} {p : List Nat} (h : lentG ow m n a = some ⟨.sl j, p⟩) : ow a = some ⟨.tm (m + j), p⟩ ∧ j < n := by
  unfold lentG at h
  cases e : ow a with
  | none => rw [e] at h; cases h
  | some l =>
    rw [e] at h
    obtain ⟨lb, lp⟩ := l
    cases lb with
    | tm t =>
      by_cases hm : m ≤ t ∧ t < m + n
      · have h : (if m ≤ t ∧ t < m + n then some (Loc.mk (.sl (t - m)) lp) else some ⟨.fo, []⟩) = some ⟨.sl j, p⟩ := h
        rw [if_pos hm] at h
        cases h
        exact ⟨by rw [show m + (t - m) = t by omega], by omega⟩
      · have h : (if m ≤ t ∧ t < m + n then some (Loc.mk (.sl (t - m)) lp) else some ⟨.fo, []⟩) = some ⟨.sl j, p⟩ := h
        rw [if_neg hm] at h
        cases h
    | fo => cases h
    | sl i => cases h
theorem lentG_fo {m n : Nat} {a : Addr} {l : Loc} (h : ow a = some l) (n1 : ∀ t, l.b = .tm t → t < m) : lentG ow m n a = some ⟨.fo, []⟩ := by
  unfold lentG
  rw [h]
  obtain ⟨lb, lp⟩ := l
  cases lb with
  | tm t =>
    have := n1 t rfl
    show (if m ≤ t ∧ t < m + n then some (Loc.mk (.sl (t - m)) lp) else some ⟨.fo, []⟩) = _
    rw [if_neg (by omega)]
  | _ => rfl
theorem tempG {n : Nat} {F : List D → FO} {ds : List D} {us : List V} {Q : VK} {E : XK} (S2 : StW G C ow r (T ++ ds.zip us) s H) (hl : us.length = ds.length) (hn : ds.length = n)
    (h : match F ds with
      | .ok d => ∀ v H', StOk G C r (T ++ [(d, v)]) s H' → Q v H'
      | _ => False) : spG G n F us H Q E := by
  have zl : (ds.zip us).length = n := by rw [List.length_zip]; omega
  refine ⟨ds, lentG ow T.length n, hn, hl.trans hn, fun j d q => ?_, ?_, ?_⟩
  · have hj : j < ds.length := (List.getElem?_eq_some_iff.mp q).1
    refine ⟨us[j], List.getElem?_eq_getElem (by omega), ?_⟩
    have z := S2.tm (T.length + j) d us[j] (by
      rw [List.getElem?_append_right (by omega), Nat.add_sub_cancel_left, List.getElem?_zip_eq_some]
      exact ⟨q, List.getElem?_eq_getElem (by omega)⟩)
    refine Rep.mono (l := ⟨.tm (T.length + j), []⟩) d (fun _ _ z _ => z) (fun _ _ z _ => z) (fun a o _ n => lentG_none.mpr n) (fun a o p _ n => ?_) z
    exact lentG_tm (by omega) n
  · intro a m y
    cases x : ow a with
    | none => rw [lentG_none.mpr x] at y; cases y
    | some m' =>
      refine ⟨S2.mu a m' x, ?_⟩
      unfold lentG at y
      rw [x] at y
      obtain ⟨lb, lp⟩ := m'
      cases lb with
      | tm t =>
        by_cases hm : T.length ≤ t ∧ t < T.length + n
        · have y : (if T.length ≤ t ∧ t < T.length + n then some (Loc.mk (.sl (t - T.length)) lp) else some ⟨.fo, []⟩) = some m := y
          rw [if_pos hm] at y; cases y; exact .inl ⟨_, rfl⟩
        · have y : (if T.length ≤ t ∧ t < T.length + n then some (Loc.mk (.sl (t - T.length)) lp) else some ⟨.fo, []⟩) = some m := y
          rw [if_neg hm] at y; cases y; exact .inr rfl
      | fo => cases y; exact .inr rfl
      | sl i => cases y; exact .inr rfl
  · cases e3 : F ds with
    | bad => simp only [e3] at h
    | exc c => simp only [e3] at h
    | ok d =>
      simp only [e3] at h
      intro v H' ow1 b k1 b1 hr k2 k3 k4
      have kept : ∀ a o, H a = some o → (∀ j p, j < n → ow a ≠ some ⟨.tm (T.length + j), p⟩) → H' a = some o := fun a o q n1 => k1 a o (fun j p z => n1 j p (lentG_sl z).2 (lentG_sl z).1) q
      refine h v H' ⟨paidG ow ow1 T.length, ?_⟩
      have S1 := S2.drop
      have exn : ∀ a o, H a = some o → ¬ OwnO (some o) → H' a = some o := fun a o q n1 => kept a o q fun j p _ z => by
        have m := S2.mu a _ z
        rw [q] at m
        exact n1 m
      have none_ : ∀ a o, H a = some o → ow a = none → paidG ow ow1 T.length a = none := fun a o q n1 => by
        unfold paidG
        cases y : ow1 a with
        | none => rfl
        | some m =>
          by_cases hf : m.b = .fo
          · simp only [hf, if_true]; exact n1
          · rcases k2 a m y hf with z | ⟨j, p, z⟩
            · rw [z] at q; cases q
            · rw [(lentG_sl z).1] at n1; cases n1
      have same_ : ∀ a m, ow a = some m → (∀ t, m.b = .tm t → t < T.length) → paidG ow ow1 T.length a = some m := fun a m q n1 => by
        unfold paidG
        rw [k3 a (lentG_fo q n1)]
        simp [q]
      have hpush : StW G C (paidG ow ow1 T.length) r T s H' := by
        refine ⟨S2.len, fun i' d' y => ?_, fun j' d' w y => ?_, fun a o n1 y => ?_, fun a m y => ?_, fun a y => ?_, fun a m y => ?_, S2.pin⟩
        · obtain ⟨w, y1, y2⟩ := S2.sl i' d' y
          refine ⟨w, y1, Rep.mono (l := ⟨.sl i', []⟩) d' (fun a o z u => kept a o z fun j p _ z2 => ?_) (fun a o z n => exn a o z n) (fun a o z n => none_ a o z n) (fun a o p _ n => ?_) y2⟩
          · rcases u with u | ⟨p', u⟩
            · rw [u] at z2; cases z2
            · rw [u] at z2
              have z2 := Option.some.inj z2
              unfold Loc.app at z2
              injection z2 with z3 _
              cases z3
          · exact same_ a _ n (fun t z => by unfold Loc.app at z; cases z)
        · have hj' : j' < T.length := (List.getElem?_eq_some_iff.mp y).1
          have z := S1.tm j' d' w y
          refine Rep.mono (l := ⟨.tm j', []⟩) d' (fun a o z u => kept a o z fun j p _ z2 => ?_) (fun a o z n => exn a o z n) (fun a o z n => none_ a o z n) (fun a o p _ n => ?_) z
          · rcases u with u | ⟨p', u⟩
            · rw [u] at z2; cases z2
            · rw [u] at z2
              have z2 := Option.some.inj z2
              unfold Loc.app at z2
              injection z2 with z3 _
              injection z3 with z3
              omega
          · exact same_ a _ n (fun t z => by unfold Loc.app at z; injection z with z; omega)
        · refine kept a o (S2.old a o n1 y) fun j p _ z => ?_
          rcases S2.own a _ z with z2 | z2 | z2
          · cases z2
          · rw [z2] at y; cases y
          · exact n1 z2
        · unfold paidG at y
          cases y1 : ow1 a with
          | none => rw [y1] at y; cases y
          | some m' =>
            rw [y1] at y
            by_cases hf : m'.b = .fo
            · simp only [hf, if_true] at y
              exact S2.own a m y
            · refine .inr ?_
              rcases k2 a m' y1 hf with z | ⟨j, p, z⟩
              · cases e : C.H0 a with
                | none => exact .inl rfl
                | some u =>
                  by_cases hi : C.io a
                  · exact .inr hi
                  · rw [S2.old a u hi e] at z; cases z
              · rcases S2.own a _ (lentG_sl z).1 with z2 | z2
                · cases z2
                · exact z2
        · exact same_ a _ (S2.fo a y) (fun t z => nomatch z)
        · unfold paidG at y
          cases y1 : ow1 a with
          | none => rw [y1] at y; cases y
          | some m' => exact k4 a m' y1
      refine hpush.push (Rep.mono (l := ⟨b, []⟩) d (fun _ _ z _ => z) (fun _ _ z _ => z) (fun a o _ n => by unfold paidG; rw [n]) (fun a o p _ n => ?_) hr)
      have n' : ow1 a = some ⟨b, [] ++ p⟩ := n
      unfold paidG
      rw [n']
      simp [Loc.app, b1]
theorem pushs_valsG : ∀ {xs : List R} {ds : List D} {vs : List V}, valsR xs = some ds → xs.length = vs.length → pushs xs vs = ds.zip vs
  | [], ds, vs, e, hl => by
    cases e
    rfl
  | .loc _ :: _, _, _, e, _ => by cases e
  | .val d :: xs, ds, vs, e, hl => by
    unfold valsR at e
    cases e2 : valsR xs with
    | none => rw [e2] at e; cases e
    | some ds' =>
      rw [e2] at e
      cases e
      cases vs with
      | nil => simp at hl
      | cons v vs =>
        have ih := pushs_valsG (vs := vs) e2 (by simpa using hl)
        show pushR (.val d) v ++ pushs xs vs = (d, v) :: ds'.zip vs
        rw [ih]; rfl
def callKG (n : Nat) (F : List D → FO) (xs : List R) (r : Rho) : EO := if xs.length = n then (match valsR xs with
  | some ds => (match F ds with
    | .ok d => .ok (.val d) r
    | _ => .bad)
  | none => .bad) else .bad
def cCallG (n : Nat) (F : List D → FO) (fs : Av) : Ev := fun r => (fs r).bd (callKG n F)
theorem ve_callG {n k : Nat} {F : List D → FO} {f : Addr} {fd : FuncData} {ps : List Str} {x : Str} {p pos : Pos} {e : Expr} {es : List Expr} (tk : Takes X W) (Fk : FnOk X.prog X.w X.K X.mg X.base (L2.CX X.prog X.w) k f fd ps (spG G n F)) (hr : Room k X.A) (hg : Gl X x) (hm : X.mg x = some (.ref f))
    (hk : PySem.W.keepIn X.K (.ref f) = true) (hb : Binds X.K fd ps []) (ha : VA X G C W (e :: es) fs) (hdb : (x == ("__debug__" : Str)) = false := by decide) (he : starEach (e :: es) X.env = (false, eval e X.env) :: starEach es X.env := by rfl) (hpl : (backTo pos (starEach es X.env)).any (·.1) = false := by rfl) :
    VE X G C W (.Call (.Name x p) (e :: es) [] pos) (cCallG n F fs) := by
  refine PE.imp (pe_callS Fk hr hg hm hk hb (fun σ => passAt tk σ) ha hdb he hpl) fun s H Q h => ?_
  obtain ⟨r, T, S, g⟩ := h
  refine many (T2 := []) (by simpa using S) g fun xs vs r1 H1 S1 l1 g1 => ?_
  unfold callKG at g1
  split at g1
  · rename_i hlen
    cases y1 : valsR xs with
    | none => simp only [y1] at g1; exact g1.elim
    | some ds =>
      simp only [y1] at g1
      obtain ⟨ow, S1⟩ := S1
      have S1 : StW G C ow r1 (T ++ pushs xs vs) s H1 := by simpa using S1
      have hlv := l1.length
      rw [pushs_valsG y1 hlv] at S1
      have k1 := (valsR_frz (r := r1) y1).2.2
      refine tempG S1 (by omega) (by omega) ?_
      cases y4 : F ds with
      | bad => simp only [y4] at g1; exact g1.elim
      | exc c => simp only [y4] at g1; exact g1.elim
      | ok d =>
        simp only [y4] at g1
        intro v H' S4
        exact g1 v H' ⟨S4, trivial⟩
  · exact g1.elim
end
theorem callG_ok {n : Nat} {F : List D → FO} {fs : Av} {r r1 : Rho} {xs : List R} {ds : List D} {d : D} (h : fs r = .ok xs r1) (hn : xs.length = n) (h1 : valsR xs = some ds) (hF : F ds = .ok d) : cCallG n F fs r = .ok (.val d) r1 := by
  unfold cCallG
  rw [h]
  show callKG n F xs r1 = _
  unfold callKG
  rw [if_pos hn, h1]
  simp only [hF]
theorem runG_ok {n : Nat} {f : Sv} {ds : List D} {x : R} {r : Rho} {d : D} (h : f (startR n ds) = .rt x r) (ho : opd r x = some d) : runG n f ds = .ok d := by
  unfold runG
  rw [h]
  simp only [ho]
end VL

namespace VL
open PySem PySem.Spec PyProof.Rows L2
/-! ### a comprehension within a comprehension -/
theorem blk_rel {N : List Str} {sc scope : Scope} {own : List (Str × Nat)} {env : Env} (h : BlkOk N sc scope own) : BlkOk N (relabel sc env) scope own where
  kind := h.kind
  uniq := h.uniq
  ix := h.ix
  free := fun y hy e => by
    rcases h.free y hy e with k | k
    · rcases look_relabel (env := env) k with z | z
      · exact .inl z
      · exact nomatch z.1
    · rcases look_relabel (env := env) k with z | z
      · exact .inr z
      · exact .inl z.2
  own := h.own
theorem cv_cell {env : Env} {scope : Scope} {x : Str} (h : scope.names.lookup x = some .cell) : (relabel scope env).names.lookup x = some .cell := (look_relabel h).elim id fun z => nomatch z.1
end VL

namespace VL
open PySem PySem.Spec PyProof.Rows L2
/-! ### sorted(d), a dict whose keys are whole numbers, any number of them -/
theorem call_sortedDA {X : Cx} (hcalm : X.calm = true) : CallR X (.builtin "sorted") (fun xs H Q => ∃ (a : Addr) (kvs : List (L2.Key × V)) (ks : List Int), xs = [.ref a] ∧ Rd H a (.dK kvs) ∧ kvs.map (·.1) = ks.map Sum.inl ∧
    ∀ (ys : List Int) (p : Addr), ys.Perm ks → ys.Pairwise (· ≤ ·) → H p = none → Q (.ref p) (upd H p (.lst (ys.map V.int)))) := by
  intro pins s σ H xs us Q I r q
  obtain ⟨a, kvs, ks, ex, hd, hks, q⟩ := q
  subst ex
  obtain ⟨u, eu, rx⟩ := vals1 r
  subst eu
  cases rx
  obtain ⟨z, lo, vs, rel, dd⟩ := dk_rd I.hok hd
  obtain ⟨ep, hat⟩ := dd.dictAt
  have hkeys : vs.map (·.1) = ks.map Sum.inl := rel.keys.symm.trans hks
  have hl : vs.length = ks.length := by
    have e := congrArg List.length hkeys
    rw [List.length_map, List.length_map] at e
    exact e
  have hkl : kvs.length = ks.length := by
    have e := congrArg List.length hks
    rw [List.length_map, List.length_map] at e
    exact e
  have h16 : vs.length ≤ sizeLine := by omega
  refine Calls.call_function_entry PyProof.Rows.kind_sorted PyProof.Rows.plain_sorted PyProof.Rows.entry_sorted (PyProof.Rows.args_sorted1 _) ?_
  unfold Builtin.«sorted»
  refine wpAny_bind (m := checkCount "sorted" 1 1 _) (wpAny_pure ?_)
  refine wpAny_bind (PySem.W.kdu_collect (A := X.A.in1) (PySem.W.kdl_dict (knd := mixKind X.prog X.w) (kvs := vs) (ep := ep) lo) (I.ok.hd hcalm) hat h16 fun h' tk acc hk hacc => ?_)
  have hal : acc.toList.length = ks.length := by rw [Array.length_toList, hacc.1, hl]
  have hS : IntsAre acc.toList ks := ints_each hal fun j v e => by
    obtain ⟨k, x, e1, e2⟩ := hacc.2 j v (by rw [← Array.getElem?_toList]; exact e)
    have e3 : (vs.map (·.1))[j]? = some k := by rw [List.getElem?_map, e1]; rfl
    rw [hkeys, List.getElem?_map] at e3
    cases e4 : ks[j]? with
    | none => rw [e4] at e3; cases e3
    | some y =>
      rw [e4] at e3
      have e5 : Sum.inl y = k := Option.some.inj e3
      subst e5
      rcases keyIs_shape (show keyIs (Sum.inl y) v = true from e2) with ⟨i, t, ek, ev⟩ | ⟨z, t, ek, ev⟩
      · cases ek
        exact ⟨y, t, rfl, ev⟩
      · cases ek
  have I1 : Inv X pins σ H { s with heap := h', toks := tk } := I.kept hk
  refine wpAny_bind (wpAny_newList ?_ (by rw [hal]; omega))
  have hoL : (h'.push (seqObj "list" acc.toList.toArray 0)).get? h'.objs.size = some (seqObj "list" acc.toList.toArray 0) := Heap.get?_push_size _ rfl
  show wpAny _ _ _ _ _ { s with heap := h'.push (seqObj "list" acc.toList.toArray 0), toks := tk }
  refine wpAny_bind (wpAny_holding (wpAny_call_entry PyProof.Rows.slot_list_sort ⟨_, hoL, rfl⟩ PyProof.Rows.entry_list_sort
    (SrtO.list_sort_ord (s := { s with heap := h'.push (seqObj "list" acc.toList.toArray 0), toks := tk }) SrtO.swo_int hoL (by rw [hal]; omega) (fun h2 => SrtO.ints_sortable hS h2) fun out h1 h2 => ⟨_, rfl, ?_⟩) (PyProof.Rows.args_list_sort _)))
  obtain ⟨k1, k2, k3⟩ := SrtO.ints_out hS h1 h2
  obtain ⟨e', he'⟩ := PyProof.Rows.sortedHeap_at (vs := acc.toList) (out := out.toArray) hoL
  have hlen : ((out.map SrtO.iv).map V.int).length ≤ sizeLine := by
    rw [List.length_map, k2.length_eq]
    omega
  refine wpAny_pure ⟨_, rfl, .ref h'.objs.size, upd H h'.objs.size (.lst ((out.map SrtO.iv).map V.int)), I1.laid (t' := tk) (fun b u e => ?_) (Nat.le_refl _)
    (show ObjOk X.prog X.w _ _ _ (.lst ((out.map SrtO.iv).map V.int)) from ⟨hlen, out, e', vals_of_ints k1, he'⟩), rfl, q _ _ k2 k3 (I1.hok.fresh (Nat.le_refl _))⟩
  have hb : b < h'.objs.size := Heap.lt_size e
  rw [PyProof.Rows.sortedHeap_old (Nat.ne_of_lt hb) (by rw [size_push']; exact Nat.lt_succ_of_lt hb)]
  exact Heap.get?_push_of_some _ e
/-! ### d.items() of such a dict, sorted -/
def rItemsK : V → List V → Hp → VK → Prop := fun x xs H Q => ∃ (a : Addr) (kvs : List (L2.Key × V)), x = .ref a ∧ xs = [] ∧ H a = some (.dK kvs) ∧ ∀ p, H p = none → Q (.ref p) (upd H p (L2.DX.itemsO p a))
theorem mt_itemsK {X : Cx} : MtR X "dict.items" rItemsK := by
  intro pins s σ H x xs v us Q I rx rxs h
  obtain ⟨a, kvs, rfl, rfl, ha, q⟩ := h
  cases rx
  cases rxs
  obtain ⟨z, hd, vs, rel, o, es, ep, ho, hx, hdat, _⟩ := dk_of I.hok ha
  refine DT.callItems (es := es) (ep := ep) hd ⟨o, ho, hx, hdat⟩ ?_
  have hf : H s.heap.objs.size = none := I.hok.fresh (Nat.le_refl _)
  exact ⟨.ref s.heap.objs.size, upd H s.heap.objs.size (L2.DX.itemsO s.heap.objs.size a), I.laid (t' := s.toks) (fun b u e => Heap.get?_push_of_some _ e) (Nat.le_refl _) (L2.DX.itemsO_ok (Heap.get?_push_size _ rfl)), rfl, q _ hf⟩
theorem takeT2 {X : Cx} {pins : List (Addr × Obj)} {σ : L2.St} {H0 : Hp} {s : Shared} {h' : Heap} {tk : Nat} {P : Addr → List V → Prop} (I0 : Inv X pins σ H0 s) : ∀ (L : List Addr) (H1 : Hp), Inv X pins σ H1 { s with heap := h', toks := tk } → L.Nodup →
    (∀ a ∈ L, s.heap.objs.size ≤ a ∧ H1 a = none ∧ ∃ vs, P a vs ∧ ∀ H2, ObjOk X.prog X.w H2 h' a (.tup vs)) →
    ∃ H2, Inv X pins σ H2 { s with heap := h', toks := tk } ∧ (∀ b o, H1 b = some o → H2 b = some o) ∧ (∀ b, b ∉ L → H2 b = H1 b) ∧ ∀ a ∈ L, ∃ vs, P a vs ∧ H2 a = some (.tup vs)
  | [], H1, I1, _, _ => ⟨H1, I1, fun _ _ e => e, fun _ _ => rfl, fun _ h => nomatch h⟩
  | a :: L, H1, I1, hn, h => by
    obtain ⟨hb, hnone, vs, hP, ok⟩ := h a (List.mem_cons_self ..)
    have I2 : Inv X pins σ (upd H1 a (.tup vs)) { s with heap := h', toks := tk } := I1.take (h' := h') (t' := tk) (fun b ob _ e => e) (I0.fpOk hb hnone) (ok _)
    rw [List.nodup_cons] at hn
    obtain ⟨H2, I3, g, g2, q⟩ := takeT2 I0 L (upd H1 a (.tup vs)) I2 hn.2 fun c hc => by
      obtain ⟨c1, c2, c3⟩ := h c (List.mem_cons_of_mem _ hc)
      exact ⟨c1, by rw [upd_ne (fun z => hn.1 (by rw [← z]; exact hc))]; exact c2, c3⟩
    refine ⟨H2, I3, fun b o e => g b o (by rw [upd_ne (ne_of_none e hnone)]; exact e), fun b hb => ?_, fun c hc => ?_⟩
    · have h1 : b ≠ a := fun e => hb (e ▸ List.mem_cons_self)
      rw [g2 b (fun z => hb (List.mem_cons_of_mem _ z)), upd_ne h1]
    · rcases List.mem_cons.mp hc with rfl | hc
      · exact ⟨vs, hP, g _ _ upd_same⟩
      · exact q c hc
/-- keys and values are whole numbers -/
def rSortItK : List V → Hp → VK → Prop := fun vs H Q => ∃ (p a : Addr) (ps : List (Int × Int)), vs = [.ref p] ∧ H p = some (L2.DX.itemsO p a) ∧ H a = some (.dK (ps.map fun q => (Sum.inl q.1, V.int q.2))) ∧
  ∀ (H2 : Hp) (l : Addr) (zs : List (Addr × Int × Int)), (∀ b o, H b = some o → H2 b = some o) → (zs.map (·.2)).Perm ps → (zs.map (·.2)).Pairwise (fun x y => SrtO.lexB y x = false) → H2 l = none →
    (∀ z ∈ zs, H2 z.1 = some (.tup [.int z.2.1, .int z.2.2])) → Q (.ref l) (upd H2 l (.lst (zs.map fun z => V.ref z.1)))
def pairK (h : Heap) (v : Value) : Int × Int := match v with
  | .ref a => (match h.get? a with
    | some o => (match o.data with
      | .seq items _ => (match items.toList with
        | [.int x _, .int y _] => (x, y)
        | _ => (0, 0))
      | _ => (0, 0))
    | none => (0, 0))
  | _ => (0, 0)
theorem pairK_of {h : Heap} {v : Value} {x y : Int} (p : Srt.IsPair h v x y) : pairK h v = (x, y) := by
  obtain ⟨a, o, t, u, n, rfl, ho, hc, hd⟩ := p
  unfold pairK
  simp only [ho, hd]
theorem cr_sortedItemsK {X : Cx} (hc : X.calm = true) : CallR X (.builtin "sorted") rSortItK := by
  intro pins s σ H xs us Q I r h
  obtain ⟨p, a, ps, rfl, hp, ha, q⟩ := h
  obtain rfl := Vals.ref1 r
  have view : s.heap.IsItemsView p a := (show ObjOk X.prog X.w H s.heap p (L2.DX.itemsO p a) from I.hok p _ hp).1
  obtain ⟨z, hd, vs, rel, o, es, ep, ho, hx, hdat, hes, hpr, hn⟩ := dk_of I.hok ha
  have l1 : ps.length = vs.length := by
    have e := Paired.length rel
    rw [List.length_map] at e
    exact e
  have l2 : es.size = vs.length := by
    have e := Pairs.length hpr
    rw [Array.length_toList] at e
    exact e
  rw [List.length_map] at z
  have hh : X.A.handled = none := I.ok.hd hc
  refine DT.sortedI (es := es) (ep := ep) hh view ⟨o, ho, hx, hdat⟩ (by omega) fun h' tk as hk hlt hl hG => ?_
  have lak : as.length = ps.length := by omega
  have nd : as.Nodup := List.Pairwise.imp (fun h => Nat.ne_of_lt h) hG.rise
  -- an entry's key and value
  have ent : ∀ (es : List DictEntry) (ps : List (Int × Int)) (vs : List (L2.Key × Value)), Pairs (mixKind X.prog X.w) es vs → KV (ps.map fun q => (Sum.inl q.1, V.int q.2)) vs → ∀ (j : Nat) (e : DictEntry), es[j]? = some e → ∃ (q : Int × Int) (t u : Tok), ps[j]? = some q ∧ e.key = Value.int q.1 t ∧ e.val = Value.int q.2 u := by
    intro es ps vs hpr
    induction hpr generalizing ps with
    | nil => intro _ j e he; simp at he
    | @cons e0 kv es kvs h1 h2 _ ih =>
      intro rel j e he
      cases ps with
      | nil => cases rel
      | cons q0 ps =>
        cases rel with
        | cons r1 r2 =>
          cases j with
          | zero =>
            simp at he
            subst he
            obtain ⟨r3, r4⟩ := r1
            have h1' : keyIs kv.1 e0.key = true := h1
            rw [← r3] at h1'
            rcases keyIs_shape h1' with ⟨i, t, ek, ev⟩ | ⟨z, t, ek, ev⟩
            · cases ek
              obtain ⟨u, hu⟩ := r4
              exact ⟨q0, t, u, rfl, ev, by rw [h2, hu]⟩
            · cases ek
          | succ j => exact ih ps r2 j e (by simpa using he)
  have pr : ∀ (j : Nat) (b : Addr), as[j]? = some b → ∃ (q : Int × Int) (t u : Tok), ps[j]? = some q ∧ h'.get? b = some { cls := .type "tuple", data := .seq #[Value.int q.1 t, Value.int q.2 u] } := by
    intro j b hj
    obtain ⟨en, he, hg⟩ := hG.pairs j b hj
    obtain ⟨q, t, u, h1, h2, h3⟩ := ent es.toList ps vs hpr rel j en (by rw [Array.getElem?_toList]; exact he)
    rw [h2, h3] at hg
    exact ⟨q, t, u, h1, hg⟩
  have hob : (h'.push { cls := .type "list", data := .seq (as.map Value.ref).toArray }).get? h'.objs.size = some (seqObj "list" (as.map Value.ref).toArray 0) := Heap.get?_push_size _ rfl
  have kb : ∀ b o, s.heap.get? b = some o → (h'.push { cls := .type "list", data := .seq (as.map Value.ref).toArray }).get? b = some o := fun b o e => Heap.get?_push_of_some _ (hk b o e)
  have ne0 : ∀ b o, h'.get? b = some o → b ≠ h'.objs.size := fun b o e => Nat.ne_of_lt (Heap.lt_size e)
  generalize hh2 : h'.push { cls := .type "list", data := .seq (as.map Value.ref).toArray } = h2 at hob kb ⊢
  have ka : ∀ b o, h'.get? b = some o → h2.get? b = some o := fun b o e => by rw [← hh2]; exact Heap.get?_push_of_some _ e
  have ip : ∀ (j : Nat) (b : Addr), as[j]? = some b → ∃ q : Int × Int, ps[j]? = some q ∧ Srt.IsPair h2 (.ref b) q.1 q.2 := fun j b hj => by
    obtain ⟨q, t, u, h1, hg⟩ := pr j b hj
    exact ⟨q, h1, b, _, t, u, 0, rfl, ka _ _ hg, rfl, rfl⟩
  have ipk : ∀ v ∈ as.map Value.ref, Srt.IsPair h2 v (pairK h2 v).1 (pairK h2 v).2 := fun v hv => by
    obtain ⟨b, hb, rfl⟩ := List.mem_map.mp hv
    obtain ⟨j, hj⟩ := List.mem_iff_getElem?.mp hb
    obtain ⟨q, _, hq⟩ := ip j b hj
    rw [pairK_of hq]
    exact hq
  refine wpAny_call_entry PyProof.Rows.slot_list_sort ⟨_, hob, rfl⟩ PyProof.Rows.entry_list_sort
    (SrtO.list_sort_ord (s := { s with heap := h2, toks := tk }) (SrtO.swo_lex (pairK h2)) hob (by rw [List.length_map]; omega) (fun h2' => SrtO.pairs_sortableO (s := { s with heap := h2, toks := tk }) (by omega) ipk fun o e => ?_) fun out o1 o2 => ⟨.none, rfl, ?_⟩) (PyProof.Rows.args_list_sort _)
  · have e' : some o = some (seqObj "list" (as.map Value.ref).toArray 0) := e.symm.trans hob
    cases e'
    intro c
    exact absurd (Value.type.inj c) (by decide)
  · show EP X pins σ Q (.ref h'.objs.size) { s with heap := sortedHeap h2 h'.objs.size (as.map Value.ref) out.toArray, toks := tk }
    obtain ⟨zs, pz, ez⟩ := perm_lift (fun z : Addr × Int × Int => Value.ref z.1) o2.perm (as.zip ps) (by
      have : (as.zip ps).map (fun z => Value.ref z.1) = ((as.zip ps).map (·.1)).map Value.ref := by rw [List.map_map]; rfl
      rw [this, List.map_fst_zip (by omega)])
    have idx : ∀ z ∈ zs, ∃ j : Nat, as[j]? = some z.1 ∧ ps[j]? = some z.2 := by
      intro z' hz'
      obtain ⟨j, hj⟩ := List.mem_iff_getElem?.mp (pz.mem_iff.mp hz')
      exact ⟨j, List.getElem?_zip_eq_some.mp hj⟩
    have zk : ∀ z ∈ zs, pairK h2 (.ref z.1) = z.2 := fun z hz => by
      obtain ⟨j, j1, j2⟩ := idx z hz
      obtain ⟨q, hq, hp'⟩ := ip j z.1 j1
      rw [j2] at hq
      cases hq
      exact pairK_of hp'
    have hperm : (zs.map (·.2)).Perm ps := by
      have e := pz.map (·.2)
      have m2 : (as.zip ps).map (·.2) = ps := List.map_snd_zip (by rw [lak]; exact Nat.le_refl _)
      rw [m2] at e
      exact e
    have hsort : (zs.map (·.2)).Pairwise (fun x y => SrtO.lexB y x = false) := by
      have o1' : out.Pairwise (fun x y => SrtO.lexB (pairK h2 y) (pairK h2 x) = false) := o1
      rw [← ez, List.pairwise_map] at o1'
      rw [List.pairwise_map]
      refine List.Pairwise.imp_of_mem (fun {x y} hx hy h => ?_) o1'
      rw [zk x hx, zk y hy] at h
      exact h
    have kF : ∀ b o, b ≠ h'.objs.size → h2.get? b = some o → (sortedHeap h2 h'.objs.size (as.map Value.ref) out.toArray).get? b = some o := fun b o hb e => (PyProof.Rows.sortedHeap_old hb (Heap.lt_size e)).trans e
    have kS : ∀ b o, s.heap.get? b = some o → (sortedHeap h2 h'.objs.size (as.map Value.ref) out.toArray).get? b = some o := fun b o e => kF b o (ne0 _ _ (hk b o e)) (kb b o e)
    obtain ⟨eF, heF⟩ := PyProof.Rows.sortedHeap_at (vs := as.map Value.ref) (out := out.toArray) hob
    have I1 : Inv X pins σ H { s with heap := sortedHeap h2 h'.objs.size (as.map Value.ref) out.toArray, toks := tk } := I.kept (t' := tk) kS
    obtain ⟨H2, I3, g, g2, qt⟩ := takeT2 (P := fun b ws => ∃ (j : Nat) (q : Int × Int), as[j]? = some b ∧ ps[j]? = some q ∧ ws = [.int q.1, .int q.2]) I as _ I1 nd fun b hb => by
      obtain ⟨j, hj⟩ := List.mem_iff_getElem?.mp hb
      obtain ⟨q, t, u, hq, hg⟩ := pr j b hj
      have hbl : s.heap.objs.size ≤ b := Nat.le_of_lt (hG.above b hb)
      refine ⟨hbl, I.hok.fresh hbl, [.int q.1, .int q.2], ⟨j, q, hj, hq, rfl⟩, fun H3 => ⟨(by rw [sizeLine_eq]; show 2 ≤ 16777216; omega), [Value.int q.1 t, Value.int q.2 u], .cons ⟨t, rfl⟩ (.cons ⟨u, rfl⟩ .nil), ⟨_, kF _ _ (ne0 _ _ hg) (ka _ _ hg), rfl, 0, rfl⟩⟩⟩
    have hnl : h'.objs.size ∉ as := fun hm => Nat.lt_irrefl _ (hG.there hm)
    have hn0 : H h'.objs.size = none := I.hok.fresh (Nat.le_of_lt hlt)
    have hn2 : H2 h'.objs.size = none := by rw [g2 _ hnl]; exact hn0
    have hlen : (zs.map fun z => V.ref z.1).length ≤ sizeLine := by
      have e : zs.length = ps.length := by simpa using hperm.length_eq
      rw [List.length_map, e, ← lak]
      omega
    have rv : Vals (zs.map fun z => V.ref z.1) out := by
      rw [← ez]
      exact vals_maps (fun z : Addr × Int × Int => V.ref z.1) (fun z => Value.ref z.1) zs fun _ _ => rfl
    have I4 : Inv X pins σ (upd H2 h'.objs.size (.lst (zs.map fun z => V.ref z.1))) { s with heap := sortedHeap h2 h'.objs.size (as.map Value.ref) out.toArray, toks := tk } :=
      I3.take (h' := sortedHeap h2 h'.objs.size (as.map Value.ref) out.toArray) (t' := tk) (fun b ob _ e => e) (I.fpOk (Nat.le_of_lt hlt) hn2) ⟨hlen, out, eF, rv, heF⟩
    refine ⟨.ref h'.objs.size, _, I4, rfl, q H2 h'.objs.size zs g hperm hsort hn2 fun z' hz' => ?_⟩
    obtain ⟨i, i1, i2⟩ := idx z' hz'
    obtain ⟨ws, ⟨j, e, j1, j2, ev⟩, hH⟩ := qt z'.1 (List.mem_of_getElem? i1)
    have eij : i = j := (List.getElem?_inj (List.getElem?_eq_some_iff.mp i1).1 nd).mp (i1.trans j1.symm)
    subst eij
    have ee : e = z'.2 := Option.some.inj (j2.symm.trans i2)
    rw [ev, ee] at hH
    exact hH
end VL

namespace VL
open PySem PySem.Spec PyProof.Rows L2
theorem units1 {k : Nat} {A : Around} (h : Room k A) : A.units + 1 < cLine := by have := h.un; omega
/-! ### dicts: keys in their order, whole numbers or texts -/
def keyD : D → Option L2.Key
  | .int i => some (.inl i)
  | .str s => some (.inr s)
  | _ => none
def dix (ks : List L2.Key) (k : L2.Key) : Option Nat := ks.findIdx? fun x => decide (x = k)
theorem dix_cons (x : L2.Key) (ks : List L2.Key) (k : L2.Key) : dix (x :: ks) k = if x = k then some 0 else (dix ks k).map (· + 1) := by
  unfold dix
  rw [List.findIdx?_cons]
  by_cases h : x = k
  · rw [decide_eq_true h, if_pos h]; rfl
  · rw [decide_eq_false h, if_neg h]
    rfl
theorem valV_zip (k : L2.Key) : ∀ {ks : List L2.Key} {vs : List V}, ks.length = vs.length → valV (ks.zip vs) k = (dix ks k).bind fun j => vs[j]?
  | [], _, _ => rfl
  | x :: ks, [], h => by simp at h
  | x :: ks, v :: vs, h => by
    rw [dix_cons]
    show valV ((x, v) :: ks.zip vs) k = _
    by_cases e : x = k
    · rw [valV_pos (p := (x, v)) e, if_pos e]; rfl
    · rw [valV_neg (p := (x, v)) e, if_neg e, valV_zip k (by simpa using h)]
      cases dix ks k <;> rfl
theorem dix_lt {ks : List L2.Key} {k : L2.Key} {j : Nat} (h : dix ks k = some j) : j < ks.length ∧ ks[j]? = some k := by
  unfold dix at h
  rw [List.findIdx?_eq_some_iff_getElem] at h
  obtain ⟨h1, h2, _⟩ := h
  exact ⟨h1, by rw [List.getElem?_eq_getElem h1, of_decide_eq_true h2]⟩
theorem dix_none {ks : List L2.Key} {k : L2.Key} : dix ks k = none ↔ k ∉ ks := by
  unfold dix
  rw [List.findIdx?_eq_none_iff]
  exact ⟨fun h m => by have := h k m; simp at this, fun h x hx => decide_eq_false fun e => h (e ▸ hx)⟩
theorem dix_at {ks : List L2.Key} {k : L2.Key} {j : Nat} (hn : ks.Nodup) (h : ks[j]? = some k) : dix ks k = some j := by
  cases e : dix ks k with
  | none => exact absurd (List.mem_of_getElem? h) (dix_none.mp e)
  | some i =>
    obtain ⟨h1, h2⟩ := dix_lt e
    rw [(List.getElem?_inj h1 hn).mp (h2.trans h.symm)]
theorem map_off {β : Type} (k : L2.Key) (v : β) : ∀ (kvs : List (L2.Key × β)), k ∉ kvs.map (·.1) → (kvs.map fun kv => if kv.1 = k then (kv.1, v) else kv) = kvs
  | [], _ => rfl
  | p :: r, h => by
    rw [List.map_cons] at h ⊢
    rw [if_neg (fun e => h (by rw [← e]; exact List.mem_cons_self)), map_off k v r (fun m => h (List.mem_cons_of_mem _ m))]
theorem zip_fst {β : Type} : ∀ {ks : List L2.Key} {vs : List β}, ks.length = vs.length → (ks.zip vs).map (·.1) = ks
  | [], _, _ => rfl
  | _ :: _, [], h => by simp at h
  | k :: ks, v :: vs, h => by
    show k :: (ks.zip vs).map (·.1) = k :: ks
    rw [zip_fst (by simpa using h)]
theorem putK_at (k : L2.Key) (v : V) : ∀ {ks : List L2.Key} {vs : List V} {j : Nat}, ks.length = vs.length → ks.Nodup → dix ks k = some j → ((ks.zip vs).map fun kv => if kv.1 = k then (kv.1, v) else kv) = ks.zip (vs.set j v)
  | [], _, _, _, _, h => by cases h
  | x :: ks, [], _, h, _, _ => by simp at h
  | x :: ks, u :: vs, j, hl, hn, h => by
    rw [dix_cons] at h
    have hl' : ks.length = vs.length := by simpa using hl
    by_cases e : x = k
    · rw [if_pos e] at h
      cases h
      show (if x = k then (x, v) else (x, u)) :: (ks.zip vs).map _ = (x, v) :: ks.zip vs
      rw [if_pos e, map_off k v _ (by rw [zip_fst hl', ← e]; exact (List.nodup_cons.mp hn).1)]
    · rw [if_neg e] at h
      cases e2 : dix ks k with
      | none => rw [e2] at h; cases h
      | some i =>
        rw [e2] at h
        cases h
        show (if x = k then (x, v) else (x, u)) :: (ks.zip vs).map _ = (x, u) :: ks.zip (vs.set i v)
        rw [if_neg e, putK_at k v hl' (List.nodup_cons.mp hn).2 e2]
theorem put_some {k : L2.Key} {v : V} {ks : List L2.Key} {vs : List V} {j : Nat} (hl : ks.length = vs.length) (hn : ks.Nodup) (h : dix ks k = some j) : putK (ks.zip vs) k v = ks.zip (vs.set j v) := by
  unfold putK
  rw [if_pos (by rw [valV_any, valV_zip k hl, h]; show (vs[j]?).isSome = true; rw [List.getElem?_eq_getElem (by have := (dix_lt h).1; omega)]; rfl)]
  exact putK_at k v hl hn h
theorem put_none {k : L2.Key} {v : V} {ks : List L2.Key} {vs : List V} (hl : ks.length = vs.length) (h : dix ks k = none) : putK (ks.zip vs) k v = (ks ++ [k]).zip (vs ++ [v]) := by
  rw [putK_new v (by rw [valV_zip k hl, h]; rfl), List.zip_append hl]
  rfl
theorem keyD_rep {G : GX} {ow : Ow} {H : Hp} {d : D} {l : Loc} {u : V} {k : L2.Key} (e : keyD d = some k) (h : Rep G ow H d l u) : u = kV k := by
  cases d with
  | int i => cases e; exact h
  | str s => cases e; exact h
  | _ => cases e
/-! ### {} -/
def cDNew : Ev := fun r => .ok (.val (.node (.dK []) true [])) r
/-! ### d[k], k in d, d.get(k, z) -/
def dgetK : G2 := fun x y r => match opd r x, opd r y with
  | some (.node (.dK ks) _ xs), some e => (match (keyD e).bind (dix ks) with
    | some j => (match xs[j]? with
      | some d => pick r x d
      | none => .bad)
    | none => .bad)
  | _, _ => .bad
def gDIn : G2 := fun x y r => match opd r x, opd r y with
  | some e, some (.node (.dK ks) _ _) => (match keyD e with
    | some k => .ok (.val (.bl (dix ks k).isSome)) r
    | none => .bad)
  | _, _ => .bad
def gDNotIn : G2 := fun x y r => match opd r x, opd r y with
  | some e, some (.node (.dK ks) _ _) => (match keyD e with
    | some k => .ok (.val (.bl (!(dix ks k).isSome))) r
    | none => .bad)
  | _, _ => .bad
section
variable {X : Cx} {G : GX} {C : Fc} {W : WX} {ow ow' : Ow} {r : Rho} {T T1 T2 : List (D × V)} {s : L2.St} {H H' : Hp} {fa fb fc fk : Ev} {f g : Sv} {fs : Av}
theorem ve_dnew {pos : Pos} : VE X G C W (.Dict [] [] pos) cDNew := by
  refine PE.imp pe_dnewK fun s H Q h => ?_
  obtain ⟨r, T, S, g⟩ := h
  have g : Goes G C W T s Q (.ok (.val (.node (.dK []) true [])) r) := g
  intro p hp
  exact g _ _ ⟨StOk.alloc (ds := []) (vs := []) true (by simpa using S) rfl hp (show Holds G _ p (.dK []) [] from ⟨upd_same, rfl⟩) (fun _ => trivial), trivial⟩
theorem pick_okJ {x y : R} {v u : V} {k : Kd} {o : Bool} {xs : List D} {j : Nat} {d : D} {Q : VK} (S : StW G C ow r (T ++ (pushR x v ++ pushR y u)) s H) (lx : LocOk s v x) (e1 : opd r x = some (.node k o xs)) (ej : xs[j]? = some d) (q : Goes G C W T s Q (pick r x d)) :
    ∃ a vs w, v = .ref a ∧ Holds G H a k vs ∧ xs.length = vs.length ∧ vs[j]? = some w ∧ Q w H := by
  by_cases a : atom d = true
  · obtain ⟨p, vs, ev, h1, h2, h3⟩ := opd_rep S lx e1
    obtain ⟨w, ew, rw'⟩ := h3.get j d ej
    unfold pick at q
    rw [if_pos a] at q
    exact ⟨p, vs, w, ev, h1, h3.length, ew, goes_val q ⟨ow, S.drop⟩ a fun _ _ => rw'.of_atom a⟩
  · obtain ⟨ow', p, vs, S', ev, h1, rx, _⟩ := StW.parts (T := T) (StW.drop (T := T ++ pushR x v) (T2 := pushR y u) (by rw [List.append_assoc]; exact S)) lx e1
    have l1 := (rx ⟨.fo, []⟩).length
    rw [frzs_length] at l1
    obtain ⟨w, ew, rw'⟩ := (rx ⟨.fo, []⟩).get j (frz d) (frzs_get ej)
    unfold pick at q
    rw [if_neg a] at q
    exact ⟨p, vs, w, ev, h1, l1, ew, q w H ⟨⟨ow', S'.push (Rep.moveF _ (frz_frz d) (fun a o z q => ⟨z, q⟩) (fun _ _ z _ => z) rw')⟩, trivial⟩⟩
theorem ve_dget {a b : Expr} {pos : Pos} (hu : X.A.units + 1 < cLine) (ha : VE X G C W a fa) (hb : VE X G C W b fb) (hs : NoSl b) : VE X G C W (.Subscript a b pos) (cBin dgetK fa fb) := by
  refine PE.imp (pe_dget hu ha hb hs) fun s H Q h => ?_
  obtain ⟨r, T, S, g⟩ := h
  refine two S g fun x y v u r2 H2 S2 lx ly q => ?_
  obtain ⟨ow, S2⟩ := S2
  unfold dgetK at q
  split at q
  · rename_i ks o xs e e1 e2
    split at q
    · rename_i j ej
      split at q
      · rename_i d ed
        cases ek : keyD e with
        | none => rw [ek] at ej; cases ej
        | some k =>
          rw [ek] at ej
          have ej : dix ks k = some j := ej
          have eu := keyD_rep ek (opd_rep (T := T ++ pushR x v) (T2 := []) (by rw [List.append_nil, List.append_assoc]; exact S2) ly e2)
          obtain ⟨p, vs, w, ev, h1, hl, h2, h3⟩ := pick_okJ S2 lx e1 ed q
          subst ev
          obtain ⟨h1, hkl⟩ : H2 p = some (.dK (ks.zip vs)) ∧ ks.length = vs.length := h1
          refine ⟨p, w, rfl, ?_, h3⟩
          have dg := DGet.k (k := k) h1
          rw [valV_zip k hkl, ej] at dg
          show DGet H2 p u (some w)
          rw [eu]
          have e3 : (some j).bind (fun j => vs[j]?) = some w := h2
          rw [e3] at dg
          exact dg
      · exact q.elim
    · exact q.elim
  · exact q.elim
theorem din_go {x y : R} {v u : V} {e : D} {ks : List L2.Key} {o : Bool} {xs : List D} {k : L2.Key} (S : StW G C ow r (T ++ (pushR x v ++ pushR y u)) s H) (lx : LocOk s v x) (ly : LocOk s u y) (e1 : opd r x = some e) (e2 : opd r y = some (.node (.dK ks) o xs)) (ek : keyD e = some k) :
    ∃ a ov, u = .ref a ∧ DGet H a v ov ∧ ov.isSome = (dix ks k).isSome := by
  have ev := keyD_rep ek (opd_rep S lx e1)
  obtain ⟨a, vs, eu, h1, h2, h3⟩ := opd_rep (T := T ++ pushR x v) (T2 := []) (by rw [List.append_nil, List.append_assoc]; exact S) ly e2
  obtain ⟨h1, hkl⟩ : H a = some (.dK (ks.zip vs)) ∧ ks.length = vs.length := h1
  refine ⟨a, valV (ks.zip vs) k, eu, by rw [ev]; exact DGet.k h1, ?_⟩
  rw [valV_zip k hkl]
  cases e : dix ks k with
  | none => rfl
  | some j =>
    show (vs[j]?).isSome = true
    rw [List.getElem?_eq_getElem (by have := (dix_lt e).1; omega)]
    rfl
theorem ve_din {a b : Expr} {pos : Pos} (hu : X.A.units + 1 < cLine) (ha : VE X G C W a fa) (hb : VE X G C W b fb) (hm : behindInMarks .In b = false := by rfl) : VE X G C W (.Compare a [.In] [b] pos) (cBin gDIn fa fb) := by
  refine PE.imp (pe_cmp (pc_din hu ha hb) hm) fun s H Q h => ?_
  obtain ⟨r, T, S, g⟩ := h
  refine two S g fun x y v u r2 H2 S2 lx ly q => ?_
  obtain ⟨ow, S2⟩ := S2
  unfold gDIn at q
  split at q
  · rename_i e ks o xs e1 e2
    split at q
    · rename_i k ek
      obtain ⟨p, ov, eu, dg, eo⟩ := din_go S2 lx ly e1 e2 ek
      refine ⟨p, ov, eu, dg, ?_⟩
      rw [eo]
      exact goes_val q ⟨ow, S2.drop⟩ rfl fun _ _ => rfl
    · exact q.elim
  · exact q.elim
theorem ve_dnin {a b : Expr} {pos : Pos} (hu : X.A.units + 1 < cLine) (ha : VE X G C W a fa) (hb : VE X G C W b fb) (hm : behindInMarks .NotIn b = false := by rfl) : VE X G C W (.Compare a [.NotIn] [b] pos) (cBin gDNotIn fa fb) := by
  refine PE.imp (pe_cmp (pc_dnotin hu ha hb) hm) fun s H Q h => ?_
  obtain ⟨r, T, S, g⟩ := h
  refine two S g fun x y v u r2 H2 S2 lx ly q => ?_
  obtain ⟨ow, S2⟩ := S2
  unfold gDNotIn at q
  split at q
  · rename_i e ks o xs e1 e2
    split at q
    · rename_i k ek
      obtain ⟨p, ov, eu, dg, eo⟩ := din_go S2 lx ly e1 e2 ek
      refine ⟨p, ov, eu, dg, ?_⟩
      rw [eo]
      exact goes_val q ⟨ow, S2.drop⟩ rfl fun _ _ => rfl
    · exact q.elim
  · exact q.elim
theorem vt_din {a b : Expr} {pos : Pos} (hu : X.A.units + 1 < cLine) (ha : VE X G C W a fa) (hb : VE X G C W b fb) (hm : behindInMarks .In b = false := by rfl) : VT X G C W (.Compare a [.In] [b] pos) (cBin gDIn fa fb) := by
  refine PT.imp (pt_cmp (pc_din hu ha hb) hm) fun s H Q h => ?_
  have z := tV_bl h
  obtain ⟨r, T, S, g⟩ := z
  refine two S g fun x y v u r2 H2 S2 lx ly q => ?_
  obtain ⟨ow, S2⟩ := S2
  unfold gDIn at q
  split at q
  · rename_i e ks o xs e1 e2
    split at q
    · rename_i k ek
      obtain ⟨p, ov, eu, dg, eo⟩ := din_go S2 lx ly e1 e2 ek
      refine ⟨p, ov, eu, dg, ?_⟩
      rw [eo]
      exact goes_val (Q := fun v H' => ∃ k, v = .bl k ∧ Q k H') q ⟨ow, S2.drop⟩ rfl fun _ _ => rfl
    · exact q.elim
  · exact q.elim
theorem vt_dnin {a b : Expr} {pos : Pos} (hu : X.A.units + 1 < cLine) (ha : VE X G C W a fa) (hb : VE X G C W b fb) (hm : behindInMarks .NotIn b = false := by rfl) : VT X G C W (.Compare a [.NotIn] [b] pos) (cBin gDNotIn fa fb) := by
  refine PT.imp (pt_cmp (pc_dnotin hu ha hb) hm) fun s H Q h => ?_
  have z := tV_bl h
  obtain ⟨r, T, S, g⟩ := z
  refine two S g fun x y v u r2 H2 S2 lx ly q => ?_
  obtain ⟨ow, S2⟩ := S2
  unfold gDNotIn at q
  split at q
  · rename_i e ks o xs e1 e2
    split at q
    · rename_i k ek
      obtain ⟨p, ov, eu, dg, eo⟩ := din_go S2 lx ly e1 e2 ek
      refine ⟨p, ov, eu, dg, ?_⟩
      rw [eo]
      exact goes_val (Q := fun v H' => ∃ k, v = .bl k ∧ Q k H') q ⟨ow, S2.drop⟩ rfl fun _ _ => rfl
    · exact q.elim
  · exact q.elim
end
end VL

namespace VL
open PySem PySem.Spec PyProof.Rows L2
section
variable {X : Cx} {G : GX} {C : Fc} {W : WX} {ow ow' : Ow} {r : Rho} {T T1 T2 : List (D × V)} {s : L2.St} {H H' : Hp} {fa fb fc fk : Ev} {f : Sv} {g : G2} {fs : Av}
/-- x[k] = the last temporary, or one more at the end: of any thing of a name's own -/
theorem StW.intoG {kd : Kd} (hkd : kd ≠ .rd) {i k : Nat} {ds ds' : List D} {d : D} {a : Addr} {v : V} (S : StW G C ow r (T ++ [(d, v)]) s H) (q : r[i]? = some (some (.node kd true ds))) (ha : s[i]? = some (some (.ref a)))
    (hds : (ds' = ds.set k d ∧ k < ds.length) ∨ (ds' = ds ++ [d] ∧ k = ds.length)) : ∃ vs, Holds G H a kd vs ∧ vs.length = ds.length ∧
    ∀ (kd' : Kd) (ho : HO), OwnO (some ho) → Holds G (upd H a ho) a kd' (if k < ds.length then vs.set k v else vs ++ [v]) →
    StW G C (intoSl ow T.length i k) (r.set i (some (.node kd' true ds'))) T s (upd H a ho) := by
  obtain ⟨v', z1, a', vs, ev, z2, z3, z4⟩ := S.sl i _ q
  rw [ha] at z1
  cases z1
  cases ev
  have oa : ow a = some ⟨.sl i, []⟩ := by simpa using z3.cases.resolve_left hkd
  have hl := z4.length
  refine ⟨vs, z2, hl.symm, fun kd' ho hm hh => ?_⟩
  have exn : ∀ (b : Addr) (o : HO), H b = some o → ¬ OwnO (some o) → upd H a ho b = some o := fun b o z n => by
    rw [upd_ne (fun e => by have m := S.mu a _ oa; rw [e] at z; rw [z] at m; exact n m)]; exact z
  refine StW.write (k := kd) (ow' := intoSl ow T.length i k) hkd S q ha hm (vs' := if k < ds.length then vs.set k v else vs ++ [v]) hh (fun b n => by unfold intoSl; rw [n]) (fun b j p n hj => ?_) (fun b p n => by unfold intoSl; rw [n]) (fun b l y => ?_) (fun b l y n l' y2 => ?_) ?_ ?_ (fun j d' w y => ?_)
  · unfold intoSl; rw [n]; exact if_neg (fun z => hj z.1)
  · obtain ⟨l', y1, y2⟩ := into_fo y
    exact ⟨l', y1, y2.mp⟩
  · obtain ⟨l2, y1, y3⟩ := into_fo y
    rw [y2] at y1
    cases y1
    exact fun z => n (y3.mpr z)
  · unfold intoSl; rw [oa]; simp
  · -- the parts
    have old : ∀ (m : Nat) dm vm, m ≠ k → ds[m]? = some dm → vs[m]? = some vm → Rep G (intoSl ow T.length i k) (upd H a ho) dm (Loc.sub ⟨.sl i, []⟩ (0 + m)) vm := fun m dm vm hm q1 q2 => by
      obtain ⟨vm', y1, y2⟩ := z4.get m dm q1
      rw [q2] at y1
      cases y1
      refine Rep.mono (l := Loc.sub ⟨.sl i, []⟩ (0 + m)) dm (fun b o z w => by rw [upd_ne (apart oa w (.inr (by simp [Loc.sub])))]; exact z) (fun b o z n => exn b o z n) (fun b o _ n => by unfold intoSl; rw [n]) (fun b o p _ n => ?_) y2
      have n' : ow b = some ⟨.sl i, m :: p⟩ := by rw [n]; simp [Loc.sub, Loc.app]
      unfold intoSl
      rw [n']
      have : ¬ (i = i ∧ (m :: p).head? = some k) := by simp [hm]
      simp [Loc.sub, Loc.app, hm]
    have new : Rep G (intoSl ow T.length i k) (upd H a ho) d (Loc.sub ⟨.sl i, []⟩ (0 + k)) v := by
      refine Rep.mono (l := ⟨.tm T.length, []⟩) d (fun b o z w => by rw [upd_ne (apart oa w (.inl (fun z => nomatch z)))]; exact z) (fun b o z n => exn b o z n) (fun b o _ n => by unfold intoSl; rw [n]) (fun b o p _ n => ?_) S.last
      have n' : ow b = some ⟨.tm T.length, [] ++ p⟩ := n
      unfold intoSl
      rw [n']
      simp [Loc.sub, Loc.app]
    rcases hds with ⟨e, hk⟩ | ⟨e, hk⟩
    · subst e
      refine Reps.of_get (by rw [if_pos hk]; simp [hl]) fun m dm vm q1 q2 => ?_
      rw [if_pos hk] at q2
      by_cases hm : m = k
      · subst hm
        rw [List.getElem?_set_self hk] at q1
        rw [List.getElem?_set_self (by omega)] at q2
        cases q1; cases q2
        exact new
      · rw [List.getElem?_set_ne (Ne.symm hm)] at q1 q2
        exact old m dm vm hm q1 q2
    · subst e
      subst hk
      refine Reps.of_get (by rw [if_neg (by omega)]; simp [hl]) fun m dm vm q1 q2 => ?_
      rw [if_neg (by omega)] at q2
      by_cases hm : m < ds.length
      · rw [List.getElem?_append_left hm] at q1
        rw [List.getElem?_append_left (by omega)] at q2
        exact old m dm vm (by omega) q1 q2
      · rw [List.getElem?_append_right (by omega)] at q1
        rw [List.getElem?_append_right (by omega), ← hl] at q2
        have em : m = ds.length := by
          have := (List.getElem?_eq_some_iff.mp q1).1
          simp at this; omega
        subst em
        simp at q1 q2
        subst q1; subst q2
        exact new
  · have hj : j < T.length := (List.getElem?_eq_some_iff.mp y).1
    have z := S.tm j d' w (by rw [List.getElem?_append_left hj]; exact y)
    refine Rep.mono (l := ⟨.tm j, []⟩) d' (fun b o z w => by rw [upd_ne (apart oa w (.inl (fun z => nomatch z)))]; exact z) (fun b o z n => exn b o z n) (fun b o _ n => by unfold intoSl; rw [n]) (fun b o p _ n => ?_) z
    have n' : ow b = some ⟨.tm j, [] ++ p⟩ := n
    unfold intoSl
    rw [n']
    have : ¬ j = T.length := by omega
    simp [Loc.app, this]
/-! ### d[k] = v -/
def isDk (r : Rho) (i : Nat) : Bool := match r[i]? with
  | some (some (.node (.dK _) _ _)) => true
  | _ => false
theorem isDk_at {i : Nat} (h : isDk r i = true) : ∃ ks o ds, r[i]? = some (some (.node (.dK ks) o ds)) := by
  unfold isDk at h
  split at h
  · rename_i ks o ds e; exact ⟨ks, o, ds, e⟩
  · cases h
/-- the parts of d[k] = v -/
def putD (ks : List L2.Key) (xs : List D) (k : L2.Key) (d : D) : D := match dix ks k with
  | some j => .node (.dK ks) true (xs.set j d)
  | none => .node (.dK (ks ++ [k])) true (xs ++ [d])
def okD (ks : List L2.Key) : Prop := ks.Nodup ∧ ks.length < 16777216
instance (ks : List L2.Key) : Decidable (okD ks) := by unfold okD; exact inferInstance
theorem StW.dput {i : Nat} {ks : List L2.Key} {xs : List D} {k : L2.Key} {d : D} {v : V} (S : StW G C ow r (T ++ [(d, v)]) s H) (q : r[i]? = some (some (.node (.dK ks) true xs))) (hok : okD ks) :
    ∃ a H2, s[i]? = some (some (.ref a)) ∧ DPut H a (kV k) v H2 ∧ StOk G C (r.set i (some (putD ks xs k d))) T s H2 := by
  obtain ⟨w0, v1, a, vs0, ev, v2, v3, v4⟩ := S.sl i _ q
  subst ev
  obtain ⟨v2, hkl⟩ : H a = some (.dK (ks.zip vs0)) ∧ ks.length = vs0.length := v2
  have hl4 := v4.length
  have hlt : (ks.zip vs0).length < sizeLine := by rw [List.length_zip, hkl, Nat.min_self, ← hkl, sizeLine_eq]; exact hok.2
  refine ⟨a, _, v1, DPut.k (k := k) (v := v) v2 hlt, ?_⟩
  unfold putD
  cases e : dix ks k with
  | some j =>
    have hj := (dix_lt e).1
    obtain ⟨vs', w1, w2, w3⟩ := StW.intoG (kd := .dK ks) (fun z => nomatch z) S q v1 (.inl ⟨rfl, show j < xs.length by omega⟩)
    obtain ⟨w1, hkl'⟩ : H a = some (.dK (ks.zip vs')) ∧ ks.length = vs'.length := w1
    rw [v2] at w1
    have ez : ks.zip vs0 = ks.zip vs' := by injection w1 with w1; injection w1
    have ev : vs0 = vs' := by
      have e1 := congrArg (List.map (·.2)) ez
      rwa [List.map_snd_zip (by omega), List.map_snd_zip (by omega)] at e1
    subst ev
    have w4 := w3 (.dK ks) (.dK (putK (ks.zip vs0) k v)) trivial (by
      rw [if_pos (by omega), put_some hkl hok.1 e]
      exact ⟨upd_same, by rw [List.length_set]; exact hkl⟩)
    exact ⟨_, w4⟩
  | none =>
    obtain ⟨vs', w1, w2, w3⟩ := StW.intoG (kd := .dK ks) (fun z => nomatch z) S q v1 (.inr ⟨rfl, rfl⟩)
    obtain ⟨w1, hkl'⟩ : H a = some (.dK (ks.zip vs')) ∧ ks.length = vs'.length := w1
    rw [v2] at w1
    have ez : ks.zip vs0 = ks.zip vs' := by injection w1 with w1; injection w1
    have ev : vs0 = vs' := by
      have e1 := congrArg (List.map (·.2)) ez
      rwa [List.map_snd_zip (by omega), List.map_snd_zip (by omega)] at e1
    subst ev
    have w4 := w3 (.dK (ks ++ [k])) (.dK (putK (ks.zip vs0) k v)) trivial (by
      rw [if_neg (Nat.lt_irrefl _), put_none hkl e]
      exact ⟨upd_same, by rw [List.length_append, List.length_append]; simp [hkl]⟩)
    exact ⟨_, w4⟩
def dputK (i : Nat) (x y : R) (r1 : Rho) : SO := match x, (opd r1 y).bind keyD, r1[i]? with
  | .val d, some k, some (some (.node (.dK ks) true xs)) => if okD ks then .nx (r1.set i (some (putD ks xs k d))) else .bad
  | _, _, _ => .bad
def cDPut (i : Nat) (fk fa : Ev) : Sv := fun r => (cSet fa r).st fun x r1 => if isDk r1 i = true then (fk r1).st (dputK i x) else .bad
theorem vs_dput {i : Nat} {x : Str} {k e : Expr} {p tpos pos : Pos} {fk : Ev} (hu : X.A.units + 1 < cLine) (hN : X.N[i]? = some x) (hv : Vis X.env.scope x) (hd : (x == ("__debug__" : Str)) = false) (hcd : (x == ("__classdict__" : Str)) = false) (hk : VE X G C W k fk) (ha : VE X G C W e fa)
    (hs : swapsWith e (some (.Subscript (.Name x p) k tpos)) pos.line X.env = pure false := by rfl) : VS X G C W (.Assign [.Subscript (.Name x p) k tpos] e pos) (cDPut i fk fa) := by
  refine PS.imp (ps_dput hu (pe_var hN hv hd hcd) hk (ve_set ha) hs) fun D s H h => ?_
  obtain ⟨r, T, S, g⟩ := h
  refine oneS (fa := cSet fa) S g fun x v r1 H1 P g1 => ?_
  split at g1
  · rename_i hi
    obtain ⟨ks, o, ds, hr⟩ := isDk_at hi
    obtain ⟨ow1, S1⟩ := P.1
    obtain ⟨w, v1, a, vs, ev, v2, v3, v4⟩ := S1.sl i _ hr
    subst ev
    refine ⟨_, v1, ?_⟩
    refine ⟨r1, T ++ pushR x v, ⟨ow1, S1⟩, ?_⟩
    cases e1 : fk r1 with
    | exc c r2 => rw [e1] at g1; exact fun H' S' => g1 s H' S'.drop
    | bad => rw [e1] at g1; exact g1.elim
    | ok y r2 =>
      rw [e1] at g1
      simp only [st_ok] at g1
      intro u H2 P2
      unfold dputK at g1
      split at g1
      · rename_i d k' ks' xs' e2 q
        split at g1
        · rename_i hok
          cases e3 : opd r2 y with
          | none => rw [e3] at e2; cases e2
          | some z =>
            rw [e3] at e2
            have e2 : keyD z = some k' := e2
            obtain ⟨ow2, S2⟩ := P2.1
            have eu := keyD_rep e2 (opd_rep (T := T ++ pushR (.val d) v) (T2 := []) (by rw [List.append_nil]; exact S2) P2.2 e3)
            have S3 : StW G C ow2 r2 (T ++ [(d, v)]) s H2 := StW.drop (T := T ++ [(d, v)]) (T2 := pushR y u) S2
            obtain ⟨a', H3, z1, z2, z3⟩ := S3.dput (k := k') q hok
            rw [v1] at z1
            cases z1
            subst eu
            exact ⟨a, H3, rfl, z2, g1 _ _ z3⟩
        · exact g1.elim
      · exact g1.elim
  · exact g1.elim
/-! ### d[k] op= v, of parts without parts -/
def daugK (i j : Nat) (ks : List L2.Key) (z : R) (r3 : Rho) : SO := match z, r3[i]? with
  | .val d, some (some (.node (.dK ks') true xs)) => if atom d = true ∧ ks' = ks ∧ okD ks then .nx (r3.set i (some (.node (.dK ks) true (xs.set j d)))) else .bad
  | _, _ => .bad
def cDAug (i : Nat) (g : G2) (fk fb : Ev) : Sv := fun r => if isDk r i = true then (fk r).st fun y r1 => match (opd r1 y).bind keyD, r1[i]? with
  | some k, some (some (.node (.dK ks) _ xs)) => (match dix ks k with
    | some j => (match xs[j]? with
      | some d => if atom d = true then (fb r1).st fun y2 r2 => (g (.val d) y2 r2).st (daugK i j ks) else .bad
      | none => .bad)
    | none => .bad)
  | _, _ => .bad else .bad
theorem vs_daug {i : Nat} {x : Str} {k e : Expr} {op : Operator} {p tpos pos : Pos} (hu : X.A.units + 1 < cLine) (hN : X.N[i]? = some x) (hv : Vis X.env.scope x) (hd : (x == ("__debug__" : Str)) = false) (hcd : (x == ("__classdict__" : Str)) = false) (hk : VE X G C W k fk) (ho : OpS X (inplaceOp op) g) (he : VE X G C W e fb)
    (hst : ∀ ov iv new, augStore k ov iv new = (do holding [new, ov, iv] (setItem ov iv new); release [new, ov, iv] []; pure .next) := by intro _ _ _; rfl) : VS X G C W (.AugAssign (.Subscript (.Name x p) k tpos) op e pos) (cDAug i g fk fb) := by
  obtain ⟨rr, o1, o2⟩ := ho
  refine PS.imp (ps_daug hu (pe_var hN hv hd hcd) hk he (rd := rr) o1 hst) fun D s H h => ?_
  obtain ⟨r, T, S, g1⟩ := h
  have g1 : GoesS G C W T D (cDAug i g fk fb r) := g1
  unfold cDAug at g1
  split at g1
  · rename_i hi
    obtain ⟨ks0, o0, ds0, hr⟩ := isDk_at hi
    obtain ⟨ow0, S0⟩ := S
    obtain ⟨w, v1, a, vs, ev, _, _, _⟩ := S0.sl i _ hr
    subst ev
    refine ⟨_, v1, ?_⟩
    refine oneS (fa := fk) ⟨ow0, S0⟩ g1 fun y u r1 H1 P g1 => ?_
    split at g1
    · rename_i k' ks o xs e1 q1
      split at g1
      · rename_i j ej
        split at g1
        · rename_i d ed
          split at g1
          · rename_i ad
            cases e3 : opd r1 y with
            | none => rw [e3] at e1; cases e1
            | some z =>
              rw [e3] at e1
              have e1 : keyD z = some k' := e1
              obtain ⟨⟨ow1, S1⟩, l1⟩ := P
              have eu := keyD_rep e1 (opd_rep (T := T) (T2 := []) (by simpa using S1) l1 e3)
              have S2 : StW G C ow1 r1 T s H1 := S1.drop
              obtain ⟨w2, x1, a2, vs2, ev2, x2, x3, x4⟩ := S2.sl i _ q1
              subst ev2
              rw [v1] at x1
              cases x1
              obtain ⟨x2, hkl⟩ : H1 a = some (.dK (ks.zip vs2)) ∧ ks.length = vs2.length := x2
              obtain ⟨wv, ew, rw'⟩ := x4.get j d ed
              have dg := DGet.k (k := k') x2
              rw [valV_zip k' hkl, ej] at dg
              have e5 : (some j).bind (fun j => vs2[j]?) = some wv := ew
              rw [e5] at dg
              subst eu
              refine ⟨a, wv, rfl, dg, ?_⟩
              have S3 : StOk G C r1 (T ++ [(d, wv)]) s H1 := ⟨ow1, S2.push (rw'.of_atom ad)⟩
              refine ⟨r1, T ++ [(d, wv)], S3, ?_⟩
              cases e6 : fb r1 with
              | exc c r2 => rw [e6] at g1; exact fun H' S' => g1 s H' S'.drop
              | bad => rw [e6] at g1; exact g1.elim
              | ok y2 r2 =>
                rw [e6] at g1
                simp only [st_ok] at g1
                intro u2 H2 P2
                refine o2 G C W r2 T s H2 (.val d) y2 wv u2 _ (by show StOk G C r2 (T ++ ([(d, wv)] ++ pushR y2 u2)) s H2; rw [← List.append_assoc]; exact P2.1) trivial P2.2 ?_
                cases e7 : g (.val d) y2 r2 with
                | exc c r3 => rw [e7] at g1; exact fun H3 S3 => g1 s H3 S3
                | bad => rw [e7] at g1; exact g1.elim
                | ok z' r3 =>
                  rw [e7] at g1
                  simp only [st_ok] at g1
                  intro w' H3 P3
                  unfold daugK at g1
                  split at g1
                  · rename_i d' ks' xs' q3
                    split at g1
                    · rename_i hc
                      obtain ⟨ad', ek, hok⟩ := hc
                      subst ek
                      obtain ⟨⟨ow3, S5⟩, _⟩ := P3
                      have S5 : StW G C ow3 r3 (T ++ [(d', w')]) s H3 := S5
                      obtain ⟨a5, H5, z1, z2, z3⟩ := S5.dput (k := k') q3 hok
                      rw [v1] at z1
                      cases z1
                      refine ⟨H5, z2, g1 _ _ ?_⟩
                      unfold putD at z3
                      rw [ej] at z3
                      exact z3
                    · exact g1.elim
                  · exact g1.elim
          · exact g1.elim
        · exact g1.elim
      · exact g1.elim
    · exact g1.elim
  · exact g1.elim
/-! ### d.get(k, z), of parts without parts -/
def dgetZ (i : Nat) (y z : R) (r2 : Rho) : EO := match (opd r2 y).bind keyD, opd r2 z, r2[i]? with
  | some k, some dz, some (some (.node (.dK ks) _ xs)) => (match dix ks k with
    | some j => (match xs[j]? with
      | some d => if atom d = true then .ok (.val d) r2 else .bad
      | none => .bad)
    | none => if atom dz = true then .ok (.val dz) r2 else .bad)
  | _, _, _ => .bad
def cDGetZ (i : Nat) (fk fz : Ev) : Ev := fun r => if isDk r i = true then (fk r).bd fun y r1 => (fz r1).bd fun z r2 => dgetZ i y z r2 else .bad
theorem ve_dget2 {i : Nat} {x : Str} {a b : Expr} {p apos cpos : Pos} (hu : X.A.units + 1 < cLine) (hN : X.N[i]? = some x) (hv : Vis X.env.scope x) (hd : (x == ("__debug__" : Str)) = false) (hcd : (x == ("__classdict__" : Str)) = false) (ha : VE X G C W a fa) (hb : VE X G C W b fb) (m : M2 X (.Name x p) "get" apos a b cpos) :
    VE X G C W (.Call (.Attribute (.Name x p) "get" apos) [a, b] [] cpos) (cDGetZ i fa fb) := by
  refine PE.imp (pe_dget2 hu (pe_var hN hv hd hcd) ha hb m) fun s H Q h => ?_
  obtain ⟨r, T, S, g⟩ := h
  have g : Goes G C W T s Q (cDGetZ i fa fb r) := g
  unfold cDGetZ at g
  split at g
  · rename_i hi
    obtain ⟨ks0, o0, ds0, hr⟩ := isDk_at hi
    obtain ⟨ow0, S0⟩ := S
    obtain ⟨w, v1, a0, vs, ev, v2, _, _⟩ := S0.sl i _ hr
    subst ev
    obtain ⟨v2, _⟩ : H a0 = some (.dK (ks0.zip vs)) ∧ ks0.length = vs.length := v2
    refine ⟨_, v1, a0, rfl, .inl ⟨_, .inl v2⟩, ?_⟩
    refine two ⟨ow0, S0⟩ g fun y z u w r2 H2 S2 ly lz q => ?_
    obtain ⟨ow, S2⟩ := S2
    unfold dgetZ at q
    split at q
    · rename_i k dz ks o xs e1 e2 e3
      cases e4 : opd r2 y with
      | none => rw [e4] at e1; cases e1
      | some yd =>
        rw [e4] at e1
        have e1 : keyD yd = some k := e1
        have eu := keyD_rep e1 (opd_rep S2 ly e4)
        have rz := opd_rep (T := T ++ pushR y u) (T2 := []) (by rw [List.append_nil, List.append_assoc]; exact S2) lz e2
        have S3 : StW G C ow r2 T s H2 := S2.drop
        obtain ⟨w2, x1, a2, vs2, ev2, x2, x3, x4⟩ := S3.sl i _ e3
        subst ev2
        rw [v1] at x1
        cases x1
        obtain ⟨x2, hkl⟩ : H2 a0 = some (.dK (ks.zip vs2)) ∧ ks.length = vs2.length := x2
        have dg := DGet.k (k := k) x2
        rw [valV_zip k hkl] at dg
        subst eu
        refine ⟨_, dg, ?_⟩
        split at q
        · rename_i j ej
          split at q
          · rename_i d ed
            split at q
            · rename_i ad
              obtain ⟨wv, ew, rw'⟩ := x4.get j d ed
              rw [ej]
              have e5 : (some j).bind (fun j => vs2[j]?) = some wv := ew
              rw [e5]
              exact goes_val q ⟨ow, S3⟩ ad fun _ _ => rw'.of_atom ad
            · exact q.elim
          · exact q.elim
        · rename_i en
          split at q
          · rename_i az
            rw [en]
            exact goes_val q ⟨ow, S3⟩ az fun _ _ => rz.of_atom az
          · exact q.elim
    · exact q.elim
  · exact g.elim
end
end VL

namespace VL
open PySem PySem.Spec PyProof.Rows L2
/-! ### pairs of whole numbers in order -/
def leP (p q : Int × Int) : Bool := decide (p.1 < q.1) || (decide (p.1 = q.1) && decide (p.2 ≤ q.2))
theorem leP_iff {p q : Int × Int} : leP p q = true ↔ p.1 < q.1 ∨ (p.1 = q.1 ∧ p.2 ≤ q.2) := by
  unfold leP
  rw [Bool.or_eq_true, Bool.and_eq_true, decide_eq_true_eq, decide_eq_true_eq, decide_eq_true_eq]
theorem leP_lexB {p q : Int × Int} : SrtO.lexB q p = false ↔ leP p q = true := by
  rw [leP_iff, ← Bool.not_eq_true, SrtO.lexB_iff]
  omega
def insP (x : Int × Int) : List (Int × Int) → List (Int × Int)
  | [] => [x]
  | y :: ys => if leP x y = true then x :: y :: ys else y :: insP x ys
def srtP : List (Int × Int) → List (Int × Int)
  | [] => []
  | x :: xs => insP x (srtP xs)
theorem insP_perm (x : Int × Int) : ∀ ys : List (Int × Int), (insP x ys).Perm (x :: ys)
  | [] => List.Perm.refl _
  | y :: ys => by
    unfold insP
    split
    · exact List.Perm.refl _
    · exact ((insP_perm x ys).cons y).trans (List.Perm.swap x y ys)
theorem srtP_perm : ∀ xs : List (Int × Int), (srtP xs).Perm xs
  | [] => List.Perm.refl _
  | x :: xs => (insP_perm x (srtP xs)).trans ((srtP_perm xs).cons x)
theorem leP_trans {x y z : Int × Int} (h : leP x y = true) (h' : leP y z = true) : leP x z = true := by
  rw [leP_iff] at *
  omega
theorem leP_total {x y : Int × Int} (h : ¬ leP x y = true) : leP y x = true := by
  rw [leP_iff] at *
  omega
theorem insP_up (x : Int × Int) : ∀ ys : List (Int × Int), ys.Pairwise (fun p q => leP p q = true) → (insP x ys).Pairwise (fun p q => leP p q = true)
  | [], _ => by simp [insP]
  | y :: ys, h => by
    unfold insP
    have h1 := List.pairwise_cons.mp h
    split
    · rename_i hx
      refine List.pairwise_cons.mpr ⟨fun z hz => ?_, h⟩
      rcases List.mem_cons.mp hz with e | e
      · rw [e]; exact hx
      · exact leP_trans hx (h1.1 z e)
    · rename_i hx
      refine List.pairwise_cons.mpr ⟨fun z hz => ?_, insP_up x ys h1.2⟩
      rcases List.mem_cons.mp ((insP_perm x ys).mem_iff.mp hz) with e | e
      · rw [e]; exact leP_total hx
      · exact h1.1 z e
theorem srtP_up : ∀ xs : List (Int × Int), (srtP xs).Pairwise (fun p q => leP p q = true)
  | [] => List.Pairwise.nil
  | x :: xs => insP_up x _ (srtP_up xs)
theorem upP_unique : ∀ {xs ys : List (Int × Int)}, xs.Perm ys → xs.Pairwise (fun p q => leP p q = true) → ys.Pairwise (fun p q => leP p q = true) → xs = ys
  | [], ys, p, _, _ => by rw [List.nil_perm.mp p]
  | x :: xs, [], p, _, _ => by have := p.length_eq; simp at this
  | x :: xs, y :: ys, p, h1, h2 => by
    have h1' := List.pairwise_cons.mp h1
    have h2' := List.pairwise_cons.mp h2
    have e1 : x = y ∨ leP x y = true := by
      rcases List.mem_cons.mp (p.mem_iff.mpr (List.mem_cons_self : y ∈ y :: ys)) with e | e
      · exact .inl e.symm
      · exact .inr (h1'.1 y e)
    have e2 : x = y ∨ leP y x = true := by
      rcases List.mem_cons.mp (p.mem_iff.mp (List.mem_cons_self : x ∈ x :: xs)) with e | e
      · exact .inl e
      · exact .inr (h2'.1 x e)
    have e : x = y := by
      rcases e1 with e | e1
      · exact e
      · rcases e2 with e | e2
        · exact e
        · rw [leP_iff] at e1 e2
          exact Prod.ext (by omega) (by omega)
    subst e
    rw [upP_unique ((List.perm_cons x).mp p) h1'.2 h2'.2]
/-! ### whole numbers as keys -/
def keysI : List L2.Key → Option (List Int)
  | [] => some []
  | .inl i :: ks => (match keysI ks with
    | some ns => some (i :: ns)
    | none => none)
  | _ => none
theorem keysI_map (ns : List Int) : keysI (ns.map Sum.inl) = some ns := by
  induction ns with
  | nil => rfl
  | cons n ns ih =>
    show (match keysI (ns.map Sum.inl) with | some ns => some (n :: ns) | none => none) = _
    rw [ih]
theorem keysI_eq : ∀ {ks : List L2.Key} {ns : List Int}, keysI ks = some ns → ks = ns.map Sum.inl
  | [], ns, e => by cases e; rfl
  | .inl i :: ks, ns, e => by
    unfold keysI at e
    split at e
    · rename_i ms e2
      cases e
      rw [keysI_eq e2]; rfl
    · cases e
  | .inr z :: ks, ns, e => by unfold keysI at e; cases e
def pairD (p : Int × Int) : D := .node .tup false [.int p.1, .int p.2]
theorem frzs_pairs (ps : List (Int × Int)) : frzs (ps.map pairD) = ps.map pairD := by
  rw [frzs_map, List.map_map]
  rfl
/-! ### sorted(d), sorted(d.items()) -/
def gSortedD : List R → Rho → EO := fun xs r => match xs with
  | [x] => (match opd r x with
    | some (.node (.dK ks) _ _) => (match keysI ks with
      | some ns => .ok (.val (.node .lst true ((srt ns).map .int))) r
      | none => .bad)
    | _ => .bad)
  | _ => .bad
def cSortItems (i : Nat) : Ev := fun r => match r[i]? with
  | some (some (.node (.dK ks) _ xs)) => (match keysI ks, intsOf xs with
    | some a, some b => .ok (.val (.node .lst true ((srtP (a.zip b)).map pairD))) r
    | _, _ => .bad)
  | _ => .bad
section
variable {X : Cx} {G : GX} {C : Fc} {W : WX} {ow ow' : Ow} {r : Rho} {T T1 T2 : List (D × V)} {s : L2.St} {H H' : Hp} {fa fb fc fk : Ev} {f : Sv} {g : G2} {fs : Av}
theorem cs_sortedD (hc : X.calm = true) : CallS X (.builtin "sorted") gSortedD := by
  refine ⟨_, call_sortedDA hc, fun G hG C W r T s H xs vs Q S l q => ?_⟩
  unfold gSortedD at q
  split at q
  · rename_i x
    obtain ⟨v, ev, lx, ep⟩ := one_arg l
    rw [ep] at S
    subst ev
    obtain ⟨ow, S⟩ := S
    split at q
    · rename_i ks o ds e1
      split at q
      · rename_i ns e2
        obtain ⟨a, ws, ev, h1, h2, h3⟩ := opd_rep (T2 := []) (by simpa using S) lx e1
        subst ev
        obtain ⟨h1, hkl⟩ : H a = some (.dK (ks.zip ws)) ∧ ks.length = ws.length := h1
        refine ⟨a, _, ns, rfl, .inl h1, by rw [zip_fst hkl]; exact keysI_eq e2, fun ns' p hp up hn => ?_⟩
        have e : ns' = srt ns := up_unique (hp.trans (srt_perm ns).symm) up (srt_up ns)
        subst e
        exact S.drop.made (l := ⟨.fo, []⟩) (i := 0) (frzs_ints _) (reps_ints _ _ _) q p hn
      · exact q.elim
    · exact q.elim
  · exact q.elim
theorem reps_pairs {G : GX} {ow : Ow} {H : Hp} : ∀ (zs : List (Addr × Int × Int)) (l : VL.Loc) (i : Nat), (∀ z ∈ zs, H z.1 = some (.tup [.int z.2.1, .int z.2.2]) ∧ ow z.1 = none) → Reps G ow H ((zs.map (·.2)).map pairD) l i (zs.map fun z => V.ref z.1)
  | [], _, _, _ => rfl
  | z :: zs, l, i, h => ⟨_, _, rfl, ⟨z.1, _, rfl, (h z List.mem_cons_self).1, (h z List.mem_cons_self).2, _, _, rfl, rfl, _, _, rfl, rfl, rfl⟩, reps_pairs zs l (i + 1) fun y hy => h y (List.mem_cons_of_mem _ hy)⟩
theorem zip_keys : ∀ {ns ms : List Int}, (ns.map (Sum.inl : Int → L2.Key)).zip (ms.map V.int) = (ns.zip ms).map fun q => (Sum.inl q.1, V.int q.2)
  | [], _ => rfl
  | _ :: _, [] => rfl
  | n :: ns, m :: ms => by
    show (Sum.inl n, V.int m) :: (ns.map Sum.inl).zip (ms.map V.int) = (Sum.inl n, V.int m) :: _
    rw [zip_keys]
    rfl
theorem ve_sortItems {i : Nat} {x f : Str} {p p2 apos cpos pos : Pos} (hc : X.calm = true) (hN : X.N[i]? = some x) (hv : Vis X.env.scope x) (hd : (x == ("__debug__" : Str)) = false) (hcd : (x == ("__classdict__" : Str)) = false)
    (hg : Gl X f) (hm : X.mg f = none) (hb : bootBuiltins f = some (.builtin "sorted")) (hn : f ≠ "__name__" := by decide) (hdb : (f == ("__debug__" : Str)) = false := by decide)
    (hbase : attributeBase (.Name x p) "items" X.env (eval (.Name x p) X.env) = eval (.Name x p) X.env := by rfl) (hline : (apos.endLine == cpos.line) = true := by rfl)
    (hs : starEach [.Call (.Attribute (.Name x p) "items" apos) [] [] cpos] X.env = (false, eval (.Call (.Attribute (.Name x p) "items" apos) [] [] cpos) X.env) :: starEach [] X.env := by rfl) (hpl : (backTo pos (starEach [] X.env)).any (·.1) = false := by rfl) :
    VE X G C W (.Call (.Name f p2) [.Call (.Attribute (.Name x p) "items" apos) [] [] cpos] [] pos) (cSortItems i) := by
  refine PE.imp (pe_callB (cr_sortedItemsK hc) hg hm hb (pa_cons (pe_bm0 PySem.F.plainAttrs_dict PySem.F.slot_dict_items PySem.F.type_dict_items mt_itemsK (pe_var hN hv hd hcd) hbase hline) pa_nil hs) hn hdb hs hpl) fun s H Q h => ?_
  obtain ⟨r, T, S, g⟩ := h
  have g : Goes G C W T s Q (cSortItems i r) := g
  unfold cSortItems at g
  split at g
  · rename_i ks o xs q
    split at g
    · rename_i na nb e1 e2
      obtain ⟨ow, S⟩ := S
      obtain ⟨v, v1, a, vs, ev, v2, v3, v4⟩ := S.sl i _ q
      subst ev
      obtain ⟨v2, hkl⟩ : H a = some (.dK (ks.zip vs)) ∧ ks.length = vs.length := v2
      have ek := keysI_eq e1
      have ev := ints_rep e2 v4
      rw [ek, ev, zip_keys] at v2
      refine ⟨_, v1, .inr (.inr (.inl ⟨rfl, .inl ⟨_, v2⟩⟩)), a, _, rfl, rfl, v2, fun p0 hp0 => ?_⟩
      refine ⟨p0, a, na.zip nb, rfl, upd_same, by rw [upd_ne (ne_of_none v2 hp0)]; exact v2, fun H2 l zs he pz up hl hz => ?_⟩
      have S1 : StW G C ow r T s H2 := S.ext ((Ext.new hp0).trans he)
      have ez : zs.map (·.2) = srtP (na.zip nb) := upP_unique (pz.trans (srtP_perm _).symm) (List.Pairwise.imp (fun h => leP_lexB.mp h) up) (srtP_up _)
      rw [← ez] at g
      refine S1.made (l := ⟨.fo, []⟩) (i := 0) (frzs_pairs _) (reps_pairs zs _ _ fun z hzm => ⟨hz z hzm, ?_⟩) g l hl
      cases eo : ow z.1 with
      | none => rfl
      | some lo =>
        have m := S1.mu _ _ eo
        rw [hz z hzm] at m
        exact m.elim
    · exact g.elim
  · exact g.elim
end
end VL

namespace VL
open PySem PySem.Spec PyProof.Rows L2
/-! ### a dict with whole numbers as keys, as a list of keys and what each has -/
abbrev kI (ks : List Int) : List L2.Key := ks.map Sum.inl
def dD (ks : List Int) (f : Int → D) : D := .node (.dK (kI ks)) true (ks.map f)
def addK (ks : List Int) (x : Int) : List Int := if x ∈ ks then ks else ks ++ [x]
def upF (f : Int → D) (x : Int) (d : D) : Int → D := fun y => if y = x then d else f y
theorem kI_nodup {ks : List Int} (h : ks.Nodup) : (kI ks).Nodup := by
  unfold List.Nodup kI
  rw [List.pairwise_map]
  exact List.Pairwise.imp (fun h e => h (by injection e)) h
theorem kI_ok {ks : List Int} (h : ks.Nodup) (hl : ks.length < 16777216) : okD (kI ks) := ⟨kI_nodup h, by rw [List.length_map]; exact hl⟩
theorem kI_mem {ks : List Int} {x : Int} : Sum.inl x ∈ kI ks ↔ x ∈ ks := by
  unfold kI
  rw [List.mem_map]
  exact ⟨fun ⟨y, h, e⟩ => by injection e with e; exact e ▸ h, fun h => ⟨x, h, rfl⟩⟩
theorem dix_in {ks : List Int} {x : Int} (h : x ∈ ks) : ∃ j, dix (kI ks) (Sum.inl x) = some j ∧ ks[j]? = some x := by
  cases e : dix (kI ks) (Sum.inl x) with
  | none => exact absurd (kI_mem.mpr h) (dix_none.mp e)
  | some j =>
    refine ⟨j, rfl, ?_⟩
    have e2 := (dix_lt e).2
    unfold kI at e2
    rw [List.getElem?_map] at e2
    cases e3 : ks[j]? with
    | none => rw [e3] at e2; cases e2
    | some y =>
      rw [e3] at e2
      have e4 : (Sum.inl y : L2.Key) = Sum.inl x := Option.some.inj e2
      injection e4 with e4
      rw [e4]
theorem dix_out {ks : List Int} {x : Int} (h : x ∉ ks) : dix (kI ks) (Sum.inl x) = none := dix_none.mpr fun m => h (kI_mem.mp m)
theorem dix_isSome {ks : List Int} {x : Int} : (dix (kI ks) (Sum.inl x)).isSome = decide (x ∈ ks) := by
  by_cases h : x ∈ ks
  · obtain ⟨j, e, _⟩ := dix_in h
    rw [e, decide_eq_true h]; rfl
  · rw [dix_out h, decide_eq_false h]; rfl
theorem map_upF {ks : List Int} {f : Int → D} {x : Int} {d : D} (h : x ∉ ks) : ks.map (upF f x d) = ks.map f := List.map_congr_left fun y hy => by
  unfold upF
  exact if_neg (fun (e : y = x) => h (e ▸ hy))
theorem set_upF : ∀ {ks : List Int} {f : Int → D} {x : Int} {d : D} {j : Nat}, ks.Nodup → ks[j]? = some x → (ks.map f).set j d = ks.map (upF f x d)
  | [], f, x, d, j, _, h => by simp at h
  | y :: ks, f, x, d, 0, hn, h => by
    simp at h
    subst h
    show d :: ks.map f = upF f y d y :: ks.map (upF f y d)
    rw [map_upF (List.nodup_cons.mp hn).1]
    unfold upF
    rw [if_pos rfl]
  | y :: ks, f, x, d, j + 1, hn, h => by
    have h : ks[j]? = some x := by simpa using h
    have hy : y ≠ x := fun e => (List.nodup_cons.mp hn).1 (e ▸ List.mem_of_getElem? h)
    show f y :: (ks.map f).set j d = upF f x d y :: ks.map (upF f x d)
    rw [set_upF (List.nodup_cons.mp hn).2 h]
    unfold upF
    rw [if_neg hy]
theorem putD_int {ks : List Int} {f : Int → D} {x : Int} {d : D} (hn : ks.Nodup) : putD (kI ks) (ks.map f) (Sum.inl x) d = dD (addK ks x) (upF f x d) := by
  unfold putD addK
  by_cases h : x ∈ ks
  · obtain ⟨j, e, e2⟩ := dix_in h
    rw [e, if_pos h]
    show D.node _ true ((ks.map f).set j d) = _
    rw [set_upF hn e2]
    rfl
  · rw [dix_out h, if_neg h]
    show D.node (.dK (kI ks ++ [Sum.inl x])) true (ks.map f ++ [d]) = .node (.dK (kI (ks ++ [x]))) true ((ks ++ [x]).map (upF f x d))
    have e1 : kI (ks ++ [x]) = kI ks ++ [Sum.inl x] := by unfold kI; rw [List.map_append]; rfl
    have e2 : (ks ++ [x]).map (upF f x d) = ks.map f ++ [d] := by
      rw [List.map_append, map_upF h]
      show _ ++ [upF f x d x] = _
      unfold upF
      rw [if_pos rfl]
    rw [e1, e2]
theorem addK_nodup {ks : List Int} {x : Int} (h : ks.Nodup) : (addK ks x).Nodup := by
  unfold addK
  split
  · exact h
  · rename_i hx
    rw [List.nodup_append]
    exact ⟨h, List.nodup_cons.mpr ⟨fun h => (List.not_mem_nil h), List.nodup_nil⟩, fun a ha b hb e => hx (by rw [List.mem_singleton.mp hb] at e; exact e ▸ ha)⟩
theorem addK_mem {ks : List Int} {x y : Int} : y ∈ addK ks x ↔ y ∈ ks ∨ y = x := by
  unfold addK
  split
  · rename_i h
    exact ⟨.inl, fun h' => h'.elim id fun e => e ▸ h⟩
  · rw [List.mem_append, List.mem_singleton]
theorem addK_len (ks : List Int) (x : Int) : (addK ks x).length ≤ ks.length + 1 := by
  unfold addK
  split
  · omega
  · simp
/-! ### readings -/
theorem isDk_dD {r : Rho} {i : Nat} {ks : List Int} {f : Int → D} (h : r[i]? = some (some (dD ks f))) : isDk r i = true := by
  unfold isDk
  rw [h]
  rfl
theorem dput_ok {fa fk : Ev} {r r1 r2 : Rho} {i : Nat} {ks : List Int} {f : Int → D} {x : Int} {d : D} (h1 : fa r = .ok (.val d) r1) (h2 : r1[i]? = some (some (dD ks f))) (h3 : ∃ y, fk r1 = .ok y r2 ∧ opd r2 y = some (.int x)) (h4 : r2[i]? = some (some (dD ks f))) (hn : ks.Nodup) (hl : ks.length < 16777216) :
    cDPut i fk fa r = .nx (r2.set i (some (dD (addK ks x) (upF f x d)))) := by
  obtain ⟨y, h3, h5⟩ := h3
  unfold cDPut
  rw [q_set, h1, bd_ok]
  show (if isDk r1 i = true then (fk r1).st (dputK i (.val d)) else .bad) = _
  rw [if_pos (isDk_dD h2), h3]
  show dputK i (.val d) y r2 = _
  unfold dputK
  rw [h5, h4]
  show (if okD (kI ks) then SO.nx (r2.set i (some (putD (kI ks) (ks.map f) (Sum.inl x) d))) else .bad) = _
  rw [if_pos (kI_ok hn hl), putD_int hn]
theorem dget2_ok {fk fz : Ev} {r r1 r2 : Rho} {i : Nat} {ks : List Int} {f : Int → D} {x : Int} {y : R} {d : D} {z : R} (h2 : r[i]? = some (some (dD ks f))) (h3 : fk r = .ok y r1) (h4 : fz r1 = .ok z r2) (h5 : opd r2 y = some (.int x)) (h6 : opd r2 z = some d) (h7 : r2[i]? = some (some (dD ks f))) (ha : atom d = true) (hf : ∀ x ∈ ks, atom (f x) = true) :
    cDGetZ i fk fz r = .ok (.val (if x ∈ ks then f x else d)) r2 := by
  unfold cDGetZ
  rw [if_pos (isDk_dD h2), h3, bd_ok, h4, bd_ok]
  unfold dgetZ
  rw [h5, h6, h7]
  show (match dix (kI ks) (Sum.inl x) with | some j => (match (ks.map f)[j]? with | some d => if atom d = true then EO.ok (.val d) r2 else .bad | none => .bad) | none => if atom d = true then .ok (.val d) r2 else .bad) = _
  by_cases h : x ∈ ks
  · obtain ⟨j, e, e2⟩ := dix_in h
    rw [e]
    simp only [List.getElem?_map, e2, Option.map_some]
    rw [if_pos (hf x h), if_pos h]
  · rw [dix_out h]
    show (if atom d = true then EO.ok (.val d) r2 else .bad) = _
    rw [if_pos ha, if_neg h]
theorem dgetK_ok {r : Rho} {x y : R} {ks : List Int} {f : Int → D} {k : Int} {o : Bool} (h1 : opd r x = some (.node (.dK (kI ks)) o (ks.map f))) (h2 : opd r y = some (.int k)) (hk : k ∈ ks) : dgetK x y r = pick r x (f k) := by
  unfold dgetK
  rw [h1, h2]
  obtain ⟨j, e, e2⟩ := dix_in hk
  show (match dix (kI ks) (Sum.inl k) with | some j => (match (ks.map f)[j]? with | some d => pick r x d | none => .bad) | none => .bad) = _
  rw [e]
  simp only [List.getElem?_map, e2, Option.map_some]
theorem gDIn_ok {r : Rho} {x y : R} {ks : List Int} {f : Int → D} {k : Int} {o : Bool} (h1 : opd r y = some (.node (.dK (kI ks)) o (ks.map f))) (h2 : opd r x = some (.int k)) : gDIn x y r = .ok (.val (.bl (decide (k ∈ ks)))) r := by
  unfold gDIn
  rw [h1, h2]
  show EO.ok (.val (.bl (dix (kI ks) (Sum.inl k)).isSome)) r = _
  rw [dix_isSome]
theorem gDNotIn_ok {r : Rho} {x y : R} {ks : List Int} {f : Int → D} {k : Int} {o : Bool} (h1 : opd r y = some (.node (.dK (kI ks)) o (ks.map f))) (h2 : opd r x = some (.int k)) : gDNotIn x y r = .ok (.val (.bl (decide (k ∉ ks)))) r := by
  unfold gDNotIn
  rw [h1, h2]
  show EO.ok (.val (.bl (!(dix (kI ks) (Sum.inl k)).isSome))) r = _
  rw [dix_isSome]
  by_cases h : k ∈ ks
  · rw [decide_eq_true h, decide_eq_false (fun z => z h)]; rfl
  · rw [decide_eq_false h, decide_eq_true h]; rfl
theorem zip_mapS (f : Int → Int) : ∀ ks : List Int, ks.zip (ks.map f) = ks.map fun x => (x, f x)
  | [] => rfl
  | k :: ks => by
    show (k, f k) :: ks.zip (ks.map f) = (k, f k) :: _
    rw [zip_mapS f ks]
theorem sortItems_ok {r : Rho} {i : Nat} {ks : List Int} {f : Int → Int} (h : r[i]? = some (some (dD ks fun x => .int (f x)))) : cSortItems i r = .ok (.val (.node .lst true ((srtP (ks.map fun x => (x, f x))).map pairD))) r := by
  unfold cSortItems
  rw [h]
  show (match keysI (kI ks), intsOf (ks.map fun x => D.int (f x)) with | some a, some b => EO.ok (.val (.node .lst true ((srtP (a.zip b)).map pairD))) r | _, _ => .bad) = _
  have e : (ks.map fun x => D.int (f x)) = (ks.map f).map D.int := by rw [List.map_map]; rfl
  rw [keysI_map, e, intsOf_map]
  show EO.ok (.val (.node .lst true ((srtP (ks.zip (ks.map f))).map pairD))) r = _
  rw [zip_mapS]
theorem sortedD_ok {fa : Ev} {r r1 : Rho} {x : R} {o : Bool} {ks : List Int} {f : Int → D} (h : fa r = .ok x r1) (ho : opd r1 x = some (.node (.dK (kI ks)) o (ks.map f))) : cB gSortedD (cCons fa cNil) r = .ok (.val (.node .lst true ((srt ks).map .int))) r1 := by
  rw [q_B, q_cons, h]
  show (match opd r1 x with | some (.node (.dK ks) _ _) => (match keysI ks with | some ns => EO.ok (.val (.node .lst true ((srt ns).map .int))) r1 | none => .bad) | _ => .bad) = _
  rw [ho]
  show (match keysI (kI ks) with | some ns => EO.ok (.val (.node .lst true ((srt ns).map .int))) r1 | none => .bad) = _
  rw [keysI_map]
/-- d[k] op= v of whole numbers -/
theorem daug_ok {g : G2} {fk fb : Ev} {r r1 r2 r3 : Rho} {i : Nat} {ks : List Int} {f : Int → D} {x : Int} {y y2 : R} {z : D} (h2 : r[i]? = some (some (dD ks f))) (h3 : fk r = .ok y r1) (h5 : opd r1 y = some (.int x)) (h6 : r1[i]? = some (some (dD ks f))) (hk : x ∈ ks) (ha : atom (f x) = true)
    (h7 : fb r1 = .ok y2 r2) (h8 : g (.val (f x)) y2 r2 = .ok (.val z) r3) (h9 : r3[i]? = some (some (dD ks f))) (hz : atom z = true) (hn : ks.Nodup) (hl : ks.length < 16777216) :
    cDAug i g fk fb r = .nx (r3.set i (some (dD ks (upF f x z)))) := by
  obtain ⟨j, e, e2⟩ := dix_in hk
  unfold cDAug
  rw [if_pos (isDk_dD h2), h3]
  show (match (opd r1 y).bind keyD, r1[i]? with
    | some k, some (some (.node (.dK ks) _ xs)) => (match dix ks k with
      | some j => (match xs[j]? with
        | some d => if atom d = true then (fb r1).st fun y2 r2 => (g (.val d) y2 r2).st (daugK i j ks) else .bad
        | none => .bad)
      | none => .bad)
    | _, _ => SO.bad) = _
  rw [h5, h6]
  show (match dix (kI ks) (Sum.inl x) with
      | some j => (match (ks.map f)[j]? with
        | some d => if atom d = true then (fb r1).st fun y2 r2 => (g (.val d) y2 r2).st (daugK i j (kI ks)) else .bad
        | none => .bad)
      | none => SO.bad) = _
  rw [e]
  simp only [List.getElem?_map, e2, Option.map_some]
  rw [if_pos ha, h7]
  show (g (.val (f x)) y2 r2).st (daugK i j (kI ks)) = _
  rw [h8]
  show daugK i j (kI ks) (.val z) r3 = _
  unfold daugK
  rw [h9]
  show (if atom z = true ∧ kI ks = kI ks ∧ okD (kI ks) then SO.nx (r3.set i (some (.node (.dK (kI ks)) true ((ks.map f).set j z)))) else .bad) = _
  rw [if_pos ⟨hz, rfl, kI_ok hn hl⟩, set_upF hn e2]
  rfl
/-! ### comprehensions, step by step -/
theorem lcL_step {t : Tg} {fe : Ev} {vs : List Nat} {d e : D} {ds acc : List D} {r r1 r3 : Rho} (h1 : tgt t d r = some r1) (h3 : cSet fe r1 = .ok (.val e) r3) (h4 : acc.length < 16777216) :
    lcL t none fe vs (d :: ds) acc r = lcL t none fe vs ds (acc ++ [e]) (wipeR r3 vs) := by
  conv => lhs; unfold lcL
  rw [h1]
  show (match cSet fe r1 with
        | .ok (.val e) r3 => if acc.length < 16777216 then lcL t none fe vs ds (acc ++ [e]) (wipeR r3 vs) else .bad
        | _ => LO.bad) = _
  rw [h3]
  exact if_pos h4
theorem lcL_all {α : Type} {t : Tg} {fe : Ev} {vs : List Nat} (st : α → Rho) (P : α → List D → Prop) : ∀ (ds : List D) (a : α) (acc : List D), acc.length + ds.length < 16777216 → P a acc →
    (∀ a acc d, d ∈ ds → P a acc → ∃ r1 r3 e a', tgt t d (st a) = some r1 ∧ cSet fe r1 = .ok (.val e) r3 ∧ wipeR r3 vs = st a' ∧ P a' (acc ++ [e])) →
    ∃ a' acc', lcL t none fe vs ds acc (st a) = .ok acc' (st a') ∧ P a' acc' ∧ acc'.length = acc.length + ds.length
  | [], a, acc, _, p, _ => ⟨a, acc, rfl, p, rfl⟩
  | d :: ds, a, acc, hl, p, h => by
    obtain ⟨r1, r3, e, a1, h1, h3, h4, p1⟩ := h a acc d List.mem_cons_self p
    rw [List.length_cons] at hl
    obtain ⟨a2, acc2, e2, p2, l2⟩ := lcL_all st P ds a1 (acc ++ [e]) (by rw [List.length_append, List.length_singleton]; omega) p1 fun a acc d hd => h a acc d (List.mem_cons_of_mem _ hd)
    refine ⟨a2, acc2, ?_, p2, by rw [l2, List.length_append, List.length_singleton, List.length_cons]; omega⟩
    rw [lcL_step h1 h3 (by omega), h4, e2]
end VL

namespace VL
open PySem PySem.Spec PyProof.Rows L2
/-! ### x[k][j] op= c, j and c written numbers -/
section
variable {X : Cx} {G : GX} {C : Fc} {W : WX} {ow ow' : Ow} {r : Rho} {T T1 T2 : List (D × V)} {s : L2.St} {H H' : Hp} {fa fb fc fk : Ev} {fs : Av}
def rGetL : V → V → Hp → VK → Prop := fun x y H Q => ∃ p xs i v, x = .ref p ∧ y = .int i ∧ H p = some (.lst xs) ∧ atI xs i = some v ∧ Q v H
theorem get_list : PGet X rGetL := by
  intro pins s σ H x y v u Q I rx ry h
  obtain ⟨p, xs, i, z, rfl, rfl, hq, he, q⟩ := h
  cases rx
  obtain ⟨t, rfl⟩ := ry
  obtain ⟨its, r, pl, hz⟩ := I.list (SqL.of hq)
  obtain ⟨j, h1, h2, h3, h4, h5⟩ := atI_get he
  obtain ⟨w, ew, rw'⟩ := r.get h2
  have hl := r.length
  have hn := line63
  have fin : EP X pins σ Q w s := ⟨z, H, I, rw', q⟩
  by_cases h0 : 0 ≤ i
  · have hj : i.toNat = j := by
      rw [seqIndex_of h0 h5] at h1
      exact Option.some.inj h1
    exact wpAny_getItem_list pl.isList h0 (by omega) (by rw [hj]; simpa using ew) fin
  · have hj : (i + (its.toArray.size : Int)).toNat = j := by
      rw [seqIndex_neg (by omega) h4] at h1
      rw [List.size_toArray, ← hl]
      exact Option.some.inj h1
    exact wpAny_getItem_list_neg pl.isList (by omega) (by rw [List.size_toArray] <;> omega) (by omega) (by rw [hj]; simpa using ew) fin
def augPK (i : Nat) (jj c : Int) (f : Int → Int → Int) (y : R) (r1 : Rho) : SO := match spot r1 i y with
  | some (k, o, ds, m, .node .lst true acc) => if acc.all scal = true then (match ixN acc.length jj with
    | some j => (match acc[j]? with
      | some (.int n) => .nx (r1.set i (some (.node k o (ds.set m (.node .lst true (acc.set j (.int (f n c))))))))
      | _ => .bad)
    | none => .bad) else .bad
  | _ => .bad
def cAugIxP (i : Nat) (fk : Ev) (jj c : Int) (f : Int → Int → Int) : Sv := fun r => if isSeq r i = true then (fk r).st (augPK i jj c f) else .bad
theorem vs_augIxP {i : Nat} {x : Str} {ek : Expr} {jj c : Int} {f : Int → Int → Int} {op : Operator} {n1 n2 : Nat} {p ps p1 p2 tpos pos : Pos} (hN : X.N[i]? = some x) (hv : Vis X.env.scope x) (hd : (x == ("__debug__" : Str)) = false) (hcd : (x == ("__classdict__" : Str)) = false) (hk : VE X G C W ek fk) (hs1 : PlainIx ek) (ho : PIp X op (ipI f))
    (ha : ∀ ov iv new, augStore (.Constant (.int jj) n1 p1) ov iv new = (do holding [new, ov, iv] (setItem ov iv new); release [new, ov, iv] []; pure .next) := by intros; rfl) :
    VS X G C W (.AugAssign (.Subscript (.Subscript (.Name x p) ek ps) (.Constant (.int jj) n1 p1) tpos) op (.Constant (.int c) n2 p2) pos) (cAugIxP i fk jj c f) := by
  refine PS.imp (ps_augS (pe_ix ix_seq (pe_var hN hv hd hcd) hk hs1) pe_int get_list pe_int ho set_list ha) fun D s H h => ?_
  obtain ⟨r, T, S, g⟩ := h
  have g : GoesS G C W T D (cAugIxP i fk jj c f r) := g
  unfold cAugIxP at g
  split at g
  · rename_i hi
    obtain ⟨k0, o0, ds0, hr, _⟩ := isSeq_at hi
    obtain ⟨ow0, S0⟩ := S
    obtain ⟨w0, v1, a0, vs0, ev, v2, v3, v4⟩ := S0.sl i _ hr
    subst ev
    refine ⟨_, v1, ?_⟩
    refine oneS (fa := fk) ⟨ow0, S0⟩ g fun y u r2 H2 P2 g1 => ?_
    unfold augPK at g1
    cases es : spot r2 i y with
    | none => simp only [es] at g1; exact g1.elim
    | some z =>
      obtain ⟨k, o, ds, m, dp⟩ := z
      obtain ⟨kk, a, vs, w, ow2, eu, w1, hA, hat, hvm, S2, _⟩ := spot_go P2 es
      obtain ⟨_, _, _, hkq, _, hdm⟩ := spot_of es
      rw [v1] at w1
      cases w1
      subst eu
      refine seqK_ix hkq hA hat ?_
      simp only [es] at g1
      split at g1
      · rename_i k' o' ds' m' acc ee
        cases ee
        split at g1
        · rename_i hall
          split at g1
          · rename_i j hjx
            split at g1
            · rename_i n hacc
              obtain ⟨b, ws, eb, hB, oB, rB⟩ := StW.last S2
              subst eb
              have hB : H2 b = some (.lst ws) := hB
              have oB : ow2 b = some ⟨.tm T.length, []⟩ := by simpa [OwnAt] using oB
              have hkr : k ≠ .rd := by rcases seqK_of hkq with e | e <;> (rw [e]; exact fun z => nomatch z)
              obtain ⟨wn, en, rn⟩ := rB.get j _ hacc
              have rn : wn = .int n := rn
              subst rn
              have hlen := rB.length
              have hat2 : atI ws jj = some (.int n) := by
                unfold atI
                rw [← hlen, hjx]
                exact en
              refine ⟨b, ws, jj, .int n, rfl, rfl, hB, hat2, n, c, rfl, rfl, ?_⟩
              obtain ⟨ws2, h1', h2', S6⟩ := S2.setT (j := j) hall (d := .int (f n c)) (v := .int (f n c)) rfl (l0 := ⟨.fo, []⟩) (H0 := H2) (ow0 := ow2) rfl
              have ew : ws2 = ws := by rw [hB] at h1'; injection h1' with h; injection h with h; exact h.symm
              subst ew
              have hil : i < r2.length := by
                have := S2.len
                have h2 := (List.getElem?_eq_some_iff.mp v1).1
                simp at this; omega
              have q2 : (r2.set i (some (.node k o (ds.set m .any))))[i]? = some (some (.node k o (ds.set m .any))) := List.getElem?_set_self hil
              have hne : a0 ≠ b := fun z => by
                subst z
                obtain ⟨_, y1, a7, _, e7, _, o7, _⟩ := S2.sl i _ q2
                rw [v1] at y1
                cases y1
                cases e7
                have o7 := o7.cases.resolve_left hkr
                rw [oB] at o7
                cases o <;> cases o7
              have hA6 : Holds G (upd H2 b (.lst (ws2.set j (.int (f n c))))) a0 k vs := hA.keep fun o z => by rw [upd_ne hne]; exact z
              have S7 := S6.giveBack q2 v1 hkr hA6 hvm (fun us h => seqK_one hkq h hA6)
              rw [List.set_set, List.set_set] at S7
              exact ⟨b, ws2, jj, j, rfl, rfl, hB, by rw [← hlen]; exact hjx, g1 _ _ ⟨_, S7⟩⟩
            · exact g1.elim
          · exact g1.elim
        · exact g1.elim
      · exact g1.elim
  · exact g.elim
end
theorem augIxP_ok {fk : Ev} {i m j : Nat} {kk jj c n : Int} {f : Int → Int → Int} {k : Kd} {o : Bool} {r r2 : Rho} {ds acc : List D} (hi : isSeq r i = true) (hk : fk r = .ok (.val (.int kk)) r2) (h2 : r2[i]? = some (some (.node k o ds))) (hs : seqK k = true) (hm : ixN ds.length kk = some m) (hd : ds[m]? = some (.node .lst true acc))
    (hall : acc.all scal = true) (hx : ixN acc.length jj = some j) (hj : acc[j]? = some (.int n)) : cAugIxP i fk jj c f r = .nx (r2.set i (some (.node k o (ds.set m (.node .lst true (acc.set j (.int (f n c)))))))) := by
  have sp : spot r2 i (.val (.int kk)) = some (k, o, ds, m, .node .lst true acc) := by
    unfold spot
    simp only [h2, hs, hm, hd, if_true]
  unfold cAugIxP
  rw [if_pos hi, hk]
  show augPK i jj c f (.val (.int kk)) r2 = _
  unfold augPK
  rw [sp]
  show (if acc.all scal = true then (match ixN acc.length jj with
    | some j => (match acc[j]? with
      | some (.int n) => SO.nx (r2.set i (some (.node k o (ds.set m (.node .lst true (acc.set j (.int (f n c))))))))
      | _ => .bad)
    | none => .bad) else .bad) = _
  rw [if_pos hall, hx]
  show (match acc[j]? with
      | some (.int n) => SO.nx (r2.set i (some (.node k o (ds.set m (.node .lst true (acc.set j (.int (f n c))))))))
      | _ => .bad) = _
  rw [hj]
end VL

namespace VL
open PySem PySem.Spec PyProof.Rows L2
/-! ### sorted of lists of whole numbers -/
theorem first_lex : ∀ (ns ms : List Int) (i : Nat) (e r : Nat → Bool), (∀ j, e (i + j) = decide (ns.getD j 0 = ms.getD j 0) ∧ r (i + j) = decide (ns.getD j 0 < ms.getD j 0)) → PySem.SeqAt.firstLt e r (decide (ns.length < ms.length)) (List.range' i (min ns.length ms.length)) = HT.lexLt ns ms
  | [], [], i, e, r, _ => rfl
  | [], m :: ms, i, e, r, _ => by
    rw [HT.lexLt_nil_cons, show min ([] : List Int).length (m :: ms).length = 0 by simp]
    show decide (([] : List Int).length < (m :: ms).length) = true
    simp
  | n :: ns, [], i, e, r, _ => by
    rw [HT.lexLt_cons_nil, show min (n :: ns).length ([] : List Int).length = 0 by simp]
    show decide ((n :: ns).length < ([] : List Int).length) = false
    simp
  | n :: ns, m :: ms, i, e, r, h => by
    have e0 := h 0
    rw [Nat.add_zero] at e0
    have e1 : e i = decide (n = m) := e0.1
    have r1 : r i = decide (n < m) := e0.2
    have ih := first_lex ns ms (i + 1) e r fun j => by
      have := h (j + 1)
      rw [show i + 1 + j = i + (j + 1) by omega]
      exact this
    rw [show min (n :: ns).length (m :: ms).length = min ns.length ms.length + 1 by simp [Nat.succ_min_succ], List.range'_succ, HT.lexLt_cons]
    rw [show decide ((n :: ns).length < (m :: ms).length) = decide (ns.length < ms.length) from decide_eq_decide.mpr (by simp)]
    by_cases hm : n = m
    · rw [if_pos hm, PySem.SeqAt.firstLt_yes (by rw [e1, decide_eq_true hm])]
      exact ih
    · rw [if_neg hm, PySem.SeqAt.firstLt_no (by rw [e1, decide_eq_false hm]), r1]
theorem ints_get : ∀ {vs : List Value} {ns : List Int}, IntsAre vs ns → ∀ {j : Nat} {v : Value}, vs[j]? = some v → ∃ t, v = .int (ns.getD j 0) t
  | _, _, .nil, j, v, h => by simp at h
  | _, _, .cons n t r, 0, v, h => by
    simp at h
    exact ⟨t, h.symm⟩
  | _, _, .cons n t r, j + 1, v, h => by
    obtain ⟨u, e⟩ := ints_get r (j := j) (v := v) (by simpa using h)
    exact ⟨u, e⟩
/-- v is a list of these numbers -/
def IsIl (h : Heap) (v : Value) (ns : List Int) : Prop := ∃ (a : Addr) (items : List Value) (n : Nat), v = .ref a ∧ h.get? a = some (seqObj "list" items.toArray n) ∧ IntsAre items ns
theorem IsIl.keeps {h h' : Heap} {v : Value} {ns : List Int} (x : IsIl h v ns) (k : ∀ b o, v = .ref b → h.get? b = some o → h'.get? b = some o) : IsIl h' v ns := by
  obtain ⟨a, items, n, e, g, i⟩ := x
  exact ⟨a, items, n, e, k _ _ e g, i⟩
theorem IsIl.type {M : Model} {h : Heap} {v : Value} {ns : List Int} (x : IsIl h v ns) : PySem.W.Looks M h (typeOf v) (.type "list") := by
  obtain ⟨a, items, n, rfl, g, i⟩ := x
  exact (PySem.W.Looks.ld g).andThen .now
section
variable {prog : Program} {w : World} {A : Around} {E : Value → Shared → Prop} {s : Shared}
theorem lt_il {v u : Value} {ns ms : List Int} {Q : Bool → Shared → Prop} (hu : A.units < cLine) (hv : IsIl s.heap v ns) (hw : IsIl s.heap u ms) (h : Q (HT.lexLt ns ms) s) : wpAny (model prog w) A (keyLt' oneType' v u) Q E s := by
  have tv : PySem.W.Looks (model prog w) s.heap (typeOf v) (.type "list") := hv.type
  have sp : PySem.W.Looks (model prog w) s.heap (specialOf v "__lt__") (some (.builtin "list.__lt__")) := tv.andThen (by
    have e : typeLookup (.type "list") "__lt__" = pure (some (.builtin "list.__lt__")) := PySem.F.slot_list_lt.lookup
    rw [e]
    exact .now)
  obtain ⟨a, items, n, rfl, ga, ia⟩ := hv
  obtain ⟨b, items2, n2, rfl, gb, ib⟩ := hw
  rw [keyLt'_oneType, oneLt'_eq]
  simp only [if_true]
  refine wpAny_bind (wpAny_cRoomFor hu ?_)
  have la : s.heap.IsList a items.toArray := ⟨_, ga, rfl, n, rfl⟩
  have lb : s.heap.IsList b items2.toArray := ⟨_, gb, rfl, n2, rfl⟩
  refine wpAny_bind (NtL.csib (E := E) sp (PySem.F.slot_list_lt.bind _) ?_)
  refine PySem.SeqAt.call_list_lt (e := fun j => decide (ns.getD j 0 = ms.getD j 0)) (r := fun j => decide (ns.getD j 0 < ms.getD j 0)) la lb (fun j h1 h2 => ?_) (fun j h1 h2 _ => ?_) ?_
  · obtain ⟨t, e1⟩ := ints_get ia (j := j) (v := items.toArray[j]) (by rw [List.getElem_toArray]; exact List.getElem?_eq_getElem _)
    obtain ⟨t2, e2⟩ := ints_get ib (j := j) (v := items2.toArray[j]) (by rw [List.getElem_toArray]; exact List.getElem?_eq_getElem _)
    rw [e1, e2]
    exact PySem.SeqAt.EqAt.int_int _ t _ t2
  · obtain ⟨t, e1⟩ := ints_get ia (j := j) (v := items.toArray[j]) (by rw [List.getElem_toArray]; exact List.getElem?_eq_getElem _)
    obtain ⟨t2, e2⟩ := ints_get ib (j := j) (v := items2.toArray[j]) (by rw [List.getElem_toArray]; exact List.getElem?_eq_getElem _)
    rw [e1, e2]
    exact fun prog w E Q h => HT.rcLt_int _ _ _ t _ t2 prog w E Q h
  · have el := first_lex ns ms 0 (fun j => decide (ns.getD j 0 = ms.getD j 0)) (fun j => decide (ns.getD j 0 < ms.getD j 0)) (fun j => by rw [Nat.zero_add]; exact ⟨rfl, rfl⟩)
    have l1 := ia.length
    have l2 := ib.length
    rw [List.size_toArray, List.size_toArray, l1, l2, List.range_eq_range', el]
    exact wpAny_truthy_bool h
end
section
variable {prog : Program} {w : World} {A : Around} {s : Shared}
theorem il_cmp {vs : List Value} {k : Value → List Int} (hu : A.units < cLine) (hv : ∀ v ∈ vs, IsIl s.heap v (k v)) : SrtO.Cmp prog w A s oneType' (fun p => p.1 ∈ vs) (SrtO.lt2 fun v u => HT.lexLt (k v) (k u)) := by
  intro p q hp hq
  exact lt_il (Q := fun r s' => s' = s ∧ r = HT.lexLt (k p.1) (k q.1)) (E := fun _ _ => False) hu (hv p.1 hp) (hv q.1 hq) ⟨rfl, rfl⟩
theorem il_sortable {a : Addr} {vs : List Value} {k : Value → List Int} (h2 : 2 ≤ vs.length) (hu : A.units < cLine) (hv : ∀ v ∈ vs, IsIl s.heap v (k v)) (ha : ∀ v ∈ vs, v ≠ .ref a) :
    SrtO.SortableO prog w A s a vs fun v u => HT.lexLt (k v) (k u) := by
  intro h' keep
  have hv' : ∀ v ∈ vs, IsIl h' v (k v) := fun v hm => (hv v hm).keeps fun b o e g => keep b o (fun z => ha v hm (by rw [e, z])) g
  refine ⟨oneType', fun Q E hq => ?_, il_cmp (s := { s with heap := h' }) hu hv'⟩
  exact PySem.W.kas_kind (s := { s with heap := h' }) (T := .type "list") h2 (fun v hm => (hv' v hm).type) (by first | rfl | decide +kernel) (by simp) hq
end
def rSortedLL (K : PySem.W.Frag) : List V → Hp → VK → Prop := fun vs H Q => ∃ (a : Addr) (ts : List Addr) (k : Addr → List Int), vs = [.ref a] ∧ SqL K H a (ts.map V.ref) ∧ (∀ t ∈ ts, H t = some (.lst ((k t).map V.int))) ∧
  ∀ (ts' : List Addr) (p : Addr), ts'.Perm ts → ts'.Pairwise (fun p q => HT.lexLt (k q) (k p) = false) → H p = none → Q (.ref p) (upd H p (.lst (ts'.map V.ref)))
theorem cr_sortedLL {X : Cx} (hu : X.A.units + 64 < cLine) : CallR X (.builtin "sorted") (rSortedLL X.K) := by
  intro pins s σ H vs us Q I r h
  obtain ⟨a, ts, k, rfl, hs, hN, q⟩ := h
  obtain ⟨its, rv, hl, hz⟩ := I.list hs
  rw [Vals.ref1 r]
  have ei := nts_of rv
  have hv : ∀ u ∈ its, IsIl s.heap u (k (adO u)) := fun u hm => by
    rw [ei] at hm
    obtain ⟨t, ht, rfl⟩ := List.mem_map.mp hm
    obtain ⟨_, its2, n2, rv2, hob2⟩ := I.hok t _ (hN t ht)
    exact ⟨t, its2, n2, rfl, hob2, rv2.ints⟩
  have hlt : ∀ u ∈ its, ∃ t o, u = .ref t ∧ s.heap.get? t = some o := fun u hm => by
    obtain ⟨t, i2, n2, e, g, _⟩ := hv u hm
    exact ⟨t, _, e, g⟩
  refine SrtO.sorted_ord (NtL.swo_lexL fun u => k (adO u)) hl.isList (by rw [← rv.length]; exact hz) (fun h2 h₁ a' ha' kk => ?_) fun out h1 h2 => ?_
  · refine il_sortable (s := { s with heap := h₁ }) h2 (by simp only [Around.in1_units]; omega) (fun u hm => (hv u hm).keeps fun b o e g => (kk b o g).2) fun u hm z => ?_
    obtain ⟨t, o, e, g⟩ := hlt u hm
    rw [e] at z
    exact (kk t o g).1 (Value.ref.inj z)
  · obtain ⟨ep, he'⟩ := sortedAll_at s.heap its out.toArray
    have eo : out = (out.map adO).map Value.ref := ref_map fun u hm => by
      have hm' : u ∈ its := h2.perm.mem_iff.mp hm
      rw [ei] at hm'
      obtain ⟨t, _, e⟩ := List.mem_map.mp hm'
      exact ⟨t, e.symm⟩
    have hp : (out.map adO).Perm ts := by
      have p1 := h2.perm.map adO
      rw [ei, ad_map] at p1
      exact p1
    have hs' : (out.map adO).Pairwise (fun p q => HT.lexLt (k q) (k p) = false) := List.pairwise_map.mpr (h1.imp fun {x y} z => z)
    have hlen : ((out.map adO).map V.ref).length ≤ sizeLine := by
      rw [List.length_map, hp.length_eq]
      rw [List.length_map] at hz
      exact hz
    have rvo : Vals ((out.map adO).map V.ref) out := by
      have z := of_nts (out.map adO)
      rw [← eo] at z
      exact z
    refine ⟨.ref _, _, I.laid (o := .lst ((out.map adO).map V.ref)) (t' := s.toks) (fun b u e => sortedAll_old e) (Nat.le_succ _) ⟨hlen, out, ep, rvo, he'⟩, rfl, q _ _ hp hs' (I.hok.fresh (Nat.le_succ _))⟩
/-! ### the lists in order -/
def insL (x : List Int) : List (List Int) → List (List Int)
  | [] => [x]
  | y :: ys => if HT.lexLt y x = false then x :: y :: ys else y :: insL x ys
def srtL : List (List Int) → List (List Int)
  | [] => []
  | x :: xs => insL x (srtL xs)
abbrev UpL (xs : List (List Int)) : Prop := xs.Pairwise fun p q => HT.lexLt q p = false
theorem insL_perm (x : List Int) : ∀ ys : List (List Int), (insL x ys).Perm (x :: ys)
  | [] => List.Perm.refl _
  | y :: ys => by
    unfold insL
    split
    · exact List.Perm.refl _
    · exact ((insL_perm x ys).cons y).trans (List.Perm.swap x y ys)
theorem srtL_perm : ∀ xs : List (List Int), (srtL xs).Perm xs
  | [] => List.Perm.refl _
  | x :: xs => (insL_perm x (srtL xs)).trans ((srtL_perm xs).cons x)
theorem insL_up (x : List Int) : ∀ ys : List (List Int), UpL ys → UpL (insL x ys)
  | [], _ => by simp [insL, UpL]
  | y :: ys, h => by
    unfold insL
    have h1 := List.pairwise_cons.mp h
    split
    · rename_i hx
      refine List.pairwise_cons.mpr ⟨fun z hz => ?_, h⟩
      rcases List.mem_cons.mp hz with e | e
      · rw [e]; exact hx
      · exact NtL.lex_tr _ _ _ hx (h1.1 z e)
    · rename_i hx
      rw [Bool.not_eq_false] at hx
      refine List.pairwise_cons.mpr ⟨fun z hz => ?_, insL_up x ys h1.2⟩
      rcases List.mem_cons.mp ((insL_perm x ys).mem_iff.mp hz) with e | e
      · rw [e]; exact NtL.lex_asym _ _ hx
      · exact h1.1 z e
theorem srtL_up : ∀ xs : List (List Int), UpL (srtL xs)
  | [] => List.Pairwise.nil
  | x :: xs => insL_up x _ (srtL_up xs)
theorem lex_eq : ∀ {xs ys : List Int}, HT.lexLt xs ys = false → HT.lexLt ys xs = false → xs = ys
  | [], [], _, _ => rfl
  | [], y :: ys, h, _ => by rw [HT.lexLt_nil_cons] at h; cases h
  | x :: xs, [], _, h => by rw [HT.lexLt_nil_cons] at h; cases h
  | x :: xs, y :: ys, h1, h2 => by
    rw [HT.lexLt_cons] at h1 h2
    by_cases e : x = y
    · rw [if_pos e] at h1
      rw [if_pos e.symm] at h2
      rw [e, lex_eq h1 h2]
    · rw [if_neg e] at h1
      rw [if_neg (Ne.symm e)] at h2
      have a := of_decide_eq_false h1
      have b := of_decide_eq_false h2
      omega
theorem upL_unique : ∀ {xs ys : List (List Int)}, xs.Perm ys → UpL xs → UpL ys → xs = ys
  | [], ys, p, _, _ => by rw [List.nil_perm.mp p]
  | x :: xs, [], p, _, _ => by have := p.length_eq; simp at this
  | x :: xs, y :: ys, p, h1, h2 => by
    have h1' := List.pairwise_cons.mp h1
    have h2' := List.pairwise_cons.mp h2
    have e1 : x = y ∨ HT.lexLt y x = false := by
      rcases List.mem_cons.mp (p.mem_iff.mpr (List.mem_cons_self : y ∈ y :: ys)) with e | e
      · exact .inl e.symm
      · exact .inr (h1'.1 y e)
    have e2 : x = y ∨ HT.lexLt x y = false := by
      rcases List.mem_cons.mp (p.mem_iff.mp (List.mem_cons_self : x ∈ x :: xs)) with e | e
      · exact .inl e
      · exact .inr (h2'.1 x e)
    have e : x = y := by
      rcases e1 with e | e1
      · exact e
      · rcases e2 with e | e2
        · exact e
        · exact lex_eq e2 e1
    subst e
    rw [upL_unique ((List.perm_cons x).mp p) h1'.2 h2'.2]
/-! ### its reading -/
abbrev il (o : Bool) (ns : List Int) : D := .node .lst o (ns.map .int)
def intssOf : List D → Option (List (List Int))
  | [] => some []
  | .node .lst _ xs :: ds => (match intsOf xs, intssOf ds with
    | some ns, some nss => some (ns :: nss)
    | _, _ => none)
  | _ => none
theorem intssOf_map (o : Bool) : ∀ nss : List (List Int), intssOf (nss.map (il o)) = some nss
  | [] => rfl
  | ns :: nss => by
    show (match intsOf (ns.map .int), intssOf (nss.map (il o)) with | some ns, some nss => some (ns :: nss) | _, _ => none) = _
    rw [intsOf_map, intssOf_map o nss]
def gSortedL : List R → Rho → EO := fun xs r => match xs with
  | [x] => (match opd r x with
    | some (.node .lst _ ds) => (match intssOf ds with
      | some nss => .ok (.val (.node .lst true ((srtL nss).map (il false)))) (touch r x)
      | none => .bad)
    | _ => .bad)
  | _ => .bad
def vI : V → Int
  | .int i => i
  | _ => 0
def kAt (H : Hp) (t : Addr) : List Int := match H t with
  | some (.lst vs) => vs.map vI
  | _ => []
theorem kAt_of {H : Hp} {t : Addr} {ns : List Int} (h : H t = some (.lst (ns.map V.int))) : kAt H t = ns := by
  unfold kAt
  rw [h]
  show (ns.map V.int).map vI = ns
  rw [List.map_map]
  exact (List.map_congr_left fun _ _ => rfl).trans (List.map_id ns)
theorem frzs_il (nss : List (List Int)) : frzs (nss.map (il false)) = nss.map (il false) := by
  rw [frzs_map, List.map_map]
  refine List.map_congr_left fun ns _ => ?_
  show D.node .lst false (frzs (ns.map D.int)) = _
  rw [frzs_ints]
theorem intsOf_frzs : ∀ {ds : List D} {ns : List Int}, intsOf ds = some ns → frzs ds = ns.map D.int
  | [], ns, e => by cases e; rfl
  | d :: ds, ns, e => by
    cases d with
    | int i =>
      unfold intsOf at e
      split at e
      · rename_i ms e2
        cases e
        show D.int i :: frzs ds = _
        rw [intsOf_frzs e2]; rfl
      · cases e
    | _ => cases e
section
variable {X : Cx} {G : GX} {C : Fc} {W : WX} {ow ow' : Ow} {r : Rho} {T T1 T2 : List (D × V)} {s : L2.St} {H H' : Hp}
theorem lists_rep : ∀ {ds : List D} {nss : List (List Int)} {l : VL.Loc} {i : Nat} {ws : List V}, intssOf ds = some nss → Reps G ow H (frzs ds) l i ws → ∃ zs : List (Addr × List Int), zs.map (·.2) = nss ∧ ws = zs.map (fun z => V.ref z.1) ∧ ∀ z ∈ zs, H z.1 = some (.lst (z.2.map V.int)) ∧ ow z.1 = none
  | [], nss, l, i, ws, e, h => by
    cases e
    exact ⟨[], rfl, h, fun z hz => by cases hz⟩
  | d :: ds, nss, l, i, ws, e, h => by
    cases d with
    | node k o xs =>
      cases k with
      | lst =>
        unfold intssOf at e
        split at e
        · rename_i ns nss' e1 e2
          cases e
          obtain ⟨v, ws', ev, h1, h2⟩ := h
          obtain ⟨zs, z1, z2, z3⟩ := lists_rep e2 h2
          obtain ⟨a, us, ea, hA, oA, rA⟩ := h1
          rw [intsOf_frzs e1] at rA
          have eu := ints_rep (intsOf_map ns) rA
          subst eu
          have oA : ow a = none := oA
          refine ⟨(a, ns) :: zs, by rw [List.map_cons, z1], by rw [ev, ea, z2]; rfl, fun z hz => ?_⟩
          rcases List.mem_cons.mp hz with e | e
          · rw [e]; exact ⟨hA, oA⟩
          · exact z3 z e
        · cases e
      | _ => cases e
    | _ => cases e
theorem reps_il : ∀ (ts : List Addr) (l : VL.Loc) (i : Nat), (∀ t ∈ ts, H t = some (.lst ((kAt H t).map V.int)) ∧ ow t = none) → Reps G ow H ((ts.map (kAt H)).map (il false)) l i (ts.map V.ref)
  | [], _, _, _ => rfl
  | t :: ts, l, i, h => ⟨_, _, rfl, ⟨t, _, rfl, (h t List.mem_cons_self).1, (h t List.mem_cons_self).2, reps_ints _ _ _⟩, reps_il ts l (i + 1) fun u hu => h u (List.mem_cons_of_mem _ hu)⟩
theorem cs_sortedL (hu : X.A.units + 65 < cLine) : CallS X (.builtin "sorted") gSortedL := by
  refine ⟨_, cr_sortedLL (by omega), fun G hG C W r T s H xs vs Q S l q => ?_⟩
  unfold gSortedL at q
  split at q
  · rename_i x
    obtain ⟨v, ev, lx, ep⟩ := one_arg l
    rw [ep] at S
    subst ev
    obtain ⟨ow, S⟩ := S
    split at q
    · rename_i o ds e1
      split at q
      · rename_i nss e2
        obtain ⟨ow', a, ws, S', ea, h1, rx, _⟩ := StW.parts S lx e1
        subst ea
        obtain ⟨zs, z1, z2, z3⟩ := lists_rep e2 (rx ⟨.fo, []⟩)
        have ek : ∀ z ∈ zs, kAt H z.1 = z.2 := fun z hz => kAt_of (z3 z hz).1
        have hN : ∀ t ∈ zs.map (·.1), H t = some (.lst ((kAt H t).map V.int)) ∧ ow' t = none := fun t ht => by
          obtain ⟨z, hz, rfl⟩ := List.mem_map.mp ht
          rw [ek z hz]
          exact z3 z hz
        have ew : ws = (zs.map (·.1)).map V.ref := by rw [z2, List.map_map]; rfl
        refine ⟨a, zs.map (·.1), kAt H, rfl, by rw [← ew]; exact SqL.of h1, fun t ht => (hN t ht).1, fun ts' p hp hs hn => ?_⟩
        have es : ts'.map (kAt H) = srtL nss := by
          refine upL_unique ((hp.map (kAt H)).trans ?_) (List.pairwise_map.mpr hs) (srtL_up nss)
          have e3 : (zs.map (·.1)).map (kAt H) = nss := by
            rw [List.map_map, ← z1]
            exact List.map_congr_left fun z hz => ek z hz
          rw [e3]
          exact (srtL_perm nss).symm
        rw [← es] at q
        exact S'.made (l := ⟨.fo, []⟩) (i := 0) (frzs_il _) (reps_il ts' _ _ fun t ht => hN t (hp.mem_iff.mp ht)) q p hn
      · exact q.elim
    · exact q.elim
  · exact q.elim
end
theorem sortedL_ok {fa : Ev} {r r1 : Rho} {o : Bool} {b : Bool} {nss : List (List Int)} (h : fa r = .ok (.val (.node .lst o (nss.map (il b)))) r1) : cB gSortedL (cCons fa cNil) r = .ok (.val (.node .lst true ((srtL nss).map (il false)))) r1 := by
  rw [q_B, q_cons, h]
  show (match intssOf (nss.map (il b)) with | some nss => EO.ok (.val (.node .lst true ((srtL nss).map (il false)))) r1 | none => .bad) = _
  rw [intssOf_map]
/-! ### x.index(y), of things with parts -/
def gIndexD : G2 := fun x y r => match opd r x, opd r y with
  | some (.node .lst o ds), some d => if (eqOk (.node .lst o ds) && eqOk d) = true then (match idxD ds d with
    | some j => .ok (.val (.int (j : Nat))) r
    | none => .bad) else .bad
  | _, _ => .bad
section
variable {X : Cx} {G : GX} {C : Fc} {W : WX} {ow ow' : Ow} {r : Rho} {T T1 T2 : List (D × V)} {s : L2.St} {H H' : Hp} {fa fb fc : Ev}
theorem ve_indexD {i : Nat} {x : Str} {e : Expr} {p apos cpos : Pos} (hu : X.A.units + 65 < cLine) (hN : X.N[i]? = some x) (hv : Vis X.env.scope x) (hd : (x == ("__debug__" : Str)) = false) (hcd : (x == ("__classdict__" : Str)) = false) (ha : VE X G C W e fa)
    (hbase : attributeBase (.Name x p) "index" X.env (eval (.Name x p) X.env) = eval (.Name x p) X.env := by rfl)
    (hfew : ((backTo cpos (starEach [e] X.env)).all (fun x => !x.1) && (backToKw cpos (keywordEach [] X.env)).all (fun x => x.1.isSome)
      && decide ([e].length + ([] : List Keyword).length + (if ([] : List Keyword).isEmpty then 0 else 1) < 30)) = true := by rfl)
    (hline : (apos.endLine == cpos.line) = true := by rfl) (hs : starEach [e] X.env = (false, eval e X.env) :: starEach [] X.env := by rfl) (hplain : (backTo cpos (starEach [] X.env)).any (·.1) = false := by rfl) :
    VE X G C W (.Call (.Attribute (.Name x p) "index" apos) [e] [] cpos) (fun r => if isLst r i = true then cBin gIndexD (cVar i) fa r else .bad) := by
  refine PE.imp (pe_bm PySem.F.plainAttrs_list PySem.F.slot_list_index PySem.F.type_list_index (mt_indexD hu) (ve_var (C := C) (W := W) (G := G) hN hv hd hcd) (pa_cons ha pa_nil hs) hbase hfew hline hs hplain) fun s H Q h => ?_
  obtain ⟨r, T, S, g⟩ := h
  have g : Goes G C W T s Q (if isLst r i = true then cBin gIndexD (cVar i) fa r else .bad) := g
  split at g
  · rename_i hi
    obtain ⟨o, ds, hr⟩ := isLst_at hi
    obtain ⟨ow, S0⟩ := S
    obtain ⟨v, v1, a, vs, ev, v2, v3, v4⟩ := S0.sl i _ hr
    have ec : cVar i r = .ok (.loc i) r := by unfold cVar; rw [hr]; rfl
    refine ⟨r, T, ⟨ow, S0⟩, ?_⟩
    rw [ec]
    intro v' H1 P
    have g : Goes G C W T s Q ((fa r).bd fun y r2 => gIndexD (.loc i) y r2) := by
      unfold cBin at g; rw [ec] at g; exact g
    have hv' : s[i]? = some (some v') := P.2
    have S1 : StOk G C r T s H1 := by simpa [pushR] using P.1
    obtain ⟨ow1, S1'⟩ := S1
    obtain ⟨w, w1, a', vs', ew, w2, w3, w4⟩ := S1'.sl i _ hr
    rw [hv'] at w1
    cases w1
    subst ew
    refine ⟨.inl ⟨rfl, vs', SqL.of w2⟩, ?_⟩
    refine one ⟨ow1, S1'⟩ g fun y u r2 H2 P2 g2 => ?_
    unfold gIndexD at g2
    split at g2
    · rename_i o' ds' d e1 e2
      split at g2
      · rename_i hf
        rw [Bool.and_eq_true] at hf
        split at g2
        · rename_i j ej
          obtain ⟨ow2, S2⟩ := P2.1
          have q := opd_loc e1
          obtain ⟨w', y1, rl⟩ := S2.sl i _ q
          rw [hv'] at y1
          cases y1
          have ru := opd_rep (T2 := []) (by rw [List.append_nil]; exact S2) P2.2 e2
          have dl : Dp X.K H2 (.ref a') (.list (toPys ds')) := dp_of (.node .lst o' ds') (SeqAt.canLay_of_shaped hf.1) rl
          have dy : Dp X.K H2 u (toPy d) := dp_of d (SeqAt.canLay_of_shaped hf.2) ru
          unfold idxD at ej
          rw [List.findIdx?_eq_some_iff_getElem] at ej
          obtain ⟨hj, z1, z2⟩ := ej
          refine ⟨a', u, toPy d, toPys ds', j, toPy ds'[j], rfl, rfl, dl, dy, hf.1, hf.2, by rw [toPys_map, List.getElem?_map, List.getElem?_eq_getElem hj]; rfl, z1, fun m z' hm hz' => ?_, g2 _ _ ⟨StOk.pushI (j : Nat) ⟨ow2, S2.drop⟩, trivial⟩⟩
          have hmd : m < ds'.length := by omega
          rw [toPys_map, List.getElem?_map, List.getElem?_eq_getElem hmd] at hz'
          have ez : toPy ds'[m] = z' := Option.some.inj hz'
          rw [← ez]
          have := z2 m hm
          simpa using this
        · exact g2.elim
      · exact g2.elim
    · exact g2.elim
  · exact g.elim
end
theorem idxD_il (o o' : Bool) (nss : List (List Int)) (ms : List Int) : idxD (nss.map (il o)) (il o' ms) = nss.findIdx? fun ns => decide (ns = ms) := by
  unfold idxD
  rw [List.findIdx?_map]
  congr 1
  funext ns
  exact eqv_ints ns ms
theorem fp_il (o : Bool) (ns : List Int) : FP 1 (il o ns) := fp_lst (k := 0) fun x hx => by
  obtain ⟨n, _, rfl⟩ := List.mem_map.mp hx
  exact ⟨rfl, Nat.zero_le _⟩
end VL

namespace RT
open PySem PySem.Spec PyProof.Rows L2
section
variable {prog : Program} {w : World} {A : Around} {E : Value → Shared → Prop} {s : Shared}
/-! ### list(reversed(list)) -/
theorem ext_rev {it l S : Addr} {items : Array Value} {R : Result → Shared → Prop} (hh : A.handled = none) (hit : s.heap.IsRevIter it l ((items.size : Int) - 1)) (hl : s.heap.IsList l items) (hne : l ≠ it) (hn : items.size ≤ sizeLine) (hSi : S ≠ it) (hSl : S ≠ l)
    (hS : s.heap.get? S = some { cls := .type "list", data := .seq #[] })
    (hR : ∀ (s' : Shared) (acc' : Array Value) (c' : Nat), Moved [S, it] (fun a b => b = a) s s' → s'.heap.get? S = some { cls := .type "list", dict := none, data := .seq acc' c', slots := #[] } → ItemsOf (fun i v => items[items.size - 1 - i]? = some v) acc' items.size → R (.ok (.ret .none)) s') :
    wpAny (model prog w) A.in1 (Builtin.List.listExtendWith (.ref S) (.ref it) .none)
      (fun fin s' => match fin with | .done f => R (.ok f) s' | .again c' => c'.quiet = true ∧ codeAny (model prog w) A c' R s') (fun e s' => R (.error e) s') s := by
  have W := (Walks.listRev (prog := prog) (w := w) (A := A.in1) hh it l hne items).toS
  have hSf : S ∉ [it, l] := by simp only [List.mem_cons, List.not_mem_nil, or_false, not_or]; exact ⟨hSi, hSl⟩
  have hT : s.TypeIs (.ref it) "list_reverseiterator" := hit.typeIs
  have h1 : Builtin.List.listSameRef (.ref S) (.ref it) = false := by simp [Builtin.List.listSameRef, hSi]
  unfold Builtin.List.listExtendWith
  refine wpAny_bind (wpAny_typeOf hT ?_)
  rw [if_neg (by rw [h1]; decide)]
  refine wpAny_bind (wpAny_pyIter_revIter hit ?_)
  refine wpAny_bind (wpAny_holding ?_)
  unfold Builtin.List.listLengthHint
  refine wpAny_bind (wpAny_specialOf hT nolen_lri ?_)
  show wpAny _ A.in1 (specialOf (Value.ref it) (Str.ofString "__length_hint__") >>= _) _ _ _
  refine wpAny_bind (wpAny_specialOf hT hint_lri ?_)
  generalize hid : ("list_reverseiterator.__length_hint__" : String) = id0
  wp_delta
  rw [show splitId id0 = some ("list_reverseiterator", "__length_hint__") from by subst hid; decide +kernel]
  subst hid
  refine wpAny_bind (wpAny_isInstance (b := true) hT (by rw [isSubtype_type]; kernel_rfl) ?_)
  refine wpAny_pure ?_
  rw [if_neg (by decide)]
  have e0 : ((items.size : Nat) : Int) - 1 - ((0 : Nat) : Int) = (items.size : Int) - 1 := by omega
  exact wpAny_pure ⟨plainId_quiet F.plain_extend_loop _, codeAny_extend_loopS W hn _ hSf _ items.size 0 _ _ _ rfl (Nat.zero_le _) ⟨Nat.zero_le _, by rw [e0]; exact hit, hl⟩ hS (ItemsOf.nil _) hR⟩
theorem list_init_rev {it l S : Addr} {items : Array Value} {R : Result → Shared → Prop} (hh : A.handled = none) (hit : s.heap.IsRevIter it l ((items.size : Int) - 1)) (hl : s.heap.IsList l items) (hne : l ≠ it) (hn : items.size ≤ sizeLine) (hSi : S ≠ it) (hSl : S ≠ l)
    (hS : s.heap.get? S = some { cls := .type "list", data := .seq #[] })
    (hR : ∀ (s' : Shared) (acc' : Array Value) (c' : Nat), Moved [S, it] (fun a b => b = a) s s' → s'.heap.get? S = some { cls := .type "list", dict := none, data := .seq acc' c', slots := #[] } → ItemsOf (fun i v => items[items.size - 1 - i]? = some v) acc' items.size → R (.ok (.ret .none)) s') :
    wpAny (model prog w) A.in1 (Builtin.«list.__init__» ⟨[.ref S, .ref it], []⟩)
      (fun fin s' => match fin with | .done f => R (.ok f) s' | .again c' => c'.quiet = true ∧ codeAny (model prog w) A c' R s') (fun e s' => R (.error e) s') s := by
  show wpAny _ A.in1 (do let old ← Builtin.List.listItems (.ref S); Builtin.List.listUpdate (.ref S) (fun _ => #[]); letGo old.toList.reverse; Builtin.List.listExtendWith (.ref S) (.ref it) .none) _ _ s
  refine wpAny_bind ?_
  unfold Builtin.List.listItems
  refine wpAny_bind (wpAny_seqItems hS rfl (wpAny_pure ?_))
  show wpAny _ A.in1 (updateSeq S (fun _ => #[]) >>= fun _ => letGo (#[] : Array Value).toList.reverse >>= fun _ => Builtin.List.listExtendWith (.ref S) (.ref it) .none) _ _ s
  refine wpAny_bind (wpAny_updateSeq hS rfl ?_)
  have hS₂ := Heap.get?_update_self (Obj.mapSeq (fun _ => (#[] : Array Value))) hS rfl
  have oth : ∀ b o, b ≠ S → s.heap.get? b = some o → (s.heap.update S (Obj.mapSeq (fun _ => (#[] : Array Value)))).get? b = some o :=
    fun b o hb e => (Heap.get?_update_other _ _ (Ne.symm hb)).trans e
  refine wpAny_bind (wpAny_letGo ?_)
  refine ext_rev (s := { s with heap := s.heap.update S (Obj.mapSeq (fun _ => (#[] : Array Value))) }) hh (hit.at fun o e => oth it o (Ne.symm hSi) e) (hl.at fun o e => oth l o (Ne.symm hSl) e) hne hn hSi hSl hS₂ fun s' acc' c' hm hS' hacc => ?_
  have m0 : Moved [S, it] (fun a b => b = a) s s := Moved.refl fun _ => rfl
  have m1 : Moved [S, it] (fun a b => b = a) s { s with heap := s.heap.update S (Obj.mapSeq (fun _ => (#[] : Array Value))) } := m0.then_heap (Nat.le_refl _) fun b o hb e => oth b o (fun h => hb (by rw [h]; exact List.mem_cons_self)) e
  exact hR s' acc' c' (Moved.trans (fun _ _ _ h1 h2 => h2.trans h1) m1 hm) hS' hacc
theorem call_list_rev {it l : Addr} {items : Array Value} {Q : Value → Shared → Prop} (hh : A.handled = none) (hit : s.heap.IsRevIter it l ((items.size : Int) - 1)) (hl : s.heap.IsList l items) (hne : l ≠ it) (hn : items.size ≤ sizeLine)
    (hQ : ∀ (h' : Heap) (tk : Nat) (acc : Array Value) (c : Nat), (∀ b o, b ≠ it → s.heap.get? b = some o → h'.get? b = some o) → h'.get? s.heap.objs.size = some { cls := .type "list", dict := none, data := .seq acc c, slots := #[] } → ItemsOf (fun i v => items[items.size - 1 - i]? = some v) acc items.size →
      Q (.ref s.heap.objs.size) { s with heap := h', toks := tk }) :
    wpAny (model prog w) A (call (.type "list") [.ref it]) Q E s := by
  obtain ⟨oi, hoi, _⟩ := id hit
  obtain ⟨ol, hol, _⟩ := id hl
  have hSi : s.heap.objs.size ≠ it := Nat.ne_of_gt (Heap.lt_size hoi)
  have hSl : s.heap.objs.size ≠ l := Nat.ne_of_gt (Heap.lt_size hol)
  refine callType_codes (Q₁ := fun obj s₁ => obj = .ref s.heap.objs.size ∧ s₁ = { s with heap := s.heap.push { cls := .type "list", data := .seq #[] } }) F.called_list (F.typeCall_list_1 _) F.entry_list_init
    (code_list_new _ ⟨rfl, rfl⟩) fun obj s₁ h₁ => ?_
  obtain ⟨rfl, rfl⟩ := h₁
  have hS : (s.heap.push { cls := .type "list", data := .seq #[] }).get? s.heap.objs.size = some { cls := .type "list", data := .seq #[] } := Heap.get?_push_size _ rfl
  refine ⟨⟨_, hS, rfl⟩, F.args_list_init_2 _ _, list_init_rev (s := { s with heap := s.heap.push { cls := .type "list", data := .seq #[] } }) (A := A.in1) hh (hit.at fun o e => Heap.get?_push_of_some _ e) (hl.push _) hne hn hSi hSl hS fun s' acc' c' hm hS' hacc => ?_⟩
  refine ⟨rfl, ?_⟩
  rw [Moved.eq_with hm]
  exact hQ s'.heap s'.toks acc' c' (fun b o hb e => hm.heap b o (fun hmem => by
    rcases List.mem_cons.mp hmem with e' | hmem
    · exact absurd (Heap.lt_size e) (by rw [e']; exact Nat.lt_irrefl _)
    · exact hb (List.mem_singleton.mp hmem)) (Heap.get?_push_of_some _ e)) hS' hacc
end
end RT
namespace RT
open PySem PySem.Spec PyProof.Rows L2
theorem nolen_rt : typeLookup (.type "reversed") "__len__" = pure none := by rw [typeLookup_type, builtinLookup_eq_fast]; kernel_rfl
theorem slot_rt_hint : Slot "reversed" "__length_hint__" "reversed.__length_hint__" :=
  .of (owner := "reversed") (n := "__length_hint__") (by rw [typeLookup_type, builtinLookup_eq_fast]; kernel_rfl) (by decide +kernel) (by decide +kernel) (by decide +kernel)
    (by first | exact .inl (by decide +kernel) | exact .inr (by decide +kernel)) (by rw [isSubtype_type]; kernel_rfl)
theorem entry_rt_hint : entryFor table "reversed.__length_hint__" = some Builtin.«reversed.__length_hint__» := entryFor_of_tree (by kernel_rfl)
theorem args_rt_hint (a : Value) : argsOk "reversed.__length_hint__" ⟨[a], []⟩ := by
  unfold argsOk; rw [signature?_of (id := "reversed.__length_hint__") (n := ['_', '_', 't', 'n', 'i', 'h', '_', 'h', 't', 'g', 'n', 'e', 'l', '_', '_']) (o := ['d', 'e', 's', 'r', 'e', 'v', 'e', 'r']) (by kernel_rfl) owner_rt]; kernel_rfl
section
variable {prog : Program} {w : World} {A : Around} {E : Value → Shared → Prop} {s : Shared}
theorem isTup_at {h h' : Heap} {a : Addr} {items : Array Value} (x : IsTup h a items) (e : ∀ o, h.get? a = some o → h'.get? a = some o) : IsTup h' a items := let ⟨o, ho, r⟩ := x; ⟨o, e _ ho, r⟩
theorem Walks.tupRev {A : Around} (hh : A.handled = none) (I t : Addr) (hne : t ≠ I) (items : Array Value) (hsz : items.size ≤ sizeLine) :
    Walks prog w A I [I, t] [I] items.size (fun i v => items[items.size - 1 - i]? = some v) (fun i h => i ≤ items.size ∧ IsRt h I t ((items.size : Int) - 1 - (i : Int)) ∧ IsTup h t items) where
  sub := fun b hb => by simp at hb; simp [hb]
  frame := fun _ _ _ x hk => ⟨x.1, x.2.1.at fun o e => hk I (by simp) o e, isTup_at x.2.2 fun o e => hk t (by simp) o e⟩
  item := fun i s Q E hi x hQ => by
    have e : (items.size : Int) - 1 - (i : Int) = ((items.size - 1 - i : Nat) : Int) := by omega
    have hit := x.2.1
    rw [e] at hit
    have hx : items[items.size - 1 - i]? = some (items[items.size - 1 - i]'(by omega)) := Array.getElem?_eq_getElem (by omega)
    refine next_rt_item hit x.2.2 hx hsz fun h' hit' hs' => ?_
    have e2 : ((items.size - 1 - i : Nat) : Int) - 1 = (items.size : Int) - 1 - ((i + 1 : Nat) : Int) := by omega
    rw [e2] at hit'
    exact hQ _ h' (s.toks + 1) hx ⟨hi, hit', isTup_at x.2.2 fun o eo => (hs'.2 t hne).trans eo⟩ fun b o hb eo => hs'.extBut b o (fun h => hb (by simp [h])) eo
  done := fun s Q E x hQ => by
    have e : (items.size : Int) - 1 - (items.size : Int) = -1 := by omega
    have hit := x.2.1
    rw [e] at hit
    exact next_rt_end hh hit fun h' he' => hQ h' s.toks fun b o hb eo => he' b o (fun h => hb (by simp [h])) eo
  self := fun _ _ _ _ x hQ => iter_rt x.2.1 hQ
theorem ext_rt {it t S : Addr} {items : Array Value} {R : Result → Shared → Prop} (hh : A.handled = none) (hit : IsRt s.heap it t ((items.size : Int) - 1)) (ht : IsTup s.heap t items) (hne : t ≠ it) (hn : items.size ≤ sizeLine) (h0 : 0 < items.size) (hSi : S ≠ it) (hSt : S ≠ t)
    (hS : s.heap.get? S = some { cls := .type "list", data := .seq #[] })
    (hR : ∀ (s' : Shared) (acc' : Array Value) (c' : Nat), Moved [S, it] (fun a b => b = a) s s' → s'.heap.get? S = some { cls := .type "list", dict := none, data := .seq acc' c', slots := #[] } → ItemsOf (fun i v => items[items.size - 1 - i]? = some v) acc' items.size → R (.ok (.ret .none)) s') :
    wpAny (model prog w) A.in1 (Builtin.List.listExtendWith (.ref S) (.ref it) .none)
      (fun fin s' => match fin with | .done f => R (.ok f) s' | .again c' => c'.quiet = true ∧ codeAny (model prog w) A c' R s') (fun e s' => R (.error e) s') s := by
  have W := (Walks.tupRev (prog := prog) (w := w) (A := A.in1) hh it t hne items hn).toS
  have hSf : S ∉ [it, t] := by simp only [List.mem_cons, List.not_mem_nil, or_false, not_or]; exact ⟨hSi, hSt⟩
  have hT : s.TypeIs (.ref it) "reversed" := hit.typeIs
  have h1 : Builtin.List.listSameRef (.ref S) (.ref it) = false := by simp [Builtin.List.listSameRef, hSi]
  have hfit : (items.size : Int) < 2 ^ 63 := by rw [sizeLine_eq] at hn; omega
  obtain ⟨o, ho, hc, hd⟩ := id hit
  unfold Builtin.List.listExtendWith
  refine wpAny_bind (wpAny_typeOf hT ?_)
  rw [if_neg (by rw [h1]; decide)]
  refine wpAny_bind (iter_rt hit ?_)
  refine wpAny_bind (wpAny_holding ?_)
  unfold Builtin.List.listLengthHint
  refine wpAny_bind (wpAny_specialOf hT nolen_rt ?_)
  show wpAny _ A.in1 (specialOf (Value.ref it) (Str.ofString "__length_hint__") >>= _) _ _ _
  refine wpAny_bind (wpAny_specialOf hT slot_rt_hint.lookup ?_)
  generalize hid : ("reversed.__length_hint__" : String) = id0
  wp_delta
  rw [show splitId id0 = some ("reversed", "__length_hint__") from by subst hid; decide +kernel]
  subst hid
  refine wpAny_bind (wpAny_isInstance (b := true) hT (by rw [isSubtype_type]; kernel_rfl) ?_)
  rw [if_neg (by decide)]
  try dsimp only
  rw [if_neg (by decide +kernel)]
  refine wpAny_bind (wpAny_rule ?_)
  refine wpAny_bind (wpAny_of_eq (slot_rt_hint.bind _) ?_)
  try dsimp only
  refine wpAny_bind (wpAny_attempt (wpAny_call_entry slot_rt_hint hT entry_rt_hint ?_ (args_rt_hint _)))
  unfold Builtin.«reversed.__length_hint__»
  refine wpAny_bind (wpAny_of_eq (a := Value.ref it) rfl ?_)
  try dsimp only
  refine wpAny_bind (wpAny_field ho hd (x := .ref t) rfl ?_)
  try dsimp only
  rw [if_neg (show ¬ ((Value.ref t == Value.none) = true) from Bool.false_ne_true)]
  try dsimp only
  refine wpAny_bind (len_tuple ht hfit ?_)
  refine wpAny_bind (wpAny_of_eq (a := some ((items.size : Nat) : Int)) rfl ?_)
  try dsimp only
  refine wpAny_bind (wpAny_field (s := { s with toks := s.toks + 1 + 1 }) ho hd (x := rawInt ((items.size : Int) - 1)) rfl ?_)
  show wpAny _ _ (if (items.size : Int) < ((items.size : Int) - 1) + 1 then _ else retInt (((items.size : Int) - 1) + 1)) _ _ _
  obtain ⟨nn, hnn⟩ : ∃ nn : Int, ((items.size : Int) - 1) + 1 = nn := ⟨_, rfl⟩
  rw [if_neg (by omega), hnn]
  show wpAny _ _ (mkInt nn >>= fun v => ret v) _ _ _
  refine wpAny_bind (wpAny_mkInt ?_)
  refine wpAny_pure ⟨_, rfl, ?_⟩
  show wpAny _ A.in1 (asInt? (Value.int nn (s.toks + 1 + 1)) >>= _) _ _ _
  have qa : asInt? (Value.int nn (s.toks + 1 + 1)) = pure (some nn) := rfl
  rw [qa]
  refine wpAny_bind (wpAny_pure ?_)
  try dsimp only
  have q1 : Builtin.List.listFitsIndex nn = true := by
    unfold Builtin.List.listFitsIndex
    rw [Bool.and_eq_true, decide_eq_true_eq, decide_eq_true_eq]
    omega
  have q2 : Builtin.List.listTooLong nn.toNat = false := by
    unfold Builtin.List.listTooLong
    exact decide_eq_false (by omega)
  rw [q1]
  rw [if_neg (show ¬ ((!true) = true) from Bool.false_ne_true)]
  rw [if_neg (show ¬ (nn < 0) by omega)]
  rw [q2]
  rw [if_neg Bool.false_ne_true]
  refine wpAny_pure ?_
  have q3 : (nn != 0) = true := by
    rw [bne_iff_ne]
    omega
  rw [q3]
  rw [Bool.true_or]
  rw [if_pos rfl]
  refine wpAny_bind (wpAny_rule ?_)
  refine wpAny_bind ?_
  show wpAny _ A.in1 (updateSeq S (·.push .none) >>= fun _ => updateSeq S (·.pop)) _ _ _
  refine wpAny_bind (wpAny_updateSeq (s := { s with toks := s.toks + 1 + 1 + 1 }) hS rfl ?_)
  have hS₂ := Heap.get?_update_self (Obj.mapSeq (·.push Value.none)) hS rfl
  refine wpAny_updateSeq (hz := by seq_fits) (s := { s with heap := s.heap.update S (Obj.mapSeq (·.push Value.none)), toks := s.toks + 1 + 1 + 1 }) hS₂ rfl ?_
  have hS₃ := Heap.get?_update_self (Obj.mapSeq (·.pop)) hS₂ rfl
  have oth : ∀ b o, b ≠ S → s.heap.get? b = some o → ((s.heap.update S (Obj.mapSeq (·.push Value.none))).update S (Obj.mapSeq (·.pop))).get? b = some o :=
    fun b o hb e => (Heap.get?_update_other _ _ (Ne.symm hb)).trans ((Heap.get?_update_other _ _ (Ne.symm hb)).trans e)
  have e0 : ((items.size : Nat) : Int) - 1 - ((0 : Nat) : Int) = (items.size : Int) - 1 := by omega
  have m0 : Moved [S, it] (fun a b => b = a) s s := Moved.refl fun _ => rfl
  have m1 : Moved [S, it] (fun a b => b = a) s { s with heap := (s.heap.update S (Obj.mapSeq (·.push Value.none))).update S (Obj.mapSeq (·.pop)), toks := s.toks + 1 + 1 + 1 } := m0.then_heap (by omega) fun b o hb e => oth b o (fun h => hb (by rw [h]; exact List.mem_cons_self)) e
  exact wpAny_pure ⟨plainId_quiet F.plain_extend_loop _, codeAny_extend_loopS W hn _ hSf _ items.size 0 _ _ _ rfl (Nat.zero_le _) ⟨Nat.zero_le _, by rw [e0]; exact hit.at fun o e => oth it o (Ne.symm hSi) e, isTup_at ht fun o e => oth t o (Ne.symm hSt) e⟩ hS₃ (ItemsOf.nil _) fun s' acc' c' hm hS' hacc => hR s' acc' c' (Moved.trans (fun _ _ _ h1 h2 => h2.trans h1) m1 hm) hS' hacc⟩
theorem list_init_rt {it l S : Addr} {items : Array Value} {R : Result → Shared → Prop} (hh : A.handled = none) (hit : IsRt s.heap it l ((items.size : Int) - 1)) (hl : IsTup s.heap l items) (hne : l ≠ it) (hn : items.size ≤ sizeLine) (h0 : 0 < items.size) (hSi : S ≠ it) (hSl : S ≠ l)
    (hS : s.heap.get? S = some { cls := .type "list", data := .seq #[] })
    (hR : ∀ (s' : Shared) (acc' : Array Value) (c' : Nat), Moved [S, it] (fun a b => b = a) s s' → s'.heap.get? S = some { cls := .type "list", dict := none, data := .seq acc' c', slots := #[] } → ItemsOf (fun i v => items[items.size - 1 - i]? = some v) acc' items.size → R (.ok (.ret .none)) s') :
    wpAny (model prog w) A.in1 (Builtin.«list.__init__» ⟨[.ref S, .ref it], []⟩)
      (fun fin s' => match fin with | .done f => R (.ok f) s' | .again c' => c'.quiet = true ∧ codeAny (model prog w) A c' R s') (fun e s' => R (.error e) s') s := by
  show wpAny _ A.in1 (do let old ← Builtin.List.listItems (.ref S); Builtin.List.listUpdate (.ref S) (fun _ => #[]); letGo old.toList.reverse; Builtin.List.listExtendWith (.ref S) (.ref it) .none) _ _ s
  refine wpAny_bind ?_
  unfold Builtin.List.listItems
  refine wpAny_bind (wpAny_seqItems hS rfl (wpAny_pure ?_))
  show wpAny _ A.in1 (updateSeq S (fun _ => #[]) >>= fun _ => letGo (#[] : Array Value).toList.reverse >>= fun _ => Builtin.List.listExtendWith (.ref S) (.ref it) .none) _ _ s
  refine wpAny_bind (wpAny_updateSeq hS rfl ?_)
  have hS₂ := Heap.get?_update_self (Obj.mapSeq (fun _ => (#[] : Array Value))) hS rfl
  have oth : ∀ b o, b ≠ S → s.heap.get? b = some o → (s.heap.update S (Obj.mapSeq (fun _ => (#[] : Array Value)))).get? b = some o :=
    fun b o hb e => (Heap.get?_update_other _ _ (Ne.symm hb)).trans e
  refine wpAny_bind (wpAny_letGo ?_)
  refine ext_rt (s := { s with heap := s.heap.update S (Obj.mapSeq (fun _ => (#[] : Array Value))) }) hh (hit.at fun o e => oth it o (Ne.symm hSi) e) (isTup_at hl fun o e => oth l o (Ne.symm hSl) e) hne hn h0 hSi hSl hS₂ fun s' acc' c' hm hS' hacc => ?_
  have m0 : Moved [S, it] (fun a b => b = a) s s := Moved.refl fun _ => rfl
  have m1 : Moved [S, it] (fun a b => b = a) s { s with heap := s.heap.update S (Obj.mapSeq (fun _ => (#[] : Array Value))) } := m0.then_heap (Nat.le_refl _) fun b o hb e => oth b o (fun h => hb (by rw [h]; exact List.mem_cons_self)) e
  exact hR s' acc' c' (Moved.trans (fun _ _ _ h1 h2 => h2.trans h1) m1 hm) hS' hacc
theorem call_list_rt {it l : Addr} {items : Array Value} {Q : Value → Shared → Prop} (hh : A.handled = none) (hit : IsRt s.heap it l ((items.size : Int) - 1)) (hl : IsTup s.heap l items) (hne : l ≠ it) (hn : items.size ≤ sizeLine) (h0 : 0 < items.size)
    (hQ : ∀ (h' : Heap) (tk : Nat) (acc : Array Value) (c : Nat), (∀ b o, b ≠ it → s.heap.get? b = some o → h'.get? b = some o) → h'.get? s.heap.objs.size = some { cls := .type "list", dict := none, data := .seq acc c, slots := #[] } → ItemsOf (fun i v => items[items.size - 1 - i]? = some v) acc items.size →
      Q (.ref s.heap.objs.size) { s with heap := h', toks := tk }) :
    wpAny (model prog w) A (call (.type "list") [.ref it]) Q E s := by
  obtain ⟨oi, hoi, _⟩ := id hit
  obtain ⟨ol, hol, _⟩ := id hl
  have hSi : s.heap.objs.size ≠ it := Nat.ne_of_gt (Heap.lt_size hoi)
  have hSl : s.heap.objs.size ≠ l := Nat.ne_of_gt (Heap.lt_size hol)
  refine callType_codes (Q₁ := fun obj s₁ => obj = .ref s.heap.objs.size ∧ s₁ = { s with heap := s.heap.push { cls := .type "list", data := .seq #[] } }) F.called_list (F.typeCall_list_1 _) F.entry_list_init
    (code_list_new _ ⟨rfl, rfl⟩) fun obj s₁ h₁ => ?_
  obtain ⟨rfl, rfl⟩ := h₁
  have hS : (s.heap.push { cls := .type "list", data := .seq #[] }).get? s.heap.objs.size = some { cls := .type "list", data := .seq #[] } := Heap.get?_push_size _ rfl
  refine ⟨⟨_, hS, rfl⟩, F.args_list_init_2 _ _, list_init_rt (s := { s with heap := s.heap.push { cls := .type "list", data := .seq #[] } }) (A := A.in1) hh (hit.at fun o e => Heap.get?_push_of_some _ e) (isTup_at hl fun o e => Heap.get?_push_of_some _ e) hne hn h0 hSi hSl hS fun s' acc' c' hm hS' hacc => ?_⟩
  refine ⟨rfl, ?_⟩
  rw [Moved.eq_with hm]
  exact hQ s'.heap s'.toks acc' c' (fun b o hb e => hm.heap b o (fun hmem => by
    rcases List.mem_cons.mp hmem with e' | hmem
    · exact absurd (Heap.lt_size e) (by rw [e']; exact Nat.lt_irrefl _)
    · exact hb (List.mem_singleton.mp hmem)) (Heap.get?_push_of_some _ e)) hS' hacc
end
end RT

namespace L2
open PySem PySem.Spec PyProof.Rows RT
/-- list(reversed(x)), x a list, or a tuple that is not empty: a new list -/
def tListRev (K : PySem.W.Frag) (te : TE) : TE := fun σ H Q => te σ H fun v H1 => ∃ (a : Addr) (xs : List V), v = .ref a ∧ (SqL K H1 a xs ∨ (SqT K H1 a xs ∧ xs ≠ [])) ∧ ∀ q, H1 q = none → Q (.ref q) (upd H1 q (.lst xs.reverse))
section
variable {X : Cx}
theorem pe_listRev {e : Expr} {te : TE} {p p2 pos pos2 : Pos} (hc : X.calm = true) (hg : Gl X "list") (hm : X.mg "list" = none) (hb : bootBuiltins "list" = some (.type "list")) (hg2 : Gl X "reversed") (hm2 : X.mg "reversed" = none) (he : PE X e te)
    (hs : starEach [e] X.env = (false, eval e X.env) :: starEach [] X.env := by rfl)
    (hs2 : starEach [.Call (.Name "reversed" p2) [e] [] pos2] X.env = (false, eval (.Call (.Name "reversed" p2) [e] [] pos2) X.env) :: starEach [] X.env := by rfl) :
    PE X (.Call (.Name "list" p) [.Call (.Name "reversed" p2) [e] [] pos2] [] pos) (tListRev X.K te) := by
  refine ⟨fun pins s σ H Q I h => ?_⟩
  refine Call_ (ld_blt I hg hm hb (PyProof.Rows.callWith_type1 (args_cons (Call_ (ld_blt I hg2 hm2 PyProof.Rows.boot_reversed (PyProof.Rows.callWith_type1 (args_cons (thn (he.run pins s σ H _ I h) fun u s1 ⟨v, H1, I1, r1, q1⟩ => args_nil ?_) hs) hs rfl))) hs2) hs2 rfl))
  obtain ⟨a, xs, ev, hq, q⟩ := q1
  subst ev
  obtain rfl : u = Value.ref a := r1
  obtain ⟨f0, f1, f2, f3, f4, f5⟩ := I1.fpOk (H' := H1) (b := s1.heap.objs.size) (Nat.le_refl _) (I1.hok.fresh (Nat.le_refl _))
  rcases hq with hq | ⟨hq, hx⟩
  · obtain ⟨its, rv, p', hz⟩ := I1.list hq
    refine call_reversed_list p'.isList (args_nil ?_)
    have k0 : ∀ b o, s1.heap.get? b = some o → (s1.heap.push (revObj a ((its.toArray.size : Int) - 1))).get? b = some o := fun b o e => Heap.get?_push_of_some _ e
    have I2 : Inv X pins σ H1 { s1 with heap := s1.heap.push (revObj a ((its.toArray.size : Int) - 1)) } := I1.kept (t' := s1.toks) k0
    have hl := p'.isList
    obtain ⟨ol, hol, _⟩ := id hl
    have hne : a ≠ s1.heap.objs.size := Nat.ne_of_lt (Heap.lt_size hol)
    have hn : its.toArray.size ≤ sizeLine := by rw [List.size_toArray, ← rv.length]; exact hz
    refine call_list_rev (s := { s1 with heap := s1.heap.push (revObj a ((its.toArray.size : Int) - 1)) }) (I1.ok.hd hc) ⟨_, Heap.get?_push_size _ rfl, rfl, rfl⟩ (hl.push _) hne hn fun h' tk acc c hk hS hi => ?_
    have I3 : Inv X pins σ H1 { s1 with heap := h', toks := tk } := I2.turned (t' := tk) (fun b o hb e => hk b o hb e) f0 f1 f3 f4 f5
    have hle : s1.heap.objs.size ≤ (s1.heap.push (revObj a ((its.toArray.size : Int) - 1))).objs.size := by rw [size_push']; omega
    have hn0 : H1 (s1.heap.push (revObj a ((its.toArray.size : Int) - 1))).objs.size = none := I1.hok.fresh hle
    have I4 := I3.take (h' := h') (t' := tk) (o := .lst xs.reverse) (fun b ob _ e => e) (I1.fpOk hle hn0) ⟨by rw [List.length_reverse]; exact hz, acc.toList, c, vals_rev rv hi, by rw [Array.toArray_toList]; exact hS⟩
    exact ⟨.ref _, _, I4, rfl, q _ hn0⟩
  · obtain ⟨its, rv, p', hz⟩ := I1.tuple hq
    have hl := rv.length
    have hn63 := line63
    have hx0 : 0 < xs.length := List.length_pos_iff.mpr hx
    have hlt : a < s1.heap.objs.size := p'.lt
    refine call_reversed_tup p' (fun A E Q k => len_tuple p' (by simp only [List.size_toArray] <;> omega) k) (args_nil ?_)
    have k0 : ∀ b o, s1.heap.get? b = some o → (s1.heap.push (rtObj a ((its.toArray.size : Int) - 1))).get? b = some o := fun b o e => Heap.get?_push_of_some _ e
    have I2 : Inv X pins σ H1 { s1 with heap := s1.heap.push (rtObj a ((its.toArray.size : Int) - 1)), toks := s1.toks + 1 + 1 } := I1.kept (t' := s1.toks + 1 + 1) k0
    have hne : a ≠ s1.heap.objs.size := Nat.ne_of_lt hlt
    have hn : its.toArray.size ≤ sizeLine := by rw [List.size_toArray, ← rv.length]; exact hz
    refine call_list_rt (s := { s1 with heap := s1.heap.push (rtObj a ((its.toArray.size : Int) - 1)), toks := s1.toks + 1 + 1 }) (I1.ok.hd hc) ⟨_, Heap.get?_push_size _ rfl, rfl, rfl⟩ (p'.push _) hne hn (by rw [List.size_toArray]; omega) fun h' tk acc c hk hS hi => ?_
    have I3 : Inv X pins σ H1 { s1 with heap := h', toks := tk } := I2.turned (t' := tk) (fun b o hb e => hk b o hb e) f0 f1 f3 f4 f5
    have hle : s1.heap.objs.size ≤ (s1.heap.push (rtObj a ((its.toArray.size : Int) - 1))).objs.size := by rw [size_push']; omega
    have hn0 : H1 (s1.heap.push (rtObj a ((its.toArray.size : Int) - 1))).objs.size = none := I1.hok.fresh hle
    have I4 := I3.take (h' := h') (t' := tk) (o := .lst xs.reverse) (fun b ob _ e => e) (I1.fpOk hle hn0) ⟨by rw [List.length_reverse]; exact hz, acc.toList, c, vals_rev rv hi, by rw [Array.toArray_toList]; exact hS⟩
    exact ⟨.ref _, _, I4, rfl, q _ hn0⟩
end
end L2
namespace VL
open PySem PySem.Spec PyProof.Rows L2
/-! ### list(reversed(x)) -/
def gLRev (x : R) (r : Rho) : EO := match opd r x with
  | some (.node .lst _ xs) => .ok (.val (.node .lst true (frzs xs).reverse)) (touch r x)
  | some (.node .rd _ xs) => .ok (.val (.node .lst true (frzs xs).reverse)) (touch r x)
  | some (.node .tup _ xs) => if xs.isEmpty = true then .bad else .ok (.val (.node .lst true (frzs xs).reverse)) (touch r x)
  | _ => .bad
def cLRev (fa : Ev) : Ev := fun r => (fa r).bd gLRev
section
variable {X : Cx} {G : GX} {C : Fc} {W : WX} {ow ow' : Ow} {r : Rho} {T T1 T2 : List (D × V)} {s : L2.St} {H H' : Hp} {fa fb fc : Ev}
theorem ve_lrev {e : Expr} {p p2 pos pos2 : Pos} (hc : X.calm = true) (hK : G.K = X.K) (hg : Gl X "list") (hm : X.mg "list" = none) (hb : bootBuiltins "list" = some (.type "list")) (hg2 : Gl X "reversed") (hm2 : X.mg "reversed" = none) (ha : VE X G C W e fa)
    (hs : starEach [e] X.env = (false, eval e X.env) :: starEach [] X.env := by rfl)
    (hs2 : starEach [.Call (.Name "reversed" p2) [e] [] pos2] X.env = (false, eval (.Call (.Name "reversed" p2) [e] [] pos2) X.env) :: starEach [] X.env := by rfl) :
    VE X G C W (.Call (.Name "list" p) [.Call (.Name "reversed" p2) [e] [] pos2] [] pos) (cLRev fa) := by
  refine PE.imp (pe_listRev hc hg hm hb hg2 hm2 ha hs hs2) fun s H Q h => ?_
  obtain ⟨r, T, S, g⟩ := h
  refine one S g fun x v r1 H1 P g1 => ?_
  obtain ⟨ow, S3⟩ := P.1
  unfold gLRev at g1
  split at g1
  · rename_i o xs e1
    obtain ⟨ow', p, vs, S', ev, h1, rx, _⟩ := S3.parts P.2 e1
    subst ev
    obtain ⟨c1, c2⟩ := (rx ⟨.fo, []⟩).rev (frzs_frzs xs)
    exact ⟨p, vs, rfl, .inl (SqL.of h1), S'.made c2 c1 g1⟩
  · rename_i o xs e1
    obtain ⟨ow', p, vs, S', ev, h1, rx, _⟩ := S3.parts P.2 e1
    subst ev
    obtain ⟨c1, c2⟩ := (rx ⟨.fo, []⟩).rev (frzs_frzs xs)
    exact ⟨p, vs, rfl, .inl (hK ▸ h1.seq), S'.made c2 c1 g1⟩
  · rename_i o xs e1
    split at g1
    · exact g1.elim
    · rename_i hne
      obtain ⟨ow', p, vs, S', ev, h1, rx, _⟩ := S3.parts P.2 e1
      subst ev
      have hl := (rx ⟨.fo, []⟩).length
      rw [frzs_length] at hl
      obtain ⟨c1, c2⟩ := (rx ⟨.fo, []⟩).rev (frzs_frzs xs)
      refine ⟨p, vs, rfl, .inr ⟨SqT.of h1, fun z => hne ?_⟩, S'.made c2 c1 g1⟩
      rw [z] at hl
      rw [List.eq_nil_of_length_eq_zero hl]
      rfl
  · exact g1.elim
end
theorem lrev_ok {fa : Ev} {r r1 : Rho} {x : R} {k : Kd} {o : Bool} {xs : List D} (h : fa r = .ok x r1) (ho : opd r1 x = some (.node k o xs)) (hk : k = .lst ∨ k = .rd ∨ (k = .tup ∧ xs ≠ [])) (f : frzs xs = xs) (t : touch r1 x = r1) : cLRev fa r = .ok (.val (.node .lst true xs.reverse)) r1 := by
  unfold cLRev
  rw [h, bd_ok]
  unfold gLRev
  rw [ho]
  rcases hk with z | z | ⟨z, hne⟩ <;> subst z
  · show EO.ok (.val (.node .lst true (frzs xs).reverse)) (touch r1 x) = _
    rw [f, t]
  · show EO.ok (.val (.node .lst true (frzs xs).reverse)) (touch r1 x) = _
    rw [f, t]
  · show (if xs.isEmpty = true then EO.bad else .ok (.val (.node .lst true (frzs xs).reverse)) (touch r1 x)) = _
    rw [if_neg (by cases xs with | nil => exact absurd rfl hne | cons _ _ => exact Bool.false_ne_true), f, t]
end VL

namespace K37
open PySem PySem.Spec PyProof.Rows L2 VL
def tab : Tab := [(4, .inl 0, true), (4, .inl 4, true), (4, .inr "ValueError", true), (4, .inl 2, false), (4, .inl 6, false), (4, .inl 1, false), (4, .inl 3, false), (4, .inl 7, false), (4, .inl 5, false)]
/-- slots: script k -/
noncomputable def f__law_cell_at : Sv := (cSeq (cIfS (cBin gLt (cVar 1) (cB (b1 lenD) (cCons (cVar 0) cNil))) (cRet (cBin gIx (cVar 0) (cVar 1))) cSkip)
  (cRet (cC (.int 0))))
noncomputable def F__law_cell_at : List D → FO := runF 2 f__law_cell_at
/-- slots: number rules base -/
noncomputable def f__law_symbol : Sv := (cSeq (cIfS (cOr (cBin gEq (cVar 1) (cLst cNil)) (cBin gEq (cBin gMod (cVar 0) (cC (.int 3))) (cC (.int 0)))) (cRet (cBin gMod (cBin gDiv (cVar 0) (cC (.int 3))) (cVar 2))) cSkip)
  (cSeq (cIfS (cBin gEq (cBin gMod (cVar 0) (cC (.int 3))) (cC (.int 1))) (cRet (cBin gSub (cBin gAdd (cC (.int 255)) (cB (b1 lenD) (cCons (cVar 1) cNil))) (cBin gMod (cBin gDiv (cVar 0) (cC (.int 3))) (cB (gMin2) (cCons (cC (.int 3)) (cCons (cB (b1 lenD) (cCons (cVar 1) cNil)) cNil)))))) cSkip)
  (cRet (cBin gAdd (cC (.int 256)) (cBin gMod (cBin gDiv (cVar 0) (cC (.int 3))) (cB (b1 lenD) (cCons (cVar 1) cNil)))))))
noncomputable def F__law_symbol : List D → FO := runF 3 f__law_symbol
/-- slots: cell k number -/
noncomputable def f__law_stir : Sv := (cSeq (cAsg (.nm 2) (cBin gMod (cBin gAdd (cBin gAdd (cBin gMul (cBin gMod (cVar 0) (cBin gPow (cC (.int 10)) (cC (.int 15)))) (cC (.int 48271))) (cBin gMul (cC (.int 104729)) (cVar 1))) (cC (.int 7))) (cC (.int 2147483647))))
  (cSeq (cAsg (.nm 2) (cBin gMod (cBin gAdd (cBin gMul (cVar 2) (cVar 2)) (cBin gMul (cC (.int 7919)) (cVar 2))) (cC (.int 2147483629))))
  (cRet (cBin gAdd (cBin gMod (cBin gMul (cVar 2) (cVar 2)) (cC (.int 2147483587))) (cVar 2)))))
noncomputable def F__law_stir : List D → FO := runF 3 f__law_stir
/-- slots: sizes symbol -/
noncomputable def f__law_size : Sv := (cSeq (cIfS (cBin gLt (cVar 1) (cC (.int 256))) (cRet (cC (.int 1))) cSkip)
  (cRet (cBin gIx (cVar 0) (cBin gSub (cVar 1) (cC (.int 256))))))
noncomputable def F__law_size : List D → FO := runF 2 f__law_size
/-- slots: script most first base rules sizes k number one other turn row cell symbol -/
noncomputable def f__law_grammar : Sv := (cSeq (cAsg (.nm 2) (cCall 2 F__law_cell_at (cCons (cVar 0) (cCons (cC (.int 0)) cNil))))
  (cSeq (cAsg (.nm 3) (cBin gIx (cLst (cCons (cSet (cC (.int 2))) (cCons (cSet (cC (.int 3))) (cCons (cSet (cC (.int 16))) (cCons (cSet (cC (.int 256))) cNil))))) (cBin gMod (cBin gDiv (cVar 2) (cC (.int 2))) (cC (.int 4)))))
  (cSeq (cAsg (.nm 4) (cLst cNil))
  (cSeq (cAsg (.nm 5) (cLst cNil))
  (cSeq (cFor (.nm 6) (iRng rngI2 (cCons (cC (.int 2)) (cCons (cB (gMin2) (cCons (cB (b1 lenD) (cCons (cVar 0) cNil)) (cCons (cC (.int 62)) cNil))) cNil))) (cSeq (cAsg (.nm 7) (cBin gIx (cLst (cCons (cSet (cBin gIx (cVar 0) (cVar 6))) (cCons (cSet (cCall 2 F__law_stir (cCons (cBin gIx (cVar 0) (cVar 6)) (cCons (cVar 6) cNil)))) cNil))) (cBin gMod (cVar 2) (cC (.int 2)))))
  (cSeq (cAsg (.nm 8) (cCall 3 F__law_symbol (cCons (cVar 7) (cCons (cVar 4) (cCons (cVar 3) cNil)))))
  (cSeq (cAsg (.nm 9) (cCall 3 F__law_symbol (cCons (cBin gDiv (cVar 7) (cC (.int 401))) (cCons (cVar 4) (cCons (cVar 3) cNil)))))
  (cFor (.nm 10) (iRng rngI1 (cCons (cBin gAdd (cC (.int 1)) (cBin gMod (cBin gDiv (cVar 7) (cC (.int 7919))) (cBin gIx (cLst (cCons (cSet (cC (.int 1))) (cCons (cSet (cC (.int 1))) (cCons (cSet (cC (.int 40))) cNil)))) (cBin gMod (cBin gDiv (cVar 2) (cC (.int 8))) (cC (.int 3)))))) cNil)) (cSeq (cIfS (cAnd (cBin gNe (cVar 4) (cLst cNil)) (cBin gGt (cVar 10) (cC (.int 0)))) (cSeq (cAsg (.nm 8) (cBin gAdd (cC (.int 255)) (cB (b1 lenD) (cCons (cVar 4) cNil))))
  (cAsg (.nm 9) (cBin gIx (cLst (cCons (cSet (cVar 8)) (cCons (cSet (cVar 9)) cNil))) (cBin gMod (cBin gDiv (cVar 7) (cC (.int 11))) (cC (.int 2)))))) cSkip)
  (cIfS (cAnd (cBin gLe (cBin gAdd (cCall 2 F__law_size (cCons (cVar 5) (cCons (cVar 8) cNil))) (cCall 2 F__law_size (cCons (cVar 5) (cCons (cVar 9) cNil)))) (cVar 1)) (cBin gLt (cB (b1 lenD) (cCons (cVar 4) cNil)) (cC (.int 300)))) (cSeq (cExpr (cApp 5 (cBin gAdd (cCall 2 F__law_size (cCons (cVar 5) (cCons (cVar 8) cNil))) (cCall 2 F__law_size (cCons (cVar 5) (cCons (cVar 9) cNil))))))
  (cExpr (cApp 4 (cTup (cCons (cSet (cVar 8)) (cCons (cSet (cVar 9)) cNil)))))) cSkip)))))))
  (cSeq (cAsg (.nm 11) (cLst cNil))
  (cSeq (cAsg (.nm 12) (cCall 2 F__law_cell_at (cCons (cVar 0) (cCons (cC (.int 1)) cNil))))
  (cSeq (cFor (.nm 6) (iRng rngI1 (cCons (cBin gMod (cVar 12) (cC (.int 12))) cNil)) (cSeq (cAsg (.nm 12) (cBin gDiv (cVar 12) (cC (.int 12))))
  (cSeq (cAsg (.nm 13) (cCall 3 F__law_symbol (cCons (cVar 12) (cCons (cVar 4) (cCons (cVar 3) cNil)))))
  (cIfS (cBin gLe (cBin gAdd (cB (b1 sumD) (cCons (cLcO 11 [8] (.nm 8) none (cCall 2 F__law_size (cCons (cVar 5) (cCons (cVar 8) cNil)))) cNil)) (cCall 2 F__law_size (cCons (cVar 5) (cCons (cVar 13) cNil)))) (cVar 1)) (cExpr (cApp 11 (cVar 13))) cSkip))))
  (cRet (cLst (cCons (cSet (cVar 4)) (cCons (cSet (cVar 5)) (cCons (cSet (cVar 11)) (cCons (cSet (cVar 3)) cNil))))))))))))))
noncomputable def F__law_grammar : List D → FO := runF 14 f__law_grammar
/-- slots: rules row texts one other found symbol sign -/
noncomputable def f__law_put_in : Sv := (cSeq (cAsg (.nm 2) (cLc [7] (.nm 7) (iRng rngI1 (cCons (cC (.int 256)) cNil)) none (cLst (cCons (cSet (cVar 7)) cNil))))
  (cSeq (cFor (.tp [3, 4]) (iLst (cVar 0)) (cExpr (cApp 2 (cBin gAdd (cBin gIx (cVar 2) (cVar 3)) (cBin gIx (cVar 2) (cVar 4))))))
  (cSeq (cAsg (.nm 5) (cLst cNil))
  (cSeq (cFor (.nm 6) (iLst (cVar 1)) (cAsg (.nm 5) (cBin gAdd (cVar 5) (cBin gIx (cVar 2) (cVar 6)))))
  (cRet (cVar 5))))))
noncomputable def F__law_put_in : List D → FO := runF 8 f__law_put_in
/-- slots: thing many -/
noncomputable def f_is_symbol : Sv := (cRet (cAnd (cB (gIsi (etab tab)) (cCons (cVar 0) (cCons (cC (.ty "int")) cNil))) (cAnd (cNot (cB (gIsi (etab tab)) (cCons (cVar 0) (cCons (cC (.ty "bool")) cNil)))) (cAnd (cBin gGe (cVar 0) (cC (.int 0))) (cBin gLt (cVar 0) (cBin gAdd (cC (.int 256)) (cVar 1)))))))
noncomputable def F_is_symbol : List D → FO := runF 2 f_is_symbol
/-- slots: rules row number rule one -/
noncomputable def f_need_grammar : Sv := (cSeq (cFor (.tp [2, 3]) (iRng gEn (cCons (cSet (cVar 0)) cNil)) (cIfS (cOr (cNot (cB (gIsi (etab tab)) (cCons (cVar 3) (cCons (cC (.ty "tuple")) cNil)))) (cOr (cBin gNe (cB (b1 lenD) (cCons (cVar 3) cNil)) (cC (.int 2))) (cNot (cTru (cB (b1 allD) (cCons (cLc [4] (.nm 4) (iTpl (cVar 3)) none (cCall 2 F_is_symbol (cCons (cVar 4) (cCons (cVar 2) cNil)))) cNil)))))) (cRaise 4) cSkip))
  (cIfS (cNot (cTru (cB (b1 allD) (cCons (cLc [4] (.nm 4) (iLst (cVar 1)) none (cCall 2 F_is_symbol (cCons (cVar 4) (cCons (cB (b1 lenD) (cCons (cVar 0) cNil)) cNil)))) cNil)))) (cRaise 4) cSkip))
noncomputable def F_need_grammar : List D → FO := runF 5 f_need_grammar
/-- slots: rules found one other -/
noncomputable def f_sizes_of : Sv := (cSeq (cAsg (.nm 1) (cBin gMul (cLst (cCons (cSet (cC (.int 1))) cNil)) (cC (.int 256))))
  (cSeq (cFor (.tp [2, 3]) (iLst (cVar 0)) (cExpr (cApp 1 (cBin gAdd (cBin gIx (cVar 1) (cVar 2)) (cBin gIx (cVar 1) (cVar 3))))))
  (cRet (cVar 1))))
noncomputable def F_sizes_of : List D → FO := runF 4 f_sizes_of
/-- slots: rules row sizes symbol -/
noncomputable def f_length_by : Sv := (cSeq (cAsg (.nm 2) (cCall 1 F_sizes_of (cCons (cVar 0) cNil)))
  (cRet (cB (b1 sumD) (cCons (cLc [3] (.nm 3) (iLst (cVar 1)) none (cBin gIx (cVar 2) (cVar 3))) cNil))))
noncomputable def F_length_by : List D → FO := runF 4 f_length_by
/-- slots: rules row skipped many sizes found waiting symbol -/
noncomputable def f_signs_from : Sv := (cSeq (cAsg (.nm 4) (cCall 1 F_sizes_of (cCons (cVar 0) cNil)))
  (cSeq (cAsg (.nm 5) (cLst cNil))
  (cSeq (cAsg (.nm 6) (cLRev (cVar 1)))
  (cSeq (whileL (cBin gLt (cB (b1 lenD) (cCons (cVar 5) cNil)) (cVar 3)) (cSeq (cAsg (.nm 7) (cPop 6))
  (cIfS (cBin gLe (cBin gIx (cVar 4) (cVar 7)) (cVar 2)) (cAug 2 gSub (cBin gIx (cVar 4) (cVar 7))) (cIfS (cBin gLt (cVar 7) (cC (.int 256))) (cExpr (cApp 5 (cVar 7))) (cExpr (cExt 6 (cLRev (cBin gIx (cVar 0) (cBin gSub (cVar 7) (cC (.int 256)))))))))) fuel)
  (cRet (cVar 5))))))
noncomputable def F_signs_from : List D → FO := runF 8 f_signs_from
/-- slots: rules row many -/
noncomputable def f_grammar_text : Sv := (cSeq (cExpr (cCall 2 F_need_grammar (cCons (cVar 0) (cCons (cVar 1) cNil))))
  (cSeq (cAsg (.nm 2) (cCall 2 F_length_by (cCons (cVar 0) (cCons (cVar 1) cNil))))
  (cSeq (cIfS (cBin gGt (cVar 2) (cC (.int 400))) (cRaise 4) cSkip)
  (cRet (cCall 4 F_signs_from (cCons (cVar 0) (cCons (cVar 1) (cCons (cC (.int 0)) (cCons (cVar 2) cNil)))))))))
noncomputable def F_grammar_text : List D → FO := runF 3 f_grammar_text
/-- slots: rules row kinds e -/
noncomputable def f__law_refused : Sv := (cSeq (cAsg (.nm 2) (cLst cNil))
  (cSeq (cTry (tbOf tab 0) (some 3) (cExpr (cCall 2 F_grammar_text (cCons (cVar 0) (cCons (cVar 1) cNil)))) (cSeq (cAsg (.nm 2) (cLst (cCons (cSet (cB (gIsi (etab tab)) (cCons (cVar 3) (cCons (cC (.cls 4)) cNil)))) (cCons (cSet (cB (gIsi (etab tab)) (cCons (cVar 3) (cCons (cC (.ty "ValueError")) cNil)))) (cCons (cSet (cB (gIsi (etab tab)) (cCons (cVar 3) (cCons (cC (.cls 2)) cNil)))) (cCons (cSet (cB (gIsi (etab tab)) (cCons (cVar 3) (cCons (cC (.cls 6)) cNil)))) cNil))))))
  (cAsg (.nm 2) (cBin gAdd (cVar 2) (cLst (cCons (cSet (cB (gIsi (etab tab)) (cCons (cVar 3) (cCons (cC (.cls 1)) cNil)))) (cCons (cSet (cB (gIsi (etab tab)) (cCons (cVar 3) (cCons (cC (.cls 3)) cNil)))) (cCons (cSet (cB (gIsi (etab tab)) (cCons (cVar 3) (cCons (cC (.cls 7)) cNil)))) (cCons (cSet (cB (gIsi (etab tab)) (cCons (cVar 3) (cCons (cC (.cls 5)) cNil)))) cNil)))))))))
  (cRet (cBin gEq (cVar 2) (cBin gAdd (cLst (cCons (cSet (cC (.bl true))) (cCons (cSet (cC (.bl true))) cNil))) (cBin gMul (cLst (cCons (cSet (cC (.bl false))) cNil)) (cC (.int 6))))))))
noncomputable def F__law_refused : List D → FO := runF 4 f__law_refused
/-- slots: rules row due handed found sign -/
noncomputable def f__law_good : Sv := (cSeq (cAsg (.nm 2) (cCall 2 F__law_put_in (cCons (cVar 0) (cCons (cVar 1) cNil))))
  (cSeq (cAsg (.nm 3) (cLst (cCons (cSet (cB (gListOf) (cCons (cVar 0) cNil))) (cCons (cSet (cB (gListOf) (cCons (cVar 1) cNil))) cNil))))
  (cSeq (cIfS (cBin gGt (cB (b1 lenD) (cCons (cVar 2) cNil)) (cC (.int 400))) (cRet (cAnd (cCall 2 F__law_refused (cCons (cBin gIx (cVar 3) (cC (.int 0))) (cCons (cBin gIx (cVar 3) (cC (.int 1))) cNil))) (cBin gEq (cVar 3) (cLst (cCons (cSet (cVar 0)) (cCons (cSet (cVar 1)) cNil)))))) cSkip)
  (cSeq (cAsg (.nm 4) (cCall 2 F_grammar_text (cCons (cBin gIx (cVar 3) (cC (.int 0))) (cCons (cBin gIx (cVar 3) (cC (.int 1))) cNil))))
  (cSeq (cIfS (cOr (cNot (cB (gIsi (etab tab)) (cCons (cVar 4) (cCons (cC (.ty "list")) cNil)))) (cOr (cBin gNe (cVar 4) (cVar 2)) (cBin gNe (cVar 3) (cLst (cCons (cSet (cVar 0)) (cCons (cSet (cVar 1)) cNil)))))) (cRet (cC (.bl false))) cSkip)
  (cSeq (cIfS (cBin gNe (cLcO 4 [5] (.nm 5) (some (cOr (cNot (cB (gIsi (etab tab)) (cCons (cVar 5) (cCons (cC (.ty "int")) cNil)))) (cB (gIsi (etab tab)) (cCons (cVar 5) (cCons (cC (.ty "bool")) cNil))))) (cVar 5)) (cLst cNil)) (cRet (cC (.bl false))) cSkip)
  (cSeq (cExpr (cApp 4 (cC (.int 0))))
  (cRet (cAnd (cBin gEq (cCall 2 F_grammar_text (cCons (cBin gIx (cVar 3) (cC (.int 0))) (cCons (cBin gIx (cVar 3) (cC (.int 1))) cNil))) (cVar 2)) (cBin gEq (cVar 3) (cLst (cCons (cSet (cVar 0)) (cCons (cSet (cVar 1)) cNil)))))))))))))
noncomputable def F__law_good : List D → FO := runF 6 f__law_good
/-- slots: script rules sizes row base doubled last k -/
noncomputable def f_law : Sv := (cSeq (cAsg (.tl [1, 2, 3, 4]) (cCall 2 F__law_grammar (cCons (cVar 0) (cCons (cC (.int 400)) cNil))))
  (cSeq (cAsg (.nm 5) (cBin gAdd (cLst (cCons (cSet (cTup (cCons (cSet (cBin gMod (cB (b1 lenD) (cCons (cVar 0) cNil)) (cC (.int 256)))) (cCons (cSet (cC (.int 5))) cNil)))) cNil)) (cLc [7] (.nm 7) (iRng rngI1 (cCons (cC (.int 60)) cNil)) none (cTup (cCons (cSet (cBin gAdd (cC (.int 256)) (cVar 7))) (cCons (cSet (cBin gAdd (cC (.int 256)) (cVar 7))) cNil))))))
  (cSeq (cIfS (cOr (cNot (cCall 2 F__law_refused (cCons (cVar 5) (cCons (cLst (cCons (cSet (cC (.int 316))) cNil)) cNil)))) (cNot (cCall 2 F__law_refused (cCons (cBin gAdd (cVar 5) (cLst (cCons (cSet (cTup (cCons (cSet (cC (.int 5))) (cCons (cSet (cC (.int 5))) cNil)))) cNil))) (cCons (cLst (cCons (cSet (cC (.int 316))) (cCons (cSet (cC (.int 5))) cNil))) cNil))))) (cRet (cC (.bl false))) cSkip)
  (cSeq (cAsg (.nm 6) (cLst (cCons (cSet (cBin gAdd (cC (.int 255)) (cB (b1 lenD) (cCons (cVar 1) cNil)))) cNil)))
  (cSeq (cIfS (cOr (cNot (cCall 2 F__law_good (cCons (cVar 1) (cCons (cVar 3) cNil)))) (cOr (cNot (cCall 2 F__law_good (cCons (cVar 1) (cCons (cBin gAdd (cVar 3) (cSl (cVar 6) none (some (cB (b1 lenD) (cCons (cVar 1) cNil))))) cNil)))) (cNot (cCall 2 F__law_good (cCons (cLst cNil) (cCons (cSl (cVar 3) none (some (cC (.int 0)))) cNil)))))) (cRet (cC (.bl false))) cSkip)
  (cRet (cAnd (cCall 2 F__law_good (cCons (cVar 1) (cCons (cBin gMul (cVar 3) (cC (.int 3))) cNil))) (cCall 2 F__law_good (cCons (cVar 1) (cCons (cBin gMul (cVar 3) (cC (.int 41))) cNil))))))))))
noncomputable def F_law : List D → FO := runF 8 f_law
end K37

namespace K37
open PySem PySem.Spec PyProof.Rows L2 VL
abbrev I (o : Bool) (xs : List Int) : D := .node .lst o (xs.map .int)
theorem cc (n : Int) (r : Rho) : cC (.int n) r = .ok (.val (.int n)) r := rfl
theorem set_val {fa : Ev} {r r1 : Rho} {d : D} (h : fa r = .ok (.val d) r1) : cSet fa r = .ok (.val d) r1 := by
  rw [q_set, h, bd_ok]
theorem set_loc {r : Rho} {i : Nat} {o : Bool} {ds : List D} (h : r[i]? = some (some (.node .lst o ds))) (f : frzs ds = ds) : cSet (cVar i) r = .ok (.val (.node .lst false ds)) (r.set i (some (.node .lst false ds))) := by
  have e : frz (.node .lst o ds) = .node .lst false ds := frz_lst f
  rw [q_set, cvar_loc h rfl, bd_ok]
  show (match opd r (.loc i) with | some d => EO.ok (.val (frz d)) (settle r (.loc i)) | none => .bad) = _
  rw [opd_loc' h, q_settle2, h]
  show EO.ok (R.val (frz (.node .lst o ds))) (r.set i (some (frz (.node .lst o ds)))) = _
  rw [e]
theorem appI {fa : Ev} {r r1 : Rho} {i : Nat} {n : Int} {xs : List Int} (hi : isLst r i = true) (h : fa r = .ok (.val (.int n)) r1) (h2 : r1[i]? = some (some (I true xs))) (hl : xs.length < 16777216) : cExpr (cApp i fa) r = .nx (r1.set i (some (I true (xs ++ [n])))) := by
  rw [app_ok hi h h2 (by rw [List.length_map]; exact hl), I, List.map_append]
  rfl
theorem len_at {r : Rho} {i : Nat} {k : Kd} {o : Bool} {xs : List D} (h : r[i]? = some (some (.node k o xs))) (hk : k = .lst ∨ k = .rd ∨ k = .tup) : cB (b1 lenD) (cCons (cVar i) cNil) r = .ok (.val (.int xs.length)) r :=
  b1_ok (cvar_loc h rfl) (opd_loc' h) (by rcases hk with h | h | h <;> subst h <;> rfl) rfl
theorem len_I {r : Rho} {i : Nat} {o : Bool} {xs : List Int} (h : r[i]? = some (some (I o xs))) : cB (b1 lenD) (cCons (cVar i) cNil) r = .ok (.val (.int xs.length)) r := by
  have e := len_at h (.inl rfl)
  rw [List.length_map] at e
  exact e
theorem cons_ok {fa : Ev} {fs : Av} {r r1 r2 : Rho} {x : R} {xs : List R} (h : fa r = .ok x r1) (h2 : fs r1 = .ok xs r2) : cCons fa fs r = .ok (x :: xs) r2 := by
  rw [q_cons, h]
  show (match fs r1 with | .ok xs r2 => AO.ok (x :: xs) r2 | .exc c r2 => .exc c r2 | .bad => .bad) = _
  rw [h2]
theorem nil_ok (r : Rho) : cNil r = .ok [] r := rfl
theorem lst_ok {fs : Av} {r r1 : Rho} {xs : List R} {ds : List D} (h : fs r = .ok xs r1) (h2 : valsR xs = some ds) (hl : ds.length ≤ 16777216) : cLst fs r = .ok (.val (.node .lst true ds)) r1 := by
  rw [q_lst, h]
  show (match valsR xs with | some ds => if ds.length ≤ 16777216 then EO.ok (.val (.node .lst true ds)) r1 else .bad | none => .bad) = _
  rw [h2]
  show (if ds.length ≤ 16777216 then EO.ok (.val (.node .lst true ds)) r1 else .bad) = _
  rw [if_pos hl]
theorem tup_ok {fs : Av} {r r1 : Rho} {xs : List R} {ds : List D} (h : fs r = .ok xs r1) (h2 : valsR xs = some ds) (hl : ds.length ≤ 16777216) : cTup fs r = .ok (.val (.node .tup false ds)) r1 := by
  rw [q_tup, h]
  show (match valsR xs with | some ds => if ds.length ≤ 16777216 then EO.ok (.val (.node .tup false ds)) r1 else .bad | none => .bad) = _
  rw [h2]
  show (if ds.length ≤ 16777216 then EO.ok (.val (.node .tup false ds)) r1 else .bad) = _
  rw [if_pos hl]
theorem call_vals {n : Nat} {F : List D → FO} {fs : Av} {r r1 : Rho} {xs : List R} {ds : List D} {d : D} (h : fs r = .ok xs r1) (h2 : opds r1 xs = some ds) (hn : xs.length = n) (hs : settles r1 xs = r1) (hF : F (frzs ds) = .ok d) : cCall n F fs r = .ok (.val d) r1 := by
  rw [q_call, h]
  show (if xs.length = n then callK F xs r1 else .bad) = _
  rw [if_pos hn, q_callK, h2]
  show (match F (frzs ds) with | .ok d => if noL d = true then EO.ok (.val d) r1 else .ok (.val d) (settles r1 xs) | .exc c => .exc c r1 | .bad => .bad) = _
  rw [hF]
  show (if noL d = true then EO.ok (.val d) r1 else .ok (.val d) (settles r1 xs)) = _
  rw [hs]
  split <;> rfl
theorem call_noL {n : Nat} {F : List D → FO} {fs : Av} {r r1 : Rho} {xs : List R} {ds : List D} {d : D} (h : fs r = .ok xs r1) (h2 : opds r1 xs = some ds) (hn : xs.length = n) (nl : noL d = true) (hF : F (frzs ds) = .ok d) : cCall n F fs r = .ok (.val d) r1 := by
  rw [q_call, h]
  show (if xs.length = n then callK F xs r1 else .bad) = _
  rw [if_pos hn, q_callK, h2]
  show (match F (frzs ds) with | .ok d => if noL d = true then EO.ok (.val d) r1 else .ok (.val d) (settles r1 xs) | .exc c => .exc c r1 | .bad => .bad) = _
  rw [hF]
  show (if noL d = true then EO.ok (.val d) r1 else .ok (.val d) (settles r1 xs)) = _
  rw [if_pos nl]
theorem frz_I (o : Bool) (xs : List Int) : frz (I o xs) = I false xs := frz_ints xs o
abbrev nt (k : Nat) : D := .int (k : Nat)
abbrev L (o : Bool) (ks : List Nat) : D := .node .lst o (ks.map nt)
theorem frzs_nt (ks : List Nat) : frzs (ks.map nt) = ks.map nt := by
  rw [frzs_map, List.map_map]
  exact List.map_congr_left fun _ _ => rfl
theorem fp_nts (ks : List Nat) : ∀ x ∈ ks.map nt, FP 0 x := fun x hx => by
  obtain ⟨p, _, rfl⟩ := List.mem_map.mp hx
  exact fp_int _ 0
theorem rng_nt (n : Nat) : rngD 0 1 n = (List.range n).map nt := by
  unfold rngD
  refine List.map_congr_left fun i _ => ?_
  show D.int ((0 : Int) + (i : Nat) * 1) = D.int (i : Nat)
  congr 1; omega
theorem it_rng {fa : Ev} {r r1 : Rho} {n : Nat} (h : fa r = .ok (.val (nt n)) r1) (hn : n ≤ 1000000) : iRng rngI1 (cCons fa cNil) r = .ok ((List.range n).map nt) r1 := by
  rw [q_iRng, q_cons, h]
  show rngI1 r1 [.val (.int (n : Nat))] = _
  rw [q_rng1, if_pos (within_le (by omega) (by omega)), Int.toNat_natCast, rng_nt]
theorem lc_filt {fi : Iv} {v : Nat} {fc : Ev} {r r1 r0 : Rho} (ks : List Nat) (p : Nat → Bool) (hi : fi r = .ok (ks.map nt) r1) (h0 : r1.set v none = r0) (hv : r0[v]? = some none) (hl : ks.length < 16777216)
    (hs : ∀ k ∈ ks, fc (r0.set v (some (nt k))) = .ok (.val (.bl (p k))) (r0.set v (some (nt k)))) : cLc [v] (.nm v) fi (some fc) (cVar v) r = .ok (.val (L true (ks.filter p))) (backR r1 r0 [v]) := by
  have hv2 : v < r0.length := (List.getElem?_eq_some_iff.mp hv).1
  have hw : ∀ d : D, (r0.set v (some d)).set v none = r0 := fun d => by
    rw [List.set_set]
    refine List.ext_getElem? fun j => ?_
    by_cases hj : v = j
    · subst hj
      rw [List.getElem?_set_self hv2, hv]
    · rw [List.getElem?_set_ne hj]
  have e := lc_map (t := .nm v) (fc := some fc) (fe := cVar v) (vs := [v]) (ds := ks.map nt) (p := fun d => match d with | .int n => p n.toNat | _ => false) (q := id) hi h0 (by rw [List.length_map]; exact hl) fun d hd => by
    obtain ⟨k, hk, rfl⟩ := List.mem_map.mp hd
    refine ⟨r0.set v (some (nt k)), rfl, r0.set v (some (nt k)), ?_, hw _, fun _ => ⟨r0.set v (some (nt k)), ?_, hw _⟩⟩
    · exact hs k hk
    · exact set_val (cvar_at (List.getElem?_set_self hv2) rfl)
  rw [e, List.map_id, List.filter_map]
  rfl
theorem ix_get {r : Rho} {i : Nat} {fa : Ev} {o : Bool} {xs : List Int} {n : Nat} (h : r[i]? = some (some (I o xs))) (h2 : fa r = .ok (.val (nt n)) r) (hn : n < xs.length) : cBin gIx (cVar i) fa r = .ok (.val (.int (xs.getD n 0))) r := by
  refine bin_ok (cvar_loc h rfl) h2 ?_
  rw [List.getD_eq_getElem?_getD, List.getElem?_eq_getElem hn]
  exact ix_fz h (frzs_ints _) (at_map hn) rfl
theorem add_nt {fa fb : Ev} {r r1 r2 : Rho} {i j : Nat} (h1 : fa r = .ok (.val (nt i)) r1) (h2 : fb r1 = .ok (.val (nt j)) r2) : cBin gAdd fa fb r = .ok (.val (nt (i + j))) r2 := by
  have e := add_ok h1 h2
  exact e
theorem lt_nt {fa fb : Ev} {r r1 r2 : Rho} {i j : Nat} (h1 : fa r = .ok (.val (nt i)) r1) (h2 : fb r1 = .ok (.val (nt j)) r2) : cBin gLt fa fb r = .ok (.val (.bl (decide (i < j)))) r2 := by
  rw [lt_ok h1 h2, decide_eq_decide.mpr (show (i : Int) < j ↔ i < j by omega)]
theorem wh_go {ft : Ev} {f : Sv} {n : Nat} {r r1 : Rho} (h : ft r = .ok (.val (.bl true)) r1) {r2 : Rho} (h2 : f r1 = .nx r2) : whileL ft f (n + 1) r = whileL ft f n r2 := by
  conv => lhs; unfold whileL
  rw [h]
  show (match f r1 with | .nx r2 => whileL ft f n r2 | .ct r2 => whileL ft f n r2 | .bk r2 => .nx r2 | o => o) = _
  rw [h2]
theorem wh_bk {ft : Ev} {f : Sv} {n : Nat} {r r1 : Rho} (h : ft r = .ok (.val (.bl true)) r1) {r2 : Rho} (h2 : f r1 = .bk r2) : whileL ft f (n + 1) r = .nx r2 := by
  unfold whileL
  rw [h]
  show (match f r1 with | .nx r2 => whileL ft f n r2 | .ct r2 => whileL ft f n r2 | .bk r2 => .nx r2 | o => o) = _
  rw [h2]
theorem wh_no {ft : Ev} {f : Sv} {n : Nat} {r r1 : Rho} (h : ft r = .ok (.val (.bl false)) r1) : whileL ft f (n + 1) r = .nx r1 := by
  unfold whileL
  rw [h]
  rfl
theorem and_no {fa fb : Ev} {r : Rho} (h : fa r = .ok (.val (.bl false)) r) : cAnd fa fb r = .ok (.val (.bl false)) r := by
  rw [q_and, h, bd_ok]
theorem emp_false {α : Type} {l : List α} (h : l ≠ []) : l.isEmpty = false := by
  cases l with
  | nil => exact absurd rfl h
  | cons _ _ => rfl
theorem ix_tup {r : Rho} {i : Nat} {k : Int} {o : Bool} {xs : List D} {d : D} (h : r[i]? = some (some (.node .tup o xs))) (f : frzs xs = xs) (hd : atI xs k = some d) (fd : frz d = d) : gIx (.loc i) (.val (.int k)) r = .ok (.val d) r := by
  have a : opd r (.loc i) = some (.node .tup o xs) := opd_loc' h
  simp only [q_ix, a, q_opd1, hd, q_pick, fd, touch_fz h f]
  split <;> rfl
theorem ne_nils {fa fb : Ev} {r r1 r2 : Rho} (h1 : fa r = .ok (.val (.node .lst true [])) r1) (h2 : fb r1 = .ok (.val (.node .lst true [])) r2) : cBin gNe fa fb r = .ok (.val (.bl false)) r2 :=
  bin_ok h1 h2 (g2_ok rfl rfl (ne_nil (k := 0) (fun x hx => by cases hx) (by decide)) rfl)
theorem part_ok {f : Ev} {r r1 : Rho} {i : Int} {k : Option Int → Rho → EO} (h : f r = .ok (.val (.int i)) r1) : VL.part (some f) r k = k (some i) r1 := by
  show (f r).bd _ = _
  rw [h]
  rfl
theorem frz_script (ns : List Int) : frz (script ns) = script ns := by
  show D.node .rd false (frzs (ns.map D.int)) = _
  rw [frzs_ints]; rfl
theorem rd_at {ns : List Int} {r : Rho} {i k : Nat} {fa : Ev} (h : r[i]? = some (some (script ns))) (h2 : fa r = .ok (.val (nt k)) r) (hk : k < ns.length) : cBin gIx (cVar i) fa r = .ok (.val (.int ns[k])) r := by
  refine bin_ok (cvar_loc h rfl) h2 ?_
  rw [q_ix, opd_loc' h]
  show (match atI (ns.map D.int) (k : Int) with | some d => pick r (.loc i) d | none => EO.bad) = _
  rw [at_map hk]
  rfl
theorem all_bl (bs : List Bool) {fa : Ev} {r r1 : Rho} {o : Bool} (h : fa r = .ok (.val (.node .lst o (bs.map D.bl))) r1) : cTru (cB (b1 allD) (cCons fa cNil)) r = .ok (.val (.bl (bs.all id))) r1 := by
  have e : allD (.node .lst o (bs.map D.bl)) = some (.bl (bs.all id)) := by
    show (blsOf (bs.map D.bl)).map _ = _
    rw [blsOf_map]; rfl
  have b := b1_ok h rfl e rfl
  unfold cTru
  rw [b]
  rfl
theorem at_ngv {α : Type} {xs : List α} {b : Nat} (h1 : 1 ≤ b) (h2 : b ≤ xs.length) : atI xs (-(b : Int)) = xs[xs.length - b]? := by
  unfold atI ixN
  rw [if_neg (by omega), if_pos (by omega)]
  show xs[(-(b : Int) + (xs.length : Int)).toNat]? = _
  rw [show (-(b : Int) + (xs.length : Int)).toNat = xs.length - b by omega]
theorem neg_ok {fa : Ev} {r r1 : Rho} {n : Int} (h : fa r = .ok (.val (.int n)) r1) : cNeg fa r = .ok (.val (.int (-n))) r1 := by
  unfold cNeg
  rw [h]
  rfl
theorem gt_no {fa fb : Ev} {r r1 r2 : Rho} {i j : Nat} (h1 : fa r = .ok (.val (nt i)) r1) (h2 : fb r1 = .ok (.val (nt j)) r2) (h : i ≤ j) : cBin gGt fa fb r = .ok (.val (.bl false)) r2 := by
  have e := gt_ok h1 h2
  rw [decide_eq_false (by omega)] at e
  exact e
theorem lcL_all {α : Type} {enc g : α → D} {t : Tg} {fe : Ev} {vs : List Nat} {r0 : Rho} : ∀ (xs : List α) (acc : List D), acc.length + xs.length < 16777216 →
    (∀ a ∈ xs, ∃ r2, tgt t (enc a) r0 = some r2 ∧ ∃ r3, cSet fe r2 = .ok (.val (g a)) r3 ∧ wipeR r3 vs = r0) → lcL t none fe vs (xs.map enc) acc r0 = .ok (acc ++ xs.map g) r0
  | [], acc, _, _ => by simp [lcL]
  | a :: xs, acc, hl, hs => by
    simp only [List.length_cons] at hl
    obtain ⟨r2, e1, r3, e2, e3⟩ := hs a List.mem_cons_self
    rw [List.map_cons]
    unfold lcL
    rw [e1]
    show (match cSet fe r2 with | .ok (.val e) r3 => if acc.length < 16777216 then lcL t none fe vs (xs.map enc) (acc ++ [e]) (wipeR r3 vs) else .bad | _ => LO.bad) = _
    rw [e2]
    show (if acc.length < 16777216 then lcL t none fe vs (xs.map enc) (acc ++ [g a]) (wipeR r3 vs) else LO.bad) = _
    rw [if_pos (by omega), e3, lcL_all xs (acc ++ [g a]) (by rw [List.length_append, List.length_singleton]; omega) (fun x hx => hs x (List.mem_cons_of_mem _ hx)), List.append_assoc]
    rfl
theorem lc_all {α : Type} {enc g : α → D} {fi : Iv} {t : Tg} {fe : Ev} {vs : List Nat} {r r1 r0 : Rho} (xs : List α) (hi : fi r = .ok (xs.map enc) r1) (h0 : wipeR r1 vs = r0) (hl : xs.length < 16777216)
    (hs : ∀ a ∈ xs, ∃ r2, tgt t (enc a) r0 = some r2 ∧ ∃ r3, cSet fe r2 = .ok (.val (g a)) r3 ∧ wipeR r3 vs = r0) : cLc vs t fi none fe r = .ok (.val (.node .lst true (xs.map g))) (backR r1 r0 vs) := by
  rw [q_lc, hi]
  show (match lcL t none fe vs (xs.map enc) [] (wipeR r1 vs) with | .ok acc r2 => EO.ok (.val (.node .lst true acc)) (backR r1 r2 vs) | .bad => .bad) = _
  rw [h0, lcL_all xs [] (by simpa using hl) hs]
  rfl
theorem min_nt {fa fb : Ev} {r : Rho} {i j : Nat} (h1 : fa r = .ok (.val (nt i)) r) (h2 : fb r = .ok (.val (nt j)) r) : cB gMin2 (cCons fa (cCons fb cNil)) r = .ok (.val (nt (min i j))) r := by
  rw [q_B, cons_ok h1 (cons_ok h2 (nil_ok r))]
  show gMin2 [.val (nt i), .val (nt j)] r = _
  rw [q_min2]
  congr 3
  by_cases hn : (j : Int) < i
  · rw [if_pos hn]; omega
  · rw [if_neg hn]; omega
theorem max_nt {fa fb : Ev} {r : Rho} {i j : Nat} (h1 : fa r = .ok (.val (nt i)) r) (h2 : fb r = .ok (.val (nt j)) r) : cB gMax2 (cCons fa (cCons fb cNil)) r = .ok (.val (nt (max i j))) r := by
  rw [q_B, cons_ok h1 (cons_ok h2 (nil_ok r))]
  show gMax2 [.val (nt i), .val (nt j)] r = _
  rw [q_max2]
  congr 3
  by_cases hn : (j : Int) > i
  · rw [if_pos hn]; omega
  · rw [if_neg hn]; omega
theorem sub_nt {fa fb : Ev} {r r1 r2 : Rho} {i j : Nat} (h1 : fa r = .ok (.val (nt i)) r1) (h2 : fb r1 = .ok (.val (nt j)) r2) (h : j ≤ i) : cBin VL.gSub fa fb r = .ok (.val (nt (i - j))) r2 := by
  have e := sub_ok h1 h2
  rw [show (i : Int) - (j : Int) = ((i - j : Nat) : Int) by omega] at e
  exact e
theorem emod_nt (z : Int) (m : Nat) (hm : 1 ≤ m) : ∃ q : Nat, z % (m : Int) = (q : Int) ∧ q < m := by
  have h1 := Int.emod_nonneg z (show (m : Int) ≠ 0 by omega)
  have h2 := Int.emod_lt_of_pos z (show (0 : Int) < (m : Int) by omega)
  exact ⟨(z % (m : Int)).toNat, by omega, by omega⟩
theorem aug_nt {r r1 : Rho} {i a b : Nat} {fa : Ev} (h : r[i]? = some (some (nt a))) (h2 : fa r = .ok (.val (nt b)) r1) : cAug i (g2 iAdd) fa r = .nx (r1.set i (some (nt (a + b)))) := by
  rw [q_aug, h]
  show (if true = true then (fa r).st fun y r1 => (g2 iAdd (.val (nt a)) y r1).st fun z r2 => match z with
    | .val d' => SO.nx (r2.set i (some d'))
    | .loc _ => .bad else .bad) = _
  rw [h2]
  rfl
theorem mul_nt {fa fb : Ev} {r r1 r2 : Rho} {i j : Nat} (h1 : fa r = .ok (.val (nt i)) r1) (h2 : fb r1 = .ok (.val (nt j)) r2) (hi : i < 1000000) : cBin gMul fa fb r = .ok (.val (nt (i * j))) r2 := by
  have e := mul_ok h1 h2 (mulOk_l (by omega))
  rw [← Int.natCast_mul] at e
  exact e
theorem pickn {fa fk : Ev} {r r1 : Rho} {xs : List Nat} {k : Nat} (h : fa r = .ok (.val (L true xs)) r) (hk : fk r = .ok (.val (nt k)) r1) (hl : k < xs.length) : cBin gIx fa fk r = .ok (.val (nt xs[k])) r1 := by
  have h' : fa r = .ok (.val (.node .lst true ((xs.map fun x => ((x : Nat) : Int)).map .int))) r := by
    rw [h, L, List.map_map]; rfl
  have e := ixd_ok (n := k) h' hk (by simpa using hl)
  rw [e]
  simp
end K37

namespace K37
open PySem PySem.Spec PyProof.Rows L2 VL
/-! ### the plain law: what a symbol stands for -/
theorem base_ex : ∃ b : List (List Nat), b.length = 256 ∧ ∀ s, s < 256 → b.getD s [] = [s] :=
  ⟨(List.range 256).map fun i => [i], by rw [List.length_map, List.length_range], fun s h => by
    rw [List.getD_eq_getElem?_getD, List.getElem?_map, List.getElem?_range h]; rfl⟩
noncomputable def base : List (List Nat) := Classical.choose base_ex
theorem base_len : base.length = 256 := (Classical.choose_spec base_ex).1
theorem base_at {s : Nat} (h : s < 256) : base.getD s [] = [s] := (Classical.choose_spec base_ex).2 s h
def put (t : List (List Nat)) (p : Nat × Nat) : List (List Nat) := t ++ [t.getD p.1 [] ++ t.getD p.2 []]
theorem put_len (t : List (List Nat)) (p : Nat × Nat) : (put t p).length = t.length + 1 := by unfold put; rw [List.length_append]; rfl
theorem put_lo {t : List (List Nat)} {p : Nat × Nat} {s : Nat} (h : s < t.length) : (put t p).getD s [] = t.getD s [] := by
  unfold put
  generalize t.getD p.1 [] ++ t.getD p.2 [] = e
  rw [List.getD_eq_getElem?_getD, List.getElem?_append_left h, ← List.getD_eq_getElem?_getD]
theorem put_hi (t : List (List Nat)) (p : Nat × Nat) : (put t p).getD t.length [] = t.getD p.1 [] ++ t.getD p.2 [] := by
  unfold put
  generalize t.getD p.1 [] ++ t.getD p.2 [] = e
  rw [List.getD_eq_getElem?_getD, List.getElem?_append_right (Nat.le_refl _), Nat.sub_self]
  rfl
noncomputable def tbs (rs : List (Nat × Nat)) : List (List Nat) := rs.foldl put base
noncomputable def ex (rs : List (Nat × Nat)) (s : Nat) : List Nat := (tbs rs).getD s []
theorem fold_len : ∀ (rs : List (Nat × Nat)) (t : List (List Nat)), (rs.foldl put t).length = t.length + rs.length
  | [], t => rfl
  | p :: rs, t => by rw [List.foldl_cons, fold_len rs, put_len, List.length_cons]; omega
theorem fold_lo : ∀ (rs : List (Nat × Nat)) (t : List (List Nat)) {s : Nat}, s < t.length → (rs.foldl put t).getD s [] = t.getD s []
  | [], t, s, _ => rfl
  | p :: rs, t, s, h => by rw [List.foldl_cons, fold_lo rs _ (by rw [put_len]; omega), put_lo h]
theorem tbs_len (rs : List (Nat × Nat)) : (tbs rs).length = 256 + rs.length := by unfold tbs; rw [fold_len, base_len]
theorem tbs_snoc (rs : List (Nat × Nat)) (p : Nat × Nat) : tbs (rs ++ [p]) = tbs rs ++ [ex rs p.1 ++ ex rs p.2] := by
  unfold tbs
  rw [List.foldl_append]
  rfl
theorem ex_lo (rs : List (Nat × Nat)) {s : Nat} (h : s < 256) : ex rs s = [s] := by
  unfold ex tbs
  rw [fold_lo _ _ (by rw [base_len]; exact h), base_at h]
theorem ex_app (rs qs : List (Nat × Nat)) {s : Nat} (h : s < 256 + rs.length) : ex (rs ++ qs) s = ex rs s := by
  unfold ex tbs
  rw [List.foldl_append]
  exact fold_lo _ _ (by have := tbs_len rs; unfold tbs at this; omega)
theorem ex_new (rs : List (Nat × Nat)) (p : Nat × Nat) : ex (rs ++ [p]) (256 + rs.length) = ex rs p.1 ++ ex rs p.2 := by
  have e : tbs (rs ++ [p]) = put (tbs rs) p := by unfold tbs; rw [List.foldl_append]; rfl
  show (tbs (rs ++ [p])).getD _ [] = _
  rw [e, ← tbs_len rs, put_hi]
  rfl
def Vd (rs : List (Nat × Nat)) : Prop := ∀ k (h : k < rs.length), (rs[k]).1 < 256 + k ∧ (rs[k]).2 < 256 + k
theorem Vd.nil : Vd [] := fun k h => absurd h (Nat.not_lt_zero _)
theorem Vd.snoc {rs : List (Nat × Nat)} (hv : Vd rs) {a b : Nat} (ha : a < 256 + rs.length) (hb : b < 256 + rs.length) : Vd (rs ++ [(a, b)]) := fun k h => by
  rw [List.length_append, List.length_singleton] at h
  by_cases hk : k < rs.length
  · rw [List.getElem_append_left hk]; exact hv k hk
  · have e : k = rs.length := by omega
    subst e
    rw [List.getElem_append_right (Nat.le_refl _)]
    simp only [Nat.sub_self, List.getElem_cons_zero]
    exact ⟨ha, hb⟩
theorem Vd.left {rs qs : List (Nat × Nat)} (hv : Vd (rs ++ qs)) : Vd rs := fun k h => by
  have := hv k (by rw [List.length_append]; omega)
  rwa [List.getElem_append_left h] at this
theorem Vd.at {rs qs : List (Nat × Nat)} {p : Nat × Nat} (hv : Vd (rs ++ p :: qs)) : p.1 < 256 + rs.length ∧ p.2 < 256 + rs.length := by
  have := hv rs.length (by rw [List.length_append, List.length_cons]; omega)
  rw [List.getElem_append_right (Nat.le_refl _)] at this
  simp only [Nat.sub_self, List.getElem_cons_zero] at this
  exact this
theorem ex_hi {rs : List (Nat × Nat)} (hv : Vd rs) {k : Nat} (h : k < rs.length) : ex rs (256 + k) = ex rs (rs[k]).1 ++ ex rs (rs[k]).2 := by
  have v := hv k h
  obtain ⟨p, hp⟩ : ∃ p, rs[k] = p := ⟨_, rfl⟩
  have e : rs = rs.take k ++ [p] ++ rs.drop (k + 1) := by
    rw [← hp, List.append_assoc, List.singleton_append, List.getElem_cons_drop, List.take_append_drop]
  have hl : (rs.take k).length = k := by rw [List.length_take]; omega
  rw [hp] at v ⊢
  clear hp h hv
  generalize rs.take k = as at e hl
  generalize rs.drop (k + 1) = bs at e
  subst e
  subst hl
  rw [ex_app (as ++ [p]) bs (by rw [List.length_append, List.length_singleton]; omega), ex_new, List.append_assoc, ex_app as _ v.1, ex_app as _ v.2]
theorem ex_ne {rs : List (Nat × Nat)} (hv : Vd rs) : ∀ (n s : Nat), s ≤ n → s < 256 + rs.length → ex rs s ≠ []
  | 0, s, hn, _ => by rw [ex_lo rs (by omega)]; exact fun h => by cases h
  | n + 1, s, hn, hs => by
    by_cases h : s < 256
    · rw [ex_lo rs h]; exact fun h => by cases h
    · have hk : s - 256 < rs.length := by omega
      have e := ex_hi hv hk
      rw [show 256 + (s - 256) = s by omega] at e
      rw [e]
      have v := hv (s - 256) hk
      have := ex_ne hv n (rs[s - 256]).1 (by omega) (by omega)
      intro h2
      exact this (List.append_eq_nil_iff.mp h2).1
theorem ex_pos {rs : List (Nat × Nat)} (hv : Vd rs) {s : Nat} (hs : s < 256 + rs.length) : 1 ≤ (ex rs s).length := List.length_pos_iff.mpr (ex_ne hv s s (Nat.le_refl _) hs)
abbrev pn (p : Nat × Nat) : D := .node .tup false [nt p.1, nt p.2]
abbrev RS (o : Bool) (rs : List (Nat × Nat)) : D := .node .lst o (rs.map pn)
theorem frzs_pn (rs : List (Nat × Nat)) : frzs (rs.map pn) = rs.map pn := by
  rw [frzs_map, List.map_map]
  exact List.map_congr_left fun _ _ => rfl
theorem frz_RS (o : Bool) (rs : List (Nat × Nat)) : frz (RS o rs) = RS false rs := frz_lst (frzs_pn rs)
theorem frz_L (o : Bool) (ks : List Nat) : frz (L o ks) = L false ks := frz_lst (frzs_nt ks)
noncomputable def szs (rs : List (Nat × Nat)) : List Int := (tbs rs).map fun x => ((x.length : Nat) : Int)
theorem szs_len (rs : List (Nat × Nat)) : (szs rs).length = 256 + rs.length := by unfold szs; rw [List.length_map, tbs_len]
theorem szs_at (rs : List (Nat × Nat)) (s : Nat) (h : s < 256 + rs.length) : (szs rs).getD s 0 = (((ex rs s).length : Nat) : Int) := by
  unfold szs ex
  rw [List.getD_eq_getElem?_getD, List.getD_eq_getElem?_getD, List.getElem?_map, List.getElem?_eq_getElem (by rw [tbs_len]; exact h)]
  rfl
theorem szs_nil : szs [] = List.replicate 256 1 := by
  refine List.ext_getElem (by rw [szs_len, List.length_replicate]; rfl) fun i h1 h2 => ?_
  have hi : i < 256 := by rw [List.length_replicate] at h2; exact h2
  have e := szs_at [] i (by simpa using hi)
  rw [ex_lo [] hi, List.getD_eq_getElem?_getD, List.getElem?_eq_getElem h1] at e
  rw [List.getElem_replicate]
  exact e
theorem szs_snoc (rs : List (Nat × Nat)) (p : Nat × Nat) : szs (rs ++ [p]) = szs rs ++ [(((ex rs p.1).length : Nat) : Int) + (((ex rs p.2).length : Nat) : Int)] := by
  unfold szs
  rw [tbs_snoc, List.map_append, List.map_singleton, List.length_append, Int.natCast_add]
noncomputable abbrev bodyS : Sv := (cExpr (cApp 1 (cBin gAdd (cBin gIx (cVar 1) (cVar 2)) (cBin gIx (cVar 1) (cVar 3)))))
theorem s_loop (N : D) : ∀ (qs rs : List (Nat × Nat)) (u v : Option D), Vd (rs ++ qs) → rs.length + qs.length < 1000000 → ∃ u' v', forL (.tp [2, 3]) bodyS (qs.map pn) [some N, some (I true (szs rs)), u, v] = .nx [some N, some (I true (szs (rs ++ qs))), u', v']
  | [], rs, u, v, _, _ => ⟨u, v, by rw [List.append_nil]; rfl⟩
  | p :: qs, rs, u, v, hv, hl => by
    have e0 : rs ++ p :: qs = rs ++ [p] ++ qs := by rw [List.append_assoc]; rfl
    have w := hv.at
    rw [List.length_cons] at hl
    rw [e0] at hv ⊢
    obtain ⟨u', v', e⟩ := s_loop N qs (rs ++ [p]) (some (nt p.1)) (some (nt p.2)) hv (by rw [List.length_append, List.length_singleton]; omega)
    have i1 := ix_get (r := [some N, some (I true (szs rs)), some (nt p.1), some (nt p.2)]) (i := 1) (fa := cVar 2) (o := true) (xs := szs rs) (n := p.1) rfl (cvar_at rfl rfl) (by rw [szs_len]; exact w.1)
    have i2 := ix_get (r := [some N, some (I true (szs rs)), some (nt p.1), some (nt p.2)]) (i := 1) (fa := cVar 3) (o := true) (xs := szs rs) (n := p.2) rfl (cvar_at rfl rfl) (by rw [szs_len]; exact w.2)
    rw [szs_at rs p.1 w.1] at i1
    rw [szs_at rs p.2 w.2] at i2
    have a := appI (r := [some N, some (I true (szs rs)), some (nt p.1), some (nt p.2)]) (i := 1) (xs := szs rs) rfl (add_ok i1 i2) rfl (by rw [szs_len]; omega)
    rw [← szs_snoc] at a
    rw [List.map_cons]
    exact ⟨u', v', (forL_cons (r1 := [some N, some (I true (szs rs)), some (nt p.1), some (nt p.2)]) rfl a).trans e⟩
theorem sizes_ok {rs : List (Nat × Nat)} (hv : Vd rs) (hl : rs.length < 1000000) : F_sizes_of [RS false rs] = .ok (I true (szs rs)) := by
  have s1 : cAsg (.nm 1) (cBin gMul (cLst (cCons (cSet (cC (.int 1))) cNil)) (cC (.int 256))) (startR 4 [RS false rs]) = .nx [some (RS false rs), some (I true (szs [])), none, none] := by
    refine asg_ok (r1 := startR 4 [RS false rs]) (i := 1) (d := I true (szs [])) (bin_ok (fa := cLst (cCons (cSet (cC (.int 1))) cNil)) (fb := cC (.int 256)) (r := startR 4 [RS false rs]) (r1 := startR 4 [RS false rs]) (r2 := startR 4 [RS false rs]) (x := .val (.node .lst true ([1].map D.int))) (y := .val (.int 256)) rfl rfl ?_)
    rw [q_mulLI [1] ⟨by decide, by decide, by decide⟩, szs_nil]
    congr 4
  have it := it_lst (r := [some (RS false rs), some (I true (szs [])), none, none]) (i := 0) rfl (frzs_pn rs)
  obtain ⟨u, v, e⟩ := s_loop (RS false rs) rs [] none none (by rw [List.nil_append]; exact hv) (by simpa using hl)
  rw [List.nil_append] at e
  exact runF_ok (n := 4) (x := .loc 1) ((seq_nx s1).trans ((seq_nx (for_ok it e)).trans rfl)) rfl
noncomputable def tx (rs : List (Nat × Nat)) (row : List Nat) : List Nat := row.flatMap (ex rs)
theorem tx_len (rs : List (Nat × Nat)) (row : List Nat) : (tx rs row).length = (row.map fun s => (ex rs s).length).sum := by unfold tx; rw [List.length_flatMap]
theorem length_ok {rs : List (Nat × Nat)} {row : List Nat} (hv : Vd rs) (hl : rs.length < 1000000) (hr : ∀ s ∈ row, s < 256 + rs.length) (hrl : row.length < 1000000) : F_length_by [RS false rs, L false row] = .ok (nt (tx rs row).length) := by
  have s1 : cAsg (.nm 2) (cCall 1 F_sizes_of (cCons (cVar 0) cNil)) (startR 4 [RS false rs, L false row]) = .nx [some (RS false rs), some (L false row), some (I true (szs rs)), none] :=
    asg_ok (i := 2) (call_vals (ds := [RS false rs]) (r := startR 4 [RS false rs, L false row]) (cons_ok (x := .loc 0) (cvar_loc rfl rfl) (nil_ok _)) rfl rfl (by
      show [some (frz (RS false rs)), some (L false row), none, none] = _
      rw [frz_RS]; rfl) (by
      show F_sizes_of [frz (RS false rs)] = _
      rw [frz_RS]; exact sizes_ok hv hl))
  have it := it_lst (r := [some (RS false rs), some (L false row), some (I true (szs rs)), none]) (i := 1) rfl (frzs_nt row)
  have l := lc_all (enc := nt) (g := fun s => nt (ex rs s).length) (t := .nm 3) (fe := cBin gIx (cVar 2) (cVar 3)) (vs := [3]) (r0 := [some (RS false rs), some (L false row), some (I true (szs rs)), none]) row it rfl (by omega) fun s hs => by
    have i := ix_get (r := [some (RS false rs), some (L false row), some (I true (szs rs)), some (nt s)]) (i := 2) (fa := cVar 3) (o := true) (xs := szs rs) (n := s) rfl (cvar_at rfl rfl) (by rw [szs_len]; exact hr s hs)
    rw [szs_at rs s (hr s hs)] at i
    exact ⟨[some (RS false rs), some (L false row), some (I true (szs rs)), some (nt s)], rfl, _, set_val i, rfl⟩
  have b : cB (b1 sumD) (cCons (cLc [3] (.nm 3) (iLst (cVar 1)) none (cBin gIx (cVar 2) (cVar 3))) cNil) [some (RS false rs), some (L false row), some (I true (szs rs)), none] = .ok (.val (nt (tx rs row).length)) [some (RS false rs), some (L false row), some (I true (szs rs)), none] := by
    refine b1_ok l rfl ?_ rfl
    have e1 : (row.map fun s => nt (ex rs s).length) = (row.map fun s => (((ex rs s).length : Nat) : Int)).map D.int := by rw [List.map_map]; rfl
    rw [e1]
    show (intsOf ((row.map fun s => (((ex rs s).length : Nat) : Int)).map D.int)).map _ = _
    rw [intsOf_map]
    show some (D.int _) = some (D.int _)
    rw [tx_len]
    congr 2
    clear e1 l it s1 hr hrl
    induction row with
    | nil => rfl
    | cons p ps ih => simp at ih ⊢; omega
  exact runF_ok (n := 4) (x := .val (nt (tx rs row).length)) ((seq_nx s1).trans (ret_ok b)) rfl
end K37

namespace K37
open PySem PySem.Spec PyProof.Rows L2 VL
theorem seq_exc {f g : Sv} {r r1 : Rho} {c : Nat} (h : f r = .exc c r1) : cSeq f g r = .exc c r1 := by
  rw [q_seq, h]; rfl
theorem sym_ok {s k : Nat} (h : s < 256 + k) : F_is_symbol [nt s, nt k] = .ok (.bl true) := by
  have g1 := ge_ok (r := [some (nt s), some (nt k)]) (fa := cVar 0) (fb := cC (.int 0)) (i := (s : Nat)) (j := 0) rfl rfl
  have a1 := add_ok (r := [some (nt s), some (nt k)]) (fa := cC (.int 256)) (fb := cVar 1) (i := 256) (j := (k : Nat)) rfl rfl
  have g2 := lt_ok (r := [some (nt s), some (nt k)]) (fa := cVar 0) (i := (s : Nat)) rfl a1
  rw [decide_eq_true (by omega)] at g1 g2
  exact runF_ok (n := 2) (f := f_is_symbol) (ret_ok (and_yes (r := [some (nt s), some (nt k)]) rfl (and_yes (not_ok (b := false) rfl) (and_yes g1 g2)))) rfl
theorem enumD_cons (n : Nat) (d : D) (ds : List D) : enumD n (d :: ds) = .node .tup false [nt n, d] :: enumD (n + 1) ds := rfl
theorem all_true {α : Type} (xs : List α) {fa : Ev} {r r1 : Rho} {o : Bool} (h : fa r = .ok (.val (.node .lst o (xs.map fun _ => D.bl true))) r1) : cTru (cB (b1 allD) (cCons fa cNil)) r = .ok (.val (.bl true)) r1 := by
  have e : (xs.map fun _ => D.bl true) = (xs.map fun _ => true).map D.bl := by rw [List.map_map]; rfl
  rw [e] at h
  have b := all_bl (xs.map fun _ => true) h
  rw [b, List.all_map]
  congr 3
  rw [List.all_eq_true]
  exact fun _ _ => rfl
noncomputable abbrev bodyN : Sv := (cIfS (cOr (cNot (cB (gIsi (etab tab)) (cCons (cVar 3) (cCons (cC (.ty "tuple")) cNil)))) (cOr (cBin gNe (cB (b1 lenD) (cCons (cVar 3) cNil)) (cC (.int 2))) (cNot (cTru (cB (b1 allD) (cCons (cLc [4] (.nm 4) (iTpl (cVar 3)) none (cCall 2 F_is_symbol (cCons (cVar 4) (cCons (cVar 2) cNil)))) cNil)))))) (cRaise 4) cSkip)
abbrev N5 (A B : D) (k : Nat) (p : Nat × Nat) : Rho := [some A, some B, some (nt k), some (pn p), none]
theorem n_step (A B : D) (k : Nat) (p : Nat × Nat) (h1 : p.1 < 256 + k) (h2 : p.2 < 256 + k) : bodyN (N5 A B k p) = .nx (N5 A B k p) := by
  have it : iTpl (cVar 3) (N5 A B k p) = .ok ([p.1, p.2].map nt) (N5 A B k p) := rfl
  have l := lc_all (enc := nt) (g := fun _ => D.bl true) (t := .nm 4) (fe := cCall 2 F_is_symbol (cCons (cVar 4) (cCons (cVar 2) cNil))) (vs := [4]) (r0 := N5 A B k p) [p.1, p.2] it rfl (show 2 < 16777216 by decide) fun s hs => by
    have hs2 : s < 256 + k := by
      simp at hs
      omega
    exact ⟨[some A, some B, some (nt k), some (pn p), some (nt s)], rfl, [some A, some B, some (nt k), some (pn p), some (nt s)], set_val (call_noL (ds := [nt s, nt k]) (cons_ok (x := .val (nt s)) (cvar_at rfl rfl) (cons_ok (x := .val (nt k)) (cvar_at rfl rfl) (nil_ok _))) rfl rfl rfl (sym_ok hs2)), rfl⟩
  have a := all_true [p.1, p.2] l
  have i1 : cB (gIsi (etab tab)) (cCons (cVar 3) (cCons (cC (.ty "tuple")) cNil)) (N5 A B k p) = .ok (.val (.bl true)) (N5 A B k p) := rfl
  have n1 : cBin gNe (cB (b1 lenD) (cCons (cVar 3) cNil)) (cC (.int 2)) (N5 A B k p) = .ok (.val (.bl false)) (N5 A B k p) := ne_ok (i := 2) (j := 2) (r := N5 A B k p) rfl rfl
  exact guard_no (or_no (not_ok i1) (or_no n1 (not_ok a)))
theorem n_loop (A B : D) : ∀ (qs rs : List (Nat × Nat)) (u v : Option D), Vd (rs ++ qs) → ∃ u' v', forL (.tp [2, 3]) bodyN (enumD rs.length (qs.map pn)) [some A, some B, u, v, none] = .nx [some A, some B, u', v', none]
  | [], rs, u, v, _ => ⟨u, v, rfl⟩
  | p :: qs, rs, u, v, hv => by
    have e0 : rs ++ p :: qs = rs ++ [p] ++ qs := by rw [List.append_assoc]; rfl
    have w := hv.at
    rw [e0] at hv
    obtain ⟨u', v', e⟩ := n_loop A B qs (rs ++ [p]) (some (nt rs.length)) (some (pn p)) hv
    rw [List.length_append, List.length_singleton] at e
    rw [List.map_cons, enumD_cons]
    exact ⟨u', v', (forL_cons (r1 := N5 A B rs.length p) rfl (n_step A B rs.length p w.1 w.2)).trans e⟩
theorem need_ok {rs : List (Nat × Nat)} {row : List Nat} (hv : Vd rs) (hl : rs.length < 1000000) (hr : ∀ s ∈ row, s < 256 + rs.length) (hrl : row.length < 1000000) : F_need_grammar [RS false rs, L false row] = .ok .non := by
  obtain ⟨u, v, e⟩ := n_loop (RS false rs) (L false row) rs [] none none (by rw [List.nil_append]; exact hv)
  have it : iRng gEn (cCons (cSet (cVar 0)) cNil) (startR 5 [RS false rs, L false row]) = .ok (enumD 0 (rs.map pn)) [some (RS false rs), some (L false row), none, none, none] := by
    have h := set_loc (r := startR 5 [RS false rs, L false row]) (i := 0) (o := false) (ds := rs.map pn) rfl (frzs_pn rs)
    rw [q_iRng, cons_ok h (nil_ok _)]
    show IO.ok (enumD 0 (frzs (rs.map pn))) _ = _
    rw [frzs_pn]
    rfl
  have it2 := it_lst (r := [some (RS false rs), some (L false row), u, v, none]) (i := 1) rfl (frzs_nt row)
  have l := lc_all (enc := nt) (g := fun _ => D.bl true) (t := .nm 4) (fe := cCall 2 F_is_symbol (cCons (cVar 4) (cCons (cB (b1 lenD) (cCons (cVar 0) cNil)) cNil))) (vs := [4]) (r0 := [some (RS false rs), some (L false row), u, v, none]) row it2 rfl (by omega) fun s hs => by
    have ln := len_at (r := [some (RS false rs), some (L false row), u, v, some (nt s)]) (i := 0) (k := .lst) (o := false) (xs := rs.map pn) rfl (.inl rfl)
    rw [List.length_map] at ln
    exact ⟨[some (RS false rs), some (L false row), u, v, some (nt s)], rfl, [some (RS false rs), some (L false row), u, v, some (nt s)], set_val (call_noL (ds := [nt s, nt rs.length]) (cons_ok (x := .val (nt s)) (cvar_at rfl rfl) (cons_ok ln (nil_ok _))) rfl rfl rfl (sym_ok (hr s hs))), rfl⟩
  have g := guard_no (f := cRaise 4) (not_ok (all_true row l))
  have fin : f_need_grammar (startR 5 [RS false rs, L false row]) = .nx _ := (seq_nx (for_ok it e)).trans g
  unfold F_need_grammar runF
  rw [fin]
/-! ### the signs -/
theorem tx_cons (rs : List (Nat × Nat)) (s : Nat) (w : List Nat) : tx rs (s :: w) = ex rs s ++ tx rs w := by unfold tx; rw [List.flatMap_cons]
theorem tx_ge {rs : List (Nat × Nat)} (hv : Vd rs) : ∀ w : List Nat, (∀ s ∈ w, s < 256 + rs.length) → w.length ≤ (tx rs w).length
  | [], _ => Nat.zero_le _
  | s :: w, h => by
    have := ex_pos hv (h s List.mem_cons_self)
    have := tx_ge hv w fun x hx => h x (List.mem_cons_of_mem _ hx)
    rw [tx_cons, List.length_append, List.length_cons]
    omega
noncomputable abbrev condW : Ev := (cBin gLt (cB (b1 lenD) (cCons (cVar 5) cNil)) (cVar 3))
noncomputable abbrev bodyW : Sv := (cSeq (cAsg (.nm 7) (cPop 6))
  (cIfS (cBin gLe (cBin gIx (cVar 4) (cVar 7)) (cVar 2)) (cAug 2 gSub (cBin gIx (cVar 4) (cVar 7))) (cIfS (cBin gLt (cVar 7) (cC (.int 256))) (cExpr (cApp 5 (cVar 7))) (cExpr (cExt 6 (cLRev (cBin gIx (cVar 0) (cBin gSub (cVar 7) (cC (.int 256))))))))))
noncomputable abbrev S8 (rs : List (Nat × Nat)) (B : D) (m : Nat) (f w : List Nat) (u : Option D) : Rho := [some (RS false rs), some B, some (.int 0), some (nt m), some (I true (szs rs)), some (L true f), some (L true w), u]
theorem w_pre {rs : List (Nat × Nat)} (hv : Vd rs) (B : D) (m : Nat) (f w : List Nat) (s : Nat) (u : Option D) (hs : s < 256 + rs.length) {o : SO} (h : (cIfS (cBin gLt (cVar 7) (cC (.int 256))) (cExpr (cApp 5 (cVar 7))) (cExpr (cExt 6 (cLRev (cBin gIx (cVar 0) (cBin gSub (cVar 7) (cC (.int 256)))))))) (S8 rs B m f w (some (nt s))) = o) : bodyW (S8 rs B m f (w ++ [s]) u) = o := by
  have p := pop_fz (r := S8 rs B m f (w ++ [s]) u) (i := 6) (xs := w.map nt) (d := nt s) (by
    show some (some (L true (w ++ [s]))) = _
    rw [L, List.map_append]; rfl) (by rw [show w.map nt ++ [nt s] = (w ++ [s]).map nt by rw [List.map_append]; rfl]; exact frzs_nt _)
  have s1 := asg_ok (i := 7) p
  refine (seq_nx s1).trans ?_
  have i := ix_get (r := S8 rs B m f w (some (nt s))) (i := 4) (fa := cVar 7) (o := true) (xs := szs rs) (n := s) rfl (cvar_at rfl rfl) (by rw [szs_len]; exact hs)
  rw [szs_at rs s hs] at i
  have c := le_ok (j := 0) i (cvar_at (i := 2) (d := .int 0) rfl rfl)
  have := ex_pos hv hs
  rw [decide_eq_false (by omega)] at c
  exact ifs_ok c h
theorem w_one {rs : List (Nat × Nat)} (hv : Vd rs) (B : D) (m : Nat) (f w : List Nat) (s : Nat) (u : Option D) (hs : s < 256) (hf : f.length < 1000000) : bodyW (S8 rs B m f (w ++ [s]) u) = .nx (S8 rs B m (f ++ [s]) w (some (nt s))) := by
  refine w_pre hv B m f w s u (by omega) ?_
  have c := lt_ok (r := S8 rs B m f w (some (nt s))) (fa := cVar 7) (fb := cC (.int 256)) (i := (s : Nat)) (j := 256) rfl rfl
  rw [decide_eq_true (by omega)] at c
  refine ifs_ok c ?_
  have a := app_ok (r := S8 rs B m f w (some (nt s))) (i := 5) (fa := cVar 7) (d := nt s) (ds := f.map nt) rfl (cvar_at rfl rfl) rfl (by rw [List.length_map]; omega)
  rw [if_pos rfl, a, show f.map nt ++ [nt s] = (f ++ [s]).map nt by rw [List.map_append]; rfl]
  rfl
theorem w_two {rs : List (Nat × Nat)} (hv : Vd rs) (B : D) (m : Nat) (f w : List Nat) (s : Nat) (u : Option D) (hs : 256 ≤ s) (h : s - 256 < rs.length) (hw : w.length < 1000000) : bodyW (S8 rs B m f (w ++ [s]) u) = .nx (S8 rs B m f (w ++ [(rs[s - 256]).2, (rs[s - 256]).1]) (some (nt s))) := by
  refine w_pre hv B m f w s u (by omega) ?_
  have c := lt_ok (r := S8 rs B m f w (some (nt s))) (fa := cVar 7) (fb := cC (.int 256)) (i := (s : Nat)) (j := 256) rfl rfl
  rw [decide_eq_false (by omega)] at c
  refine ifs_ok c ?_
  rw [if_neg Bool.false_ne_true]
  have sb := sub_ok (r := S8 rs B m f w (some (nt s))) (fa := cVar 7) (fb := cC (.int 256)) (i := (s : Nat)) (j := 256) rfl rfl
  rw [show ((s : Nat) : Int) - 256 = ((s - 256 : Nat) : Int) by omega] at sb
  have at1 : atI (rs.map pn) ((s - 256 : Nat) : Int) = some (pn rs[s - 256]) := by
    rw [VL.atI_nat, List.getElem?_map, List.getElem?_eq_getElem h]; rfl
  have ix : cBin gIx (cVar 0) (cBin VL.gSub (cVar 7) (cC (.int 256))) (S8 rs B m f w (some (nt s))) = .ok (.val (pn rs[s - 256])) (S8 rs B m f w (some (nt s))) :=
    bin_ok (cvar_loc (i := 0) (d := RS false rs) rfl rfl) sb (ix_fz (o := false) (xs := rs.map pn) rfl (frzs_pn rs) at1 rfl)
  have lr := lrev_ok (k := .tup) (o := false) (xs := [nt (rs[s - 256]).1, nt (rs[s - 256]).2]) ix rfl (.inr (.inr ⟨rfl, fun h => by cases h⟩)) rfl rfl
  have x := ext_fz (r := S8 rs B m f w (some (nt s))) (i := 6) (o := true) (xs := w.map nt) (ys := [nt (rs[s - 256]).1, nt (rs[s - 256]).2].reverse) rfl (frzs_nt w) rfl (by rw [List.length_map]; show w.length + 2 ≤ _; omega)
  rw [q_expr]
  show EO.st ((cLRev (cBin gIx (cVar 0) (cBin VL.gSub (cVar 7) (cC (.int 256)))) (S8 rs B m f w (some (nt s)))).bd (extK 6)) _ = _
  rw [lr, bd_ok, x, show w.map nt ++ [nt (rs[s - 256]).1, nt (rs[s - 256]).2].reverse = (w ++ [(rs[s - 256]).2, (rs[s - 256]).1]).map nt by rw [List.map_append]; rfl]
  rfl
theorem c_ok (rs : List (Nat × Nat)) (B : D) (m : Nat) (f w : List Nat) (u : Option D) : condW (S8 rs B m f w u) = .ok (.val (.bl (decide (f.length < m)))) (S8 rs B m f w u) := by
  have ln := len_at (r := S8 rs B m f w u) (i := 5) (k := .lst) (o := true) (xs := f.map nt) rfl (.inl rfl)
  rw [List.length_map] at ln
  exact lt_nt ln (cvar_at rfl rfl)
theorem w_loop {rs : List (Nat × Nat)} (hv : Vd rs) (B : D) (T : List Nat) (hT : T.length < 10000) : ∀ (t n : Nat) (f w : List Nat) (u : Option D), t < n → (∀ s ∈ w, s < 256 + rs.length) → f ++ tx rs w.reverse = T → 2 * (tx rs w.reverse).length ≤ t + w.length →
    ∃ w' u', whileL condW bodyW n (S8 rs B T.length f w u) = .nx (S8 rs B T.length T w' u')
  | t, 0, f, w, u, h, _, _, _ => absurd h (Nat.not_lt_zero _)
  | t, n + 1, f, w, u, hn, hw, e, ht => by
    have c := c_ok rs B T.length f w u
    have ge := tx_ge hv w.reverse fun s hs => hw s (List.mem_reverse.mp hs)
    rw [List.length_reverse] at ge
    have el := congrArg List.length e
    rw [List.length_append] at el
    by_cases hf : f.length < T.length
    · rw [decide_eq_true hf] at c
      have hwn : w ≠ [] := fun z => by subst z; simp [tx] at el; omega
      obtain ⟨w0, s, rfl⟩ : ∃ w0 s, w = w0 ++ [s] := ⟨w.dropLast, w.getLast hwn, (List.dropLast_concat_getLast hwn).symm⟩
      have hs := hw s (by simp)
      have hw0 : ∀ x ∈ w0, x < 256 + rs.length := fun x hx => hw x (List.mem_append_left _ hx)
      rw [List.reverse_append, List.reverse_singleton, List.singleton_append, tx_cons] at e ht ge el
      simp only [List.length_append, List.length_singleton] at ht ge el
      have p := ex_pos hv hs
      match t, hn, ht with
      | 0, _, ht => omega
      | t + 1, hn, ht =>
      by_cases h2 : s < 256
      · have es := ex_lo rs h2
        rw [es] at e ht
        rw [List.length_singleton] at ht
        obtain ⟨w', u', e2⟩ := w_loop hv B T hT t n (f ++ [s]) w0 (some (nt s)) (by omega) hw0 (by rw [List.append_assoc]; exact e) (by omega)
        exact ⟨w', u', (wh_go c (w_one hv B T.length f w0 s u h2 (by omega))).trans e2⟩
      · have hk : s - 256 < rs.length := by omega
        have es := ex_hi hv hk
        rw [show 256 + (s - 256) = s by omega] at es
        have v := hv (s - 256) hk
        have rv : (w0 ++ [(rs[s - 256]).2, (rs[s - 256]).1]).reverse = (rs[s - 256]).1 :: (rs[s - 256]).2 :: w0.reverse := by rw [List.reverse_append]; rfl
        have tr : tx rs (w0 ++ [(rs[s - 256]).2, (rs[s - 256]).1]).reverse = ex rs s ++ tx rs w0.reverse := by rw [rv, tx_cons, tx_cons, es, List.append_assoc]
        obtain ⟨w', u', e2⟩ := w_loop hv B T hT t n f (w0 ++ [(rs[s - 256]).2, (rs[s - 256]).1]) (some (nt s)) (by omega) (fun x hx => by
          rcases List.mem_append.mp hx with hx | hx
          · exact hw0 x hx
          · simp at hx
            rcases hx with hx | hx <;> subst hx <;> omega) (by rw [tr]; exact e) (by rw [tr, List.length_append, List.length_append]; simp only [List.length_cons, List.length_nil]; omega)
        exact ⟨w', u', (wh_go c (w_two hv B T.length f w0 s u (by omega) hk (by omega))).trans e2⟩
    · rw [decide_eq_false hf] at c
      have e0 : tx rs w.reverse = [] := List.length_eq_zero_iff.mp (by omega)
      rw [e0, List.append_nil] at e
      subst e
      exact ⟨w, u, wh_no c⟩
theorem signs_ok {rs : List (Nat × Nat)} {row : List Nat} (hv : Vd rs) (hl : rs.length < 1000000) (hr : ∀ s ∈ row, s < 256 + rs.length) (hT : (tx rs row).length ≤ 400) : F_signs_from [RS false rs, L false row, .int 0, nt (tx rs row).length] = .ok (L true (tx rs row)) := by
  have s1 : cAsg (.nm 4) (cCall 1 F_sizes_of (cCons (cVar 0) cNil)) (startR 8 [RS false rs, L false row, .int 0, nt (tx rs row).length]) = .nx [some (RS false rs), some (L false row), some (.int 0), some (nt (tx rs row).length), some (I true (szs rs)), none, none, none] :=
    asg_ok (i := 4) (call_vals (ds := [RS false rs]) (r := startR 8 [RS false rs, L false row, .int 0, nt (tx rs row).length]) (cons_ok (x := .loc 0) (cvar_loc rfl rfl) (nil_ok _)) rfl rfl (by
      show [some (frz (RS false rs)), some (L false row), some (.int 0), some (nt (tx rs row).length), none, none, none, none] = _
      rw [frz_RS]; rfl) (by
      show F_sizes_of [frz (RS false rs)] = _
      rw [frz_RS]; exact sizes_ok hv hl))
  have s2 : cAsg (.nm 5) (cLst cNil) [some (RS false rs), some (L false row), some (.int 0), some (nt (tx rs row).length), some (I true (szs rs)), none, none, none] = .nx [some (RS false rs), some (L false row), some (.int 0), some (nt (tx rs row).length), some (I true (szs rs)), some (L true []), none, none] := rfl
  have lr := lrev_ok (fa := cVar 1) (r := [some (RS false rs), some (L false row), some (.int 0), some (nt (tx rs row).length), some (I true (szs rs)), some (L true []), none, none]) (x := .loc 1) (k := .lst) (o := false) (xs := row.map nt) (cvar_loc rfl rfl) rfl (.inl rfl) (frzs_nt row) (touch_fz rfl (frzs_nt row))
  rw [← List.map_reverse] at lr
  have s3 : cAsg (.nm 6) (cLRev (cVar 1)) [some (RS false rs), some (L false row), some (.int 0), some (nt (tx rs row).length), some (I true (szs rs)), some (L true []), none, none] = .nx (S8 rs (L false row) (tx rs row).length [] row.reverse none) := asg_ok (i := 6) lr
  obtain ⟨w, u, e⟩ := w_loop hv (L false row) (tx rs row) (by omega) 1000 fuel [] row.reverse none (lt_fuel (by decide)) (fun s hs => hr s (List.mem_reverse.mp hs)) (by rw [List.reverse_reverse]; rfl) (by rw [List.reverse_reverse]; omega)
  exact runF_ok (n := 8) (x := .loc 5) ((seq_nx s1).trans ((seq_nx s2).trans ((seq_nx s3).trans ((seq_nx e).trans rfl)))) rfl
theorem text_pre {rs : List (Nat × Nat)} {row : List Nat} (hv : Vd rs) (hl : rs.length < 1000000) (hr : ∀ s ∈ row, s < 256 + rs.length) (hrl : row.length < 1000000) : ∀ o, (cSeq (cIfS (cBin gGt (cVar 2) (cC (.int 400))) (cRaise 4) cSkip)
  (cRet (cCall 4 F_signs_from (cCons (cVar 0) (cCons (cVar 1) (cCons (cC (.int 0)) (cCons (cVar 2) cNil))))))) [some (RS false rs), some (L false row), some (nt (tx rs row).length)] = o → f_grammar_text (startR 3 [RS false rs, L false row]) = o := fun o h => by
  have fs : ∀ r : Rho, r[0]? = some (some (RS false rs)) → r[1]? = some (some (L false row)) → cCons (cVar 0) (cCons (cVar 1) cNil) r = .ok [.loc 0, .loc 1] r := fun r h0 h1 => cons_ok (cvar_loc h0 rfl) (cons_ok (cvar_loc h1 rfl) (nil_ok _))
  have s1 : cExpr (cCall 2 F_need_grammar (cCons (cVar 0) (cCons (cVar 1) cNil))) (startR 3 [RS false rs, L false row]) = .nx [some (RS false rs), some (L false row), none] := by
    have c := call_noL (n := 2) (F := F_need_grammar) (d := .non) (ds := [RS false rs, L false row]) (fs (startR 3 [RS false rs, L false row]) rfl rfl) rfl rfl rfl (by
      show F_need_grammar [frz (RS false rs), frz (L false row)] = _
      rw [frz_RS, frz_L]; exact need_ok hv hl hr hrl)
    rw [q_expr, c]
    rfl
  have s2 : cAsg (.nm 2) (cCall 2 F_length_by (cCons (cVar 0) (cCons (cVar 1) cNil))) [some (RS false rs), some (L false row), none] = .nx [some (RS false rs), some (L false row), some (nt (tx rs row).length)] :=
    asg_ok (i := 2) (call_noL (n := 2) (F := F_length_by) (ds := [RS false rs, L false row]) (fs [some (RS false rs), some (L false row), none] rfl rfl) rfl rfl rfl (by
      show F_length_by [frz (RS false rs), frz (L false row)] = _
      rw [frz_RS, frz_L]; exact length_ok hv hl hr hrl))
  exact (seq_nx s1).trans ((seq_nx s2).trans h)
theorem text_no {rs : List (Nat × Nat)} {row : List Nat} (hv : Vd rs) (hl : rs.length < 1000000) (hr : ∀ s ∈ row, s < 256 + rs.length) (hrl : row.length < 1000000) (hT : 400 < (tx rs row).length) : F_grammar_text [RS false rs, L false row] = .exc 4 := by
  have c := gt_ok (r := [some (RS false rs), some (L false row), some (nt (tx rs row).length)]) (fa := cVar 2) (fb := cC (.int 400)) (i := ((tx rs row).length : Nat)) (j := 400) (cvar_at rfl rfl) rfl
  rw [decide_eq_true (by omega)] at c
  have g : cIfS (cBin gGt (cVar 2) (cC (.int 400))) (cRaise 4) cSkip [some (RS false rs), some (L false row), some (nt (tx rs row).length)] = .exc 4 [some (RS false rs), some (L false row), some (nt (tx rs row).length)] := ifs_ok c rfl
  have fin := text_pre hv hl hr hrl _ (seq_exc g)
  unfold F_grammar_text runF
  rw [fin]
theorem text_ok {rs : List (Nat × Nat)} {row : List Nat} (hv : Vd rs) (hl : rs.length < 1000000) (hr : ∀ s ∈ row, s < 256 + rs.length) (hrl : row.length < 1000000) (hT : (tx rs row).length ≤ 400) : F_grammar_text [RS false rs, L false row] = .ok (L true (tx rs row)) := by
  have c := gt_ok (r := [some (RS false rs), some (L false row), some (nt (tx rs row).length)]) (fa := cVar 2) (fb := cC (.int 400)) (i := ((tx rs row).length : Nat)) (j := 400) (cvar_at rfl rfl) rfl
  rw [decide_eq_false (by omega)] at c
  have g := guard_no (f := cRaise 4) c
  have r4 := call_vals (n := 4) (F := F_signs_from) (d := L true (tx rs row)) (ds := [RS false rs, L false row, .int 0, nt (tx rs row).length]) (r := [some (RS false rs), some (L false row), some (nt (tx rs row).length)]) (cons_ok (x := .loc 0) (cvar_loc rfl rfl) (cons_ok (x := .loc 1) (cvar_loc rfl rfl) (cons_ok (cc 0 _) (cons_ok (x := .val (nt (tx rs row).length)) (cvar_at (i := 2) (d := nt (tx rs row).length) rfl rfl) (nil_ok _))))) rfl rfl (by
      show [some (frz (RS false rs)), some (frz (L false row)), some (nt (tx rs row).length)] = _
      rw [frz_RS, frz_L]) (by
      show F_signs_from [frz (RS false rs), frz (L false row), .int 0, nt (tx rs row).length] = _
      rw [frz_RS, frz_L]; exact signs_ok hv hl hr hT)
  have fin := text_pre hv hl hr hrl _ ((seq_nx g).trans (ret_ok r4))
  exact runF_ok (n := 3) fin rfl
end K37

namespace K37
open PySem PySem.Spec PyProof.Rows L2 VL
/-! ### the text put in -/
theorem base_eq : base = (List.range 256).map fun k => [k] := by
  refine List.ext_getElem (by rw [base_len, List.length_map, List.length_range]) fun i h1 h2 => ?_
  have hi : i < 256 := by rw [List.length_map, List.length_range] at h2; exact h2
  have e := base_at hi
  rw [List.getD_eq_getElem?_getD, List.getElem?_eq_getElem h1] at e
  rw [List.getElem_map, List.getElem_range]
  exact e
theorem frzs_Ls (xs : List (List Nat)) : frzs (xs.map (L false)) = xs.map (L false) := by
  rw [frzs_map, List.map_map]
  exact List.map_congr_left fun x _ => frz_L false x
theorem gix_T {r : Rho} {i k : Nat} {ds : List D} {xs : List (List Nat)} (h : r[i]? = some (some (.node .lst true ds))) (hds : frzs ds = xs.map (L false)) (hk : k < xs.length) : gIx (.loc i) (.val (nt k)) r = .ok (.val (L false (xs.getD k []))) (r.set i (some (.node .lst true (xs.map (L false))))) := by
  have hl : ds.length = xs.length := by rw [← frzs_length ds, hds, List.length_map]
  have hd : ds[k]? = some (ds[k]'(by omega)) := List.getElem?_eq_getElem (by omega)
  generalize ds[k]'(by omega) = d at hd
  have fd : frz d = L false (xs.getD k []) := by
    have e := congrArg (fun l => l[k]?) hds
    simp only [frzs_map, List.getElem?_map, hd, Option.map_some] at e
    rw [List.getElem?_eq_getElem hk] at e
    rw [List.getD_eq_getElem?_getD, List.getElem?_eq_getElem hk]
    exact Option.some.inj e
  have at1 : atom d = false := by
    cases d with
    | node => rfl
    | _ => cases fd
  rw [q_ix, opd_loc' h]
  show (match atI ds ((k : Nat) : Int) with | some d => pick r (.loc i) d | none => .bad) = _
  rw [VL.atI_nat, hd]
  show (if atom d = true then EO.ok (.val d) r else .ok (.val (frz d)) (touch r (.loc i))) = _
  rw [at1, if_neg Bool.false_ne_true, fd, touch_lst h, hds]
noncomputable abbrev bodyA : Sv := (cExpr (cApp 2 (cBin gAdd (cBin gIx (cVar 2) (cVar 3)) (cBin gIx (cVar 2) (cVar 4)))))
noncomputable abbrev A8 (A B : D) (ds : List D) (u v f : Option D) (w : Option D) : Rho := [some A, some B, some (.node .lst true ds), u, v, f, w, none]
theorem a_step (A B : D) (ds : List D) (rs : List (Nat × Nat)) (p : Nat × Nat) (w : Option D) (hds : frzs ds = (tbs rs).map (L false)) (h1 : p.1 < 256 + rs.length) (h2 : p.2 < 256 + rs.length) (hz : (ex rs p.1).length + (ex rs p.2).length ≤ 1000000) (hl : rs.length < 1000000) :
    ∃ ds', bodyA (A8 A B ds (some (nt p.1)) (some (nt p.2)) none w) = .nx (A8 A B ds' (some (nt p.1)) (some (nt p.2)) none w) ∧ frzs ds' = (tbs (rs ++ [p])).map (L false) := by
  have i1 : cBin gIx (cVar 2) (cVar 3) (A8 A B ds (some (nt p.1)) (some (nt p.2)) none w) = .ok (.val (L false (ex rs p.1))) (A8 A B ((tbs rs).map (L false)) (some (nt p.1)) (some (nt p.2)) none w) :=
    bin_ok (cvar_loc (i := 2) rfl rfl) (cvar_at (i := 3) (d := nt p.1) rfl rfl) (gix_T (i := 2) rfl hds (by rw [tbs_len]; exact h1))
  have i2 : cBin gIx (cVar 2) (cVar 4) (A8 A B ((tbs rs).map (L false)) (some (nt p.1)) (some (nt p.2)) none w) = .ok (.val (L false (ex rs p.2))) (A8 A B ((tbs rs).map (L false)) (some (nt p.1)) (some (nt p.2)) none w) :=
    bin_ok (cvar_loc (i := 2) rfl rfl) (cvar_at (i := 4) (d := nt p.2) rfl rfl) (gix_T (i := 2) rfl (frzs_Ls _) (by rw [tbs_len]; exact h2))
  have a : cBin gAdd (cBin gIx (cVar 2) (cVar 3)) (cBin gIx (cVar 2) (cVar 4)) (A8 A B ds (some (nt p.1)) (some (nt p.2)) none w) = .ok (.val (L true (ex rs p.1 ++ ex rs p.2))) (A8 A B ((tbs rs).map (L false)) (some (nt p.1)) (some (nt p.2)) none w) := by
    have e := add_fz (r := A8 A B ((tbs rs).map (L false)) (some (nt p.1)) (some (nt p.2)) none w) (x := .val (L false (ex rs p.1))) (y := .val (L false (ex rs p.2))) rfl rfl (frzs_nt _) (frzs_nt _) (by rw [List.length_map, List.length_map]; omega) rfl rfl
    rw [← List.map_append] at e
    exact bin_ok i1 i2 e
  have p2 := app_ok (i := 2) (ds := (tbs rs).map (L false)) rfl a rfl (by rw [List.length_map, tbs_len]; omega)
  refine ⟨_, p2, ?_⟩
  rw [frzs_append, frzs_Ls, tbs_snoc, List.map_append]
  congr 1
  show [frz (L true _)] = _
  rw [frz_L]
  rfl
theorem a_loop (A B : D) (w : Option D) : ∀ (qs rs : List (Nat × Nat)) (ds : List D) (u v : Option D), frzs ds = (tbs rs).map (L false) → Vd (rs ++ qs) → (∀ s, s < 256 + (rs ++ qs).length → (ex (rs ++ qs) s).length ≤ 500000) → rs.length + qs.length < 1000000 →
    ∃ ds' u' v', forL (.tp [3, 4]) bodyA (qs.map pn) (A8 A B ds u v none w) = .nx (A8 A B ds' u' v' none w) ∧ frzs ds' = (tbs (rs ++ qs)).map (L false)
  | [], rs, ds, u, v, hd, _, _, _ => ⟨ds, u, v, rfl, by rw [List.append_nil]; exact hd⟩
  | p :: qs, rs, ds, u, v, hd, hv, hz, hl => by
    have e0 : rs ++ p :: qs = rs ++ [p] ++ qs := by rw [List.append_assoc]; rfl
    have w1 := hv.at
    have z1 := hz p.1 (by rw [List.length_append]; omega)
    have z2 := hz p.2 (by rw [List.length_append]; omega)
    rw [ex_app _ _ w1.1] at z1
    rw [ex_app _ _ w1.2] at z2
    rw [List.length_cons] at hl
    obtain ⟨ds1, s1, f1⟩ := a_step A B ds rs p w hd w1.1 w1.2 (by omega) (by omega)
    rw [e0] at hv hz ⊢
    obtain ⟨ds', u', v', e, f2⟩ := a_loop A B w qs (rs ++ [p]) ds1 (some (nt p.1)) (some (nt p.2)) f1 hv hz (by rw [List.length_append, List.length_singleton]; omega)
    rw [List.map_cons]
    exact ⟨ds', u', v', (forL_cons (r1 := A8 A B ds (some (nt p.1)) (some (nt p.2)) none w) rfl s1).trans e, f2⟩
noncomputable abbrev bodyF : Sv := (cAsg (.nm 5) (cBin gAdd (cVar 5) (cBin gIx (cVar 2) (cVar 6))))
theorem f_loop (A B : D) (rs : List (Nat × Nat)) (u v : Option D) : ∀ (row f : List Nat) (ds : List D) (w : Option D), frzs ds = (tbs rs).map (L false) → (∀ s ∈ row, s < 256 + rs.length) → f.length + (tx rs row).length ≤ 1000000 →
    ∃ ds' w', forL (.nm 6) bodyF (row.map nt) (A8 A B ds u v (some (L true f)) w) = .nx (A8 A B ds' u v (some (L true (f ++ tx rs row))) w')
  | [], f, ds, w, _, _, _ => ⟨ds, w, by show _ = SO.nx [_, _, _, _, _, some (L true (f ++ [])), _, _]; rw [List.append_nil]; rfl⟩
  | s :: row, f, ds, w, hd, hr, hz => by
    have hs := hr s List.mem_cons_self
    rw [tx_cons, List.length_append] at hz
    have i1 : cBin gIx (cVar 2) (cVar 6) (A8 A B ds u v (some (L true f)) (some (nt s))) = .ok (.val (L false (ex rs s))) (A8 A B ((tbs rs).map (L false)) u v (some (L true f)) (some (nt s))) :=
      bin_ok (cvar_loc (i := 2) rfl rfl) (cvar_at (i := 6) (d := nt s) rfl rfl) (gix_T (i := 2) rfl hd (by rw [tbs_len]; exact hs))
    have e := add_fz (r := A8 A B ((tbs rs).map (L false)) u v (some (L true f)) (some (nt s))) (x := .loc 5) (y := .val (L false (ex rs s))) (o := true) (xs := f.map nt) rfl rfl (frzs_nt _) (frzs_nt _) (by rw [List.length_map, List.length_map]; omega) (touch_fz rfl (frzs_nt f)) rfl
    rw [← List.map_append] at e
    have st : bodyF (A8 A B ds u v (some (L true f)) (some (nt s))) = .nx (A8 A B ((tbs rs).map (L false)) u v (some (L true (f ++ ex rs s))) (some (nt s))) := asg_ok (i := 5) (bin_ok (cvar_loc (i := 5) rfl rfl) i1 e)
    obtain ⟨ds', w', e2⟩ := f_loop A B rs u v row (f ++ ex rs s) ((tbs rs).map (L false)) (some (nt s)) (frzs_Ls _) (fun x hx => hr x (List.mem_cons_of_mem _ hx)) (by rw [List.length_append]; omega)
    rw [tx_cons, ← List.append_assoc, List.map_cons]
    exact ⟨ds', w', (forL_cons (r1 := A8 A B ds u v (some (L true f)) (some (nt s))) rfl st).trans e2⟩
theorem put_ok {rs : List (Nat × Nat)} {row : List Nat} (hv : Vd rs) (hl : rs.length < 1000000) (hr : ∀ s ∈ row, s < 256 + rs.length) (hz : ∀ s, s < 256 + rs.length → (ex rs s).length ≤ 500000) (hT : (tx rs row).length ≤ 1000000) : F__law_put_in [RS false rs, L false row] = .ok (L true (tx rs row)) := by
  have it : iRng rngI1 (cCons (cC (.int 256)) cNil) (startR 8 [RS false rs, L false row]) = .ok ((List.range 256).map nt) (startR 8 [RS false rs, L false row]) := it_rng (n := 256) rfl (by decide)
  have l := lc_all (enc := nt) (g := fun k => L true [k]) (t := .nm 7) (fe := cLst (cCons (cSet (cVar 7)) cNil)) (vs := [7]) (r0 := startR 8 [RS false rs, L false row]) (List.range 256) it rfl (by rw [List.length_range]; decide) fun k hk =>
    ⟨[some (RS false rs), some (L false row), none, none, none, none, none, some (nt k)], rfl, [some (RS false rs), some (L false row), none, none, none, none, none, some (nt k)], rfl, rfl⟩
  have s1 : cAsg (.nm 2) (cLc [7] (.nm 7) (iRng rngI1 (cCons (cC (.int 256)) cNil)) none (cLst (cCons (cSet (cVar 7)) cNil))) (startR 8 [RS false rs, L false row]) = .nx (A8 (RS false rs) (L false row) ((List.range 256).map fun k => L true [k]) none none none none) := asg_ok (i := 2) l
  have f0 : frzs ((List.range 256).map fun k => L true [k]) = (tbs []).map (L false) := by
    show _ = base.map (L false)
    rw [base_eq, frzs_map, List.map_map, List.map_map]
    exact List.map_congr_left fun k _ => frz_L true [k]
  generalize (List.range 256).map (fun k => L true [k]) = ds0 at s1 f0
  have it1 := it_lst (r := A8 (RS false rs) (L false row) ds0 none none none none) (i := 0) rfl (frzs_pn rs)
  obtain ⟨ds1, u, v, e1, f1⟩ := a_loop (RS false rs) (L false row) none rs [] ds0 none none f0 (by rw [List.nil_append]; exact hv) (by rw [List.nil_append]; exact hz) (by simpa using hl)
  rw [List.nil_append] at f1
  have s3 : cAsg (.nm 5) (cLst cNil) (A8 (RS false rs) (L false row) ds1 u v none none) = .nx (A8 (RS false rs) (L false row) ds1 u v (some (L true [])) none) := rfl
  have it2 := it_lst (r := A8 (RS false rs) (L false row) ds1 u v (some (L true [])) none) (i := 1) rfl (frzs_nt row)
  obtain ⟨ds2, w, e2⟩ := f_loop (RS false rs) (L false row) rs u v row [] ds1 none f1 hr (by simpa using hT)
  rw [List.nil_append] at e2
  exact runF_ok (n := 8) (x := .loc 5) ((seq_nx s1).trans ((seq_nx (for_ok it1 e1)).trans ((seq_nx s3).trans ((seq_nx (for_ok it2 e2)).trans rfl)))) rfl
/-! ### refused -/
abbrev k8 : List D := [.bl true, .bl true, .bl false, .bl false, .bl false, .bl false, .bl false, .bl false]
theorem due_ok (r : Rho) : cBin gAdd (cLst (cCons (cSet (cC (.bl true))) (cCons (cSet (cC (.bl true))) cNil))) (cBin gMul (cLst (cCons (cSet (cC (.bl false))) cNil)) (cC (.int 6))) r = .ok (.val (.node .lst true k8)) r := by
  have c1 : cBin gMul (cLst (cCons (cSet (cC (.bl false))) cNil)) (cC (.int 6)) r = .ok (.val (.node .lst true [.bl false, .bl false, .bl false, .bl false, .bl false, .bl false])) r :=
    bin_ok (show cLst (cCons (cSet (cC (.bl false))) cNil) r = .ok (.val (.node .lst true [.bl false])) r from rfl) (cc 6 r) (q_mulL ⟨by decide, by decide, by decide⟩)
  exact bin_ok (show cLst (cCons (cSet (cC (.bl true))) (cCons (cSet (cC (.bl true))) cNil)) r = .ok (.val (.node .lst true [.bl true, .bl true])) r from rfl) c1 (add_fz (xs := [.bl true, .bl true]) (ys := [.bl false, .bl false, .bl false, .bl false, .bl false, .bl false]) rfl rfl rfl rfl (by decide) rfl rfl)
theorem eq_k8 : eqD (.node .lst true k8) (.node .lst true k8) = some (.bl true) := eqD_same (k := 1) (fp_lst (k := 0) fun x hx => by
  rcases List.mem_cons.mp hx with e | hx
  · rw [e]; exact fp_bl _ _
  rcases List.mem_cons.mp hx with e | hx
  · rw [e]; exact fp_bl _ _
  · have : x = .bl false := by simpa using hx
    rw [this]; exact fp_bl _ _) (by decide) rfl
noncomputable abbrev cl4 : Sv := (cSeq (cAsg (.nm 2) (cLst (cCons (cSet (cB (gIsi (etab tab)) (cCons (cVar 3) (cCons (cC (.cls 4)) cNil)))) (cCons (cSet (cB (gIsi (etab tab)) (cCons (cVar 3) (cCons (cC (.ty "ValueError")) cNil)))) (cCons (cSet (cB (gIsi (etab tab)) (cCons (cVar 3) (cCons (cC (.cls 2)) cNil)))) (cCons (cSet (cB (gIsi (etab tab)) (cCons (cVar 3) (cCons (cC (.cls 6)) cNil)))) cNil))))))
  (cAsg (.nm 2) (cBin gAdd (cVar 2) (cLst (cCons (cSet (cB (gIsi (etab tab)) (cCons (cVar 3) (cCons (cC (.cls 1)) cNil)))) (cCons (cSet (cB (gIsi (etab tab)) (cCons (cVar 3) (cCons (cC (.cls 3)) cNil)))) (cCons (cSet (cB (gIsi (etab tab)) (cCons (cVar 3) (cCons (cC (.cls 7)) cNil)))) (cCons (cSet (cB (gIsi (etab tab)) (cCons (cVar 3) (cCons (cC (.cls 5)) cNil)))) cNil))))))))
theorem refused_ok {rs : List (Nat × Nat)} {row : List Nat} (h : F_grammar_text [RS false rs, L false row] = .exc 4) : F__law_refused [RS false rs, L false row] = .ok (.bl true) := by
  have t0 : tbOf tab 0 4 = some true := by decide +kernel
  obtain ⟨A, hA⟩ : ∃ A, RS false rs = A := ⟨_, rfl⟩
  obtain ⟨B, hB⟩ : ∃ B, L false row = B := ⟨_, rfl⟩
  have fA : frz A = A := by rw [← hA]; exact frz_RS _ _
  have fB : frz B = B := by rw [← hB]; exact frz_L _ _
  have nA : atom A = false := by rw [← hA]; rfl
  have nB : atom B = false := by rw [← hB]; rfl
  rw [hA, hB] at h ⊢
  clear hA hB
  have s1 : cAsg (.nm 2) (cLst cNil) (startR 4 [A, B]) = .nx [some A, some B, some (.node .lst true []), none] := rfl
  have ca : cCall 2 F_grammar_text (cCons (cVar 0) (cCons (cVar 1) cNil)) [some A, some B, some (.node .lst true []), none] = .exc 4 [some A, some B, some (.node .lst true []), none] := by
    rw [q_call, cons_ok (cvar_loc (i := 0) (d := A) rfl nA) (cons_ok (cvar_loc (i := 1) (d := B) rfl nB) (nil_ok _))]
    show (match F_grammar_text [frz A, frz B] with | .ok d => if noL d = true then EO.ok (.val d) _ else .ok (.val d) (settles _ _) | .exc c => .exc c _ | .bad => .bad) = _
    rw [fA, fB, h]
  have s2 : cTry (tbOf tab 0) (some 3) (cExpr (cCall 2 F_grammar_text (cCons (cVar 0) (cCons (cVar 1) cNil)))) cl4 [some A, some B, some (.node .lst true []), none] = .nx [some A, some B, some (.node .lst true k8), none] := by
    have e1 : cExpr (cCall 2 F_grammar_text (cCons (cVar 0) (cCons (cVar 1) cNil))) [some A, some B, some (.node .lst true []), none] = .exc 4 [some A, some B, some (.node .lst true []), none] := by
      rw [q_expr, ca]
      rfl
    rw [q_try, e1]
    have a1 : cAsg (.nm 2) (cLst (cCons (cSet (cB (gIsi (etab tab)) (cCons (cVar 3) (cCons (cC (.cls 4)) cNil)))) (cCons (cSet (cB (gIsi (etab tab)) (cCons (cVar 3) (cCons (cC (.ty "ValueError")) cNil)))) (cCons (cSet (cB (gIsi (etab tab)) (cCons (cVar 3) (cCons (cC (.cls 2)) cNil)))) (cCons (cSet (cB (gIsi (etab tab)) (cCons (cVar 3) (cCons (cC (.cls 6)) cNil)))) cNil))))) [some A, some B, some (.node .lst true []), some (.exc 4)] = .nx [some A, some B, some (.node .lst true [.bl true, .bl true, .bl false, .bl false]), some (.exc 4)] := rfl
    have l2 : cLst (cCons (cSet (cB (gIsi (etab tab)) (cCons (cVar 3) (cCons (cC (.cls 1)) cNil)))) (cCons (cSet (cB (gIsi (etab tab)) (cCons (cVar 3) (cCons (cC (.cls 3)) cNil)))) (cCons (cSet (cB (gIsi (etab tab)) (cCons (cVar 3) (cCons (cC (.cls 7)) cNil)))) (cCons (cSet (cB (gIsi (etab tab)) (cCons (cVar 3) (cCons (cC (.cls 5)) cNil)))) cNil)))) [some A, some B, some (.node .lst true [.bl true, .bl true, .bl false, .bl false]), some (.exc 4)] = .ok (.val (.node .lst true [.bl false, .bl false, .bl false, .bl false])) [some A, some B, some (.node .lst true [.bl true, .bl true, .bl false, .bl false]), some (.exc 4)] := rfl
    have a2 := asg_ok (i := 2) (bin_ok (cvar_loc (i := 2) (d := .node .lst true [.bl true, .bl true, .bl false, .bl false]) rfl rfl) l2 (add_fz (xs := [.bl true, .bl true, .bl false, .bl false]) (ys := [.bl false, .bl false, .bl false, .bl false]) rfl rfl rfl rfl (by decide) rfl rfl))
    have fin := (seq_nx a1).trans a2
    show (match tbOf tab 0 4 with | some true => inClause (some 3) (cSeq _ _ (putE (some 3) 4 [some A, some B, some (.node .lst true []), none])) | some false => SO.exc 4 [some A, some B, some (.node .lst true []), none] | none => SO.bad) = _
    rw [t0]
    show inClause (some 3) (cSeq _ _ [some A, some B, some (.node .lst true []), some (.exc 4)]) = _
    rw [fin]
    rfl
  have s3 : cRet (cBin gEq (cVar 2) (cBin gAdd (cLst (cCons (cSet (cC (.bl true))) (cCons (cSet (cC (.bl true))) cNil))) (cBin gMul (cLst (cCons (cSet (cC (.bl false))) cNil)) (cC (.int 6))))) [some A, some B, some (.node .lst true k8), none] = .rt (.val (.bl true)) [some A, some B, some (.node .lst true k8), none] :=
    ret_ok (bin_ok (cvar_loc (i := 2) (d := .node .lst true k8) rfl rfl) (due_ok _) (g2_ok rfl rfl eq_k8 rfl))
  exact runF_ok (n := 4) ((seq_nx s1).trans ((seq_nx s2).trans s3)) rfl
/-! ### good -/
theorem noL_L (ks : List Nat) : noL (L true ks) = true := by
  have e : ks.map nt = (ks.map fun k => ((k : Nat) : Int)).map D.int := by rw [List.map_map]; rfl
  show noL (.node .lst true (ks.map nt)) = true
  rw [e]
  exact noL_lints _
theorem eqL (o o' : Bool) (T : List Nat) : eqD (L o T) (L o' T) = some (.bl true) := eqD_same (k := 1) (fp_lst (k := 0) (fp_nts T)) (by decide) rfl
theorem neL (o o' : Bool) (T : List Nat) : neD (L o T) (L o' T) = some (.bl false) := neD_same (k := 1) (fp_lst (k := 0) (fp_nts T)) (by decide) rfl
abbrev Hd (o : Bool) (rs : List (Nat × Nat)) (row : List Nat) : D := .node .lst true [RS o rs, L o row]
theorem fp_Hd (o : Bool) (rs : List (Nat × Nat)) (row : List Nat) : FP 3 (Hd o rs row) := fp_lst (k := 2) fun x hx => by
  rcases List.mem_cons.mp hx with e | hx
  · rw [e]
    refine fp_lst (k := 1) fun y hy => ?_
    obtain ⟨p, _, rfl⟩ := List.mem_map.mp hy
    exact fp_tup (k := 0) fun z hz => by
      rcases List.mem_cons.mp hz with e | hz
      · rw [e]; exact fp_int _ _
      · rw [List.mem_singleton.mp hz]; exact fp_int _ _
  · rw [List.mem_singleton.mp hx]
    exact fp_lst (k := 1) fun y hy => by
      obtain ⟨p, _, rfl⟩ := List.mem_map.mp hy
      exact fp_int _ _
theorem eqH (rs : List (Nat × Nat)) (row : List Nat) : eqD (Hd false rs row) (Hd false rs row) = some (.bl true) := eqD_same (fp_Hd _ _ _) (by decide) rfl
theorem neH (rs : List (Nat × Nat)) (row : List Nat) : neD (Hd false rs row) (Hd false rs row) = some (.bl false) := neD_same (fp_Hd _ _ _) (by decide) rfl
abbrev W6 (rs : List (Nat × Nat)) (row T : List Nat) (o : Bool) (f : Option D) : Rho := [some (RS false rs), some (L false row), some (L true T), some (Hd o rs row), f, none]
theorem hix0 (rs : List (Nat × Nat)) (row T : List Nat) (o : Bool) (f : Option D) : cBin gIx (cVar 3) (cC (.int 0)) (W6 rs row T o f) = .ok (.val (RS false rs)) (W6 rs row T false f) := by
  refine bin_ok (cvar_loc (i := 3) (d := Hd o rs row) rfl rfl) (cc 0 _) ?_
  show EO.ok (.val (frz (RS o rs))) [some (RS false rs), some (L false row), some (L true T), some (.node .lst true [frz (RS o rs), frz (L o row)]), f, none] = _
  rw [frz_RS, frz_L]
theorem hix1 (rs : List (Nat × Nat)) (row T : List Nat) (o : Bool) (f : Option D) : cBin gIx (cVar 3) (cC (.int 1)) (W6 rs row T o f) = .ok (.val (L false row)) (W6 rs row T false f) := by
  refine bin_ok (cvar_loc (i := 3) (d := Hd o rs row) rfl rfl) (cc 1 _) ?_
  show EO.ok (.val (frz (L o row))) [some (RS false rs), some (L false row), some (L true T), some (.node .lst true [frz (RS o rs), frz (L o row)]), f, none] = _
  rw [frz_RS, frz_L]
theorem hargs (rs : List (Nat × Nat)) (row T : List Nat) (o : Bool) (f : Option D) : cCons (cBin gIx (cVar 3) (cC (.int 0))) (cCons (cBin gIx (cVar 3) (cC (.int 1))) cNil) (W6 rs row T o f) = .ok [.val (RS false rs), .val (L false row)] (W6 rs row T false f) :=
  cons_ok (hix0 rs row T o f) (cons_ok (hix1 rs row T false f) (nil_ok _))
theorem pair_ok (rs : List (Nat × Nat)) (row T : List Nat) (f : Option D) : cLst (cCons (cSet (cVar 0)) (cCons (cSet (cVar 1)) cNil)) (W6 rs row T false f) = .ok (.val (Hd false rs row)) (W6 rs row T false f) :=
  lst_ok (cons_ok (set_loc (o := false) (ds := rs.map pn) rfl (frzs_pn rs)) (cons_ok (set_loc (o := false) (ds := row.map nt) rfl (frzs_nt row)) (nil_ok _))) rfl (by show 2 ≤ 16777216; decide)
theorem heq (rs : List (Nat × Nat)) (row T : List Nat) (f : Option D) : cBin gEq (cVar 3) (cLst (cCons (cSet (cVar 0)) (cCons (cSet (cVar 1)) cNil))) (W6 rs row T false f) = .ok (.val (.bl true)) (W6 rs row T false f) :=
  bin_ok (cvar_loc (i := 3) (d := Hd false rs row) rfl rfl) (pair_ok rs row T f) (g2_ok rfl rfl (eqH rs row) rfl)
theorem hne (rs : List (Nat × Nat)) (row T : List Nat) (f : Option D) : cBin gNe (cVar 3) (cLst (cCons (cSet (cVar 0)) (cCons (cSet (cVar 1)) cNil))) (W6 rs row T false f) = .ok (.val (.bl false)) (W6 rs row T false f) :=
  bin_ok (cvar_loc (i := 3) (d := Hd false rs row) rfl rfl) (pair_ok rs row T f) (g2_ok rfl rfl (neH rs row) rfl)
theorem good_ok {rs : List (Nat × Nat)} {row : List Nat} (hv : Vd rs) (hl : rs.length < 1000000) (hr : ∀ s ∈ row, s < 256 + rs.length) (hrl : row.length < 1000000) (hz : ∀ s, s < 256 + rs.length → (ex rs s).length ≤ 500000) (hT : (tx rs row).length ≤ 1000000) : F__law_good [RS false rs, L false row] = .ok (.bl true) := by
  have fz : frzs [RS false rs, L false row] = [RS false rs, L false row] := by
    show [frz (RS false rs), frz (L false row)] = _
    rw [frz_RS, frz_L]
  have s1 : cAsg (.nm 2) (cCall 2 F__law_put_in (cCons (cVar 0) (cCons (cVar 1) cNil))) (startR 6 [RS false rs, L false row]) = .nx [some (RS false rs), some (L false row), some (L true (tx rs row)), none, none, none] :=
    asg_ok (i := 2) (call_noL (ds := [RS false rs, L false row]) (cons_ok (x := .loc 0) (cvar_loc rfl rfl) (cons_ok (x := .loc 1) (cvar_loc rfl rfl) (nil_ok _))) rfl rfl (noL_L _) (by rw [fz]; exact put_ok hv hl hr hz hT))
  have s2 : cAsg (.nm 3) (cLst (cCons (cSet (cB (gListOf) (cCons (cVar 0) cNil))) (cCons (cSet (cB (gListOf) (cCons (cVar 1) cNil))) cNil))) [some (RS false rs), some (L false row), some (L true (tx rs row)), none, none, none] = .nx (W6 rs row (tx rs row) true none) :=
    asg_ok (i := 3) (lst_ok (cons_ok (set_val (listOf_ok (o := false) (xs := rs.map pn) rfl (frzs_pn rs))) (cons_ok (set_val (listOf_ok (o := false) (xs := row.map nt) rfl (frzs_nt row))) (nil_ok _))) rfl (by show 2 ≤ 16777216; decide))
  generalize hTT : tx rs row = T at *
  have ln := len_at (r := W6 rs row T true none) (i := 2) (k := .lst) (o := true) (xs := T.map nt) rfl (.inl rfl)
  rw [List.length_map] at ln
  have c := gt_ok ln (cc 400 _)
  by_cases hb : 400 < T.length
  · rw [decide_eq_true (by omega)] at c
    have rf : cCall 2 F__law_refused (cCons (cBin gIx (cVar 3) (cC (.int 0))) (cCons (cBin gIx (cVar 3) (cC (.int 1))) cNil)) (W6 rs row T true none) = .ok (.val (.bl true)) (W6 rs row T false none) :=
      call_noL (ds := [RS false rs, L false row]) (hargs rs row T true none) rfl rfl rfl (by rw [fz]; exact refused_ok (text_no hv hl hr hrl (by rw [hTT]; exact hb)))
    have an : cAnd (cCall 2 F__law_refused (cCons (cBin gIx (cVar 3) (cC (.int 0))) (cCons (cBin gIx (cVar 3) (cC (.int 1))) cNil))) (cBin gEq (cVar 3) (cLst (cCons (cSet (cVar 0)) (cCons (cSet (cVar 1)) cNil)))) (W6 rs row T true none) = .ok (.val (.bl true)) (W6 rs row T false none) := by
      rw [q_and, rf, bd_ok]
      exact heq rs row T none
    have s3 := ifs_ok (f := cRet (cAnd (cCall 2 F__law_refused (cCons (cBin gIx (cVar 3) (cC (.int 0))) (cCons (cBin gIx (cVar 3) (cC (.int 1))) cNil))) (cBin gEq (cVar 3) (cLst (cCons (cSet (cVar 0)) (cCons (cSet (cVar 1)) cNil)))))) (g := cSkip) c (show (if true = true then _ else _) = _ from ret_ok an)
    exact runF_ok (n := 6) ((seq_nx s1).trans ((seq_nx s2).trans (seq_rt s3))) rfl
  · rw [decide_eq_false (by omega)] at c
    have s3 := guard_no (f := cRet (cAnd (cCall 2 F__law_refused (cCons (cBin gIx (cVar 3) (cC (.int 0))) (cCons (cBin gIx (cVar 3) (cC (.int 1))) cNil))) (cBin gEq (cVar 3) (cLst (cCons (cSet (cVar 0)) (cCons (cSet (cVar 1)) cNil)))))) c
    have gt : ∀ (o : Bool) (f : Option D), cCall 2 F_grammar_text (cCons (cBin gIx (cVar 3) (cC (.int 0))) (cCons (cBin gIx (cVar 3) (cC (.int 1))) cNil)) (W6 rs row T o f) = .ok (.val (L true T)) (W6 rs row T false f) := fun o f =>
      call_noL (ds := [RS false rs, L false row]) (hargs rs row T o f) rfl rfl (noL_L _) (by rw [fz, ← hTT]; exact text_ok hv hl hr hrl (by rw [hTT]; omega))
    have s4 : cAsg (.nm 4) (cCall 2 F_grammar_text (cCons (cBin gIx (cVar 3) (cC (.int 0))) (cCons (cBin gIx (cVar 3) (cC (.int 1))) cNil))) (W6 rs row T true none) = .nx (W6 rs row T false (some (L true T))) := asg_ok (i := 4) (gt true none)
    have n1 : cBin gNe (cVar 4) (cVar 2) (W6 rs row T false (some (L true T))) = .ok (.val (.bl false)) (W6 rs row T false (some (L true T))) :=
      bin_ok (cvar_loc (i := 4) (d := L true T) rfl rfl) (cvar_loc (i := 2) (d := L true T) rfl rfl) (g2_ok rfl rfl (neL _ _ T) rfl)
    have s5 := guard_no (f := cRet (cC (.bl false))) (or_no (not_ok (isi_list (E := etab tab) (r := W6 rs row T false (some (L true T))) (i := 4) (o := true) (xs := T.map nt) rfl)) (or_no n1 (hne rs row T (some (L true T)))))
    have s6 : cIfS (cBin gNe (cLcO 4 [5] (.nm 5) (some (cOr (cNot (cB (gIsi (etab tab)) (cCons (cVar 5) (cCons (cC (.ty "int")) cNil)))) (cB (gIsi (etab tab)) (cCons (cVar 5) (cCons (cC (.ty "bool")) cNil))))) (cVar 5)) (cLst cNil)) (cRet (cC (.bl false))) cSkip (W6 rs row T false (some (L true T))) = .nx (W6 rs row T false (some (L true T))) := by
      have lc := lcO_map (t := .nm 5) (fc := some (cOr (cNot (cB (gIsi (etab tab)) (cCons (cVar 5) (cCons (cC (.ty "int")) cNil)))) (cB (gIsi (etab tab)) (cCons (cVar 5) (cCons (cC (.ty "bool")) cNil))))) (fe := cVar 5) (vs := [5]) (i := 4) (r := W6 rs row T false (some (L true T))) (r0 := W6 rs row T false (some (L true T))) (p := fun _ => false) (q := fun d => d) (ds := T.map nt) (by decide) rfl (frzs_nt T) rfl (by rw [List.length_map]; omega) fun d hd => by
        obtain ⟨x, hm, rfl⟩ := List.mem_map.mp hd
        exact ⟨_, rfl, [some (RS false rs), some (L false row), some (L true T), some (Hd false rs row), some (L true T), some (nt x)], or_no (show _ = EO.ok (.val (.bl false)) _ from rfl) (show _ = EO.ok (.val (.bl false)) _ from rfl), rfl, fun h => nomatch h⟩
      rw [List.filter_eq_nil_iff.mpr (fun _ _ => by decide)] at lc
      exact guard_no (bin_ok lc rfl rfl)
    have s7 : cExpr (cApp 4 (cC (.int 0))) (W6 rs row T false (some (L true T))) = .nx (W6 rs row T false (some (L true (T ++ [0])))) := by
      have a := app_ok (r := W6 rs row T false (some (L true T))) (i := 4) (fa := cC (.int 0)) (ds := T.map nt) rfl (cc 0 _) rfl (by rw [List.length_map]; omega)
      rw [show T.map nt ++ [D.int 0] = (T ++ [0]).map nt by rw [List.map_append]; rfl] at a
      exact a
    have q1 : cBin gEq (cCall 2 F_grammar_text (cCons (cBin gIx (cVar 3) (cC (.int 0))) (cCons (cBin gIx (cVar 3) (cC (.int 1))) cNil))) (cVar 2) (W6 rs row T false (some (L true (T ++ [0])))) = .ok (.val (.bl true)) (W6 rs row T false (some (L true (T ++ [0])))) :=
      bin_ok (gt false _) (cvar_loc (i := 2) (d := L true T) rfl rfl) (g2_ok rfl rfl (eqL _ _ T) rfl)
    have s8 := ret_ok (and_yes q1 (heq rs row T (some (L true (T ++ [0])))))
    exact runF_ok (n := 6) ((seq_nx s1).trans ((seq_nx s2).trans ((seq_nx s3).trans ((seq_nx s4).trans ((seq_nx s5).trans ((seq_nx s6).trans ((seq_nx s7).trans s8))))))) rfl
end K37

namespace K37
open PySem PySem.Spec PyProof.Rows L2 VL
/-! ### the grammar that the script asks for -/
theorem cell_ok (ns : List Int) (k : Nat) : ∃ v, F__law_cell_at [script ns, nt k] = .ok (.int v) := by
  have le := len_at (r := [some (script ns), some (nt k)]) (i := 0) (k := .rd) (o := false) (xs := ns.map .int) rfl (.inr (.inl rfl))
  rw [List.length_map] at le
  have c := lt_nt (cvar_at (r := [some (script ns), some (nt k)]) (i := 1) (d := nt k) rfl rfl) le
  by_cases h : k < ns.length
  · rw [decide_eq_true h] at c
    exact ⟨ns[k], runF_ok (seq_rt (ifs_ok c (show (if true = true then _ else _) = _ from ret_ok (rd_at rfl (cvar_at rfl rfl) h)))) rfl⟩
  · rw [decide_eq_false h] at c
    exact ⟨0, runF_ok ((seq_nx (ifs_ok c rfl)).trans (ret_ok (cc 0 _))) rfl⟩
theorem stir_ok (c : Int) (k : Nat) : ∃ v, F__law_stir [.int c, nt k] = .ok (.int v) := by
  have v1 := mod_ok (add_ok (add_ok (mul_ok (mod_ok (cvar_at (r := startR 3 [.int c, nt k]) (i := 0) (d := .int c) rfl rfl) (bin_ok (cc 10 _) (cc 15 _) (pow_ok 10 15 rfl _)) (by decide)) (cc 48271 _) (mulOk_r (by decide))) (mul_ok (cc 104729 _) (cvar_at (i := 1) (d := nt k) rfl rfl) (mulOk_l (by decide)))) (cc 7 _)) (cc 2147483647 _) (by decide)
  generalize hm : (c % 10 ^ (15 : Int).toNat * 48271 + 104729 * (k : Int) + 7) = m at v1
  have hz1 := Int.emod_nonneg m (show (2147483647 : Int) ≠ 0 by decide)
  have hz2 := Int.emod_lt_of_pos m (show (0 : Int) < 2147483647 by decide)
  generalize m % 2147483647 = z at v1 hz1 hz2
  have v2 := mod_ok (add_ok (mul_ok (cvar_at (r := [some (.int c), some (nt k), some (.int z)]) (i := 2) (d := .int z) rfl rfl) (cvar_at (i := 2) (d := .int z) rfl rfl) (mulOk_r (by omega))) (mul_ok (cc 7919 _) (cvar_at (i := 2) (d := .int z) rfl rfl) (mulOk_l (by decide)))) (cc 2147483629 _) (by decide)
  generalize hm2 : z * z + 7919 * z = m2 at v2
  have hy1 := Int.emod_nonneg m2 (show (2147483629 : Int) ≠ 0 by decide)
  have hy2 := Int.emod_lt_of_pos m2 (show (0 : Int) < 2147483629 by decide)
  generalize m2 % 2147483629 = y at v2 hy1 hy2
  have v3 := add_ok (mod_ok (mul_ok (cvar_at (r := [some (.int c), some (nt k), some (.int y)]) (i := 2) (d := .int y) rfl rfl) (cvar_at (i := 2) (d := .int y) rfl rfl) (mulOk_r (by omega))) (cc 2147483587 _) (by decide)) (cvar_at (i := 2) (d := .int y) rfl rfl)
  exact ⟨_, runF_ok ((seq_nx (asg_ok (i := 2) v1)).trans ((seq_nx (asg_ok (i := 2) v2)).trans (ret_ok v3))) rfl⟩
theorem modn {fa : Ev} {r r1 : Rho} {z : Int} (m : Nat) (M : Int) (hM : M = (m : Nat)) (hm : 1 ≤ m) (h : fa r = .ok (.val (.int z)) r1) : ∃ q : Nat, q < m ∧ cBin gMod fa (cC (.int M)) r = .ok (.val (nt q)) r1 := by
  obtain ⟨q, e, hq⟩ := emod_nt z m hm
  refine ⟨q, hq, ?_⟩
  have h2 := mod_ok (j := M) h (cc M r1) (by omega)
  rw [hM, e] at h2
  rw [hM]
  exact h2
theorem modv {fa fb : Ev} {r : Rho} {z : Int} {m : Nat} (hm : 1 ≤ m) (h : fa r = .ok (.val (.int z)) r) (h2 : fb r = .ok (.val (nt m)) r) : ∃ q : Nat, q < m ∧ cBin gMod fa fb r = .ok (.val (nt q)) r := by
  obtain ⟨q, e, hq⟩ := emod_nt z m hm
  refine ⟨q, hq, ?_⟩
  have h3 := mod_ok h h2 (by omega)
  rw [e] at h3
  exact h3
theorem or_b {fa fb : Ev} {r : Rho} {a b : Bool} (h1 : fa r = .ok (.val (.bl a)) r) (h2 : fb r = .ok (.val (.bl b)) r) : cOr fa fb r = .ok (.val (.bl (a || b))) r := by
  rw [q_or, h1, bd_ok]
  cases a
  · exact h2
  · rfl
theorem and_b {fa fb : Ev} {r : Rho} {a b : Bool} (h1 : fa r = .ok (.val (.bl a)) r) (h2 : fb r = .ok (.val (.bl b)) r) : cAnd fa fb r = .ok (.val (.bl (a && b))) r := by
  rw [q_and, h1, bd_ok]
  cases a
  · rfl
  · exact h2
theorem fp_pns (rs : List (Nat × Nat)) : ∀ x ∈ rs.map pn, FP 1 x := fun x hx => by
  obtain ⟨p, _, rfl⟩ := List.mem_map.mp hx
  exact fp_tup (k := 0) fun z hz => by
    rcases List.mem_cons.mp hz with e | hz
    · rw [e]; exact fp_int _ _
    · rw [List.mem_singleton.mp hz]; exact fp_int _ _
theorem symbol_ok (n : Int) (rs : List (Nat × Nat)) (b : Nat) (hb : 1 ≤ b) (hb2 : b ≤ 256) : ∃ s : Nat, F__law_symbol [.int n, RS false rs, nt b] = .ok (nt s) ∧ s < 256 + rs.length := by
  have hr : startR 3 [.int n, RS false rs, nt b] = [some (.int n), some (RS false rs), some (nt b)] := rfl
  generalize hr0 : startR 3 [.int n, RS false rs, nt b] = r0 at hr
  have v0 : cVar 0 r0 = .ok (.val (.int n)) r0 := by subst hr; rfl
  have v2 : cVar 2 r0 = .ok (.val (nt b)) r0 := by subst hr; rfl
  have q1 : r0[1]? = some (some (RS false rs)) := by subst hr; rfl
  have d3 := div_ok v0 (cc 3 _) (by decide) (by decide)
  have m3 := mod_ok v0 (cc 3 _) (by decide)
  have c1 := bin_ok (g := gEq) (cvar_loc q1 rfl) (show cLst cNil r0 = .ok (.val (.node .lst true [])) r0 from rfl) (g2_ok (opd_loc' q1) rfl (eq_nil (fp_pns rs) (by decide)) rfl)
  have c2 := eq_ok m3 (cc 0 _)
  have cq := or_b c1 c2
  obtain ⟨s1, h1, e1⟩ := modv hb d3 v2
  have ln := len_at (k := .lst) q1 (.inl rfl)
  rw [List.length_map] at ln
  by_cases h : ((rs.map pn).isEmpty || decide (n % 3 = 0)) = true
  · rw [h] at cq
    refine ⟨s1, ?_, by omega⟩
    refine runF_ok (n := 3) (x := .val (nt s1)) (r := r0) ?_ rfl
    rw [hr0]
    exact seq_rt (ifs_ok cq (show (if true = true then _ else _) = _ from ret_ok e1))
  · rw [Bool.not_eq_true] at h
    rw [h] at cq
    have hl : 1 ≤ rs.length := by
      cases rs with
      | nil => simp at h
      | cons => simp
    have c3 := eq_ok m3 (cc 1 _)
    by_cases h2 : n % 3 = 1
    · rw [decide_eq_true h2] at c3
      obtain ⟨s2, g2, e2⟩ := modv (m := min 3 rs.length) (by omega) d3 (min_nt (i := 3) (fa := cC (.int 3)) rfl ln)
      have e3 := sub_nt (add_nt (i := 255) (fa := cC (.int 255)) rfl ln) e2 (by omega)
      refine ⟨255 + rs.length - s2, ?_, by omega⟩
      refine runF_ok (n := 3) (x := .val (nt (255 + rs.length - s2))) (r := r0) ?_ rfl
      rw [hr0]
      exact (seq_nx (guard_no cq)).trans (seq_rt (ifs_ok c3 (show (if true = true then _ else _) = _ from ret_ok e3)))
    · rw [decide_eq_false h2] at c3
      obtain ⟨s2, g2, e2⟩ := modv (m := rs.length) hl d3 ln
      have e3 := add_nt (i := 256) (fa := cC (.int 256)) rfl e2
      refine ⟨256 + s2, ?_, by omega⟩
      refine runF_ok (n := 3) (x := .val (nt (256 + s2))) (r := r0) ?_ rfl
      rw [hr0]
      exact (seq_nx (guard_no cq)).trans ((seq_nx (guard_no c3)).trans (ret_ok e3))
noncomputable def zs (rs : List (Nat × Nat)) : List Int := (szs rs).drop 256
theorem zs_len (rs : List (Nat × Nat)) : (zs rs).length = rs.length := by unfold zs; rw [List.length_drop, szs_len]; omega
theorem zs_nil : zs [] = [] := List.length_eq_zero_iff.mp (zs_len [])
theorem zs_snoc (rs : List (Nat × Nat)) (p : Nat × Nat) : zs (rs ++ [p]) = zs rs ++ [(((ex rs p.1).length : Nat) : Int) + (((ex rs p.2).length : Nat) : Int)] := by
  unfold zs
  rw [szs_snoc, List.drop_append_of_le_length (by rw [szs_len]; omega)]
theorem zs_at (rs : List (Nat × Nat)) (s : Nat) (h1 : 256 ≤ s) (h : s < 256 + rs.length) : (zs rs).getD (s - 256) 0 = (((ex rs s).length : Nat) : Int) := by
  rw [← szs_at rs s h]
  unfold zs
  rw [List.getD_eq_getElem?_getD, List.getElem?_drop, List.getD_eq_getElem?_getD, show 256 + (s - 256) = s by omega]
theorem size_ok (rs : List (Nat × Nat)) (s : Nat) (h : s < 256 + rs.length) : F__law_size [I false (zs rs), nt s] = .ok (nt (ex rs s).length) := by
  have c := lt_ok (cvar_at (r := [some (I false (zs rs)), some (nt s)]) (i := 1) (d := nt s) rfl rfl) (cc 256 _)
  by_cases hs : s < 256
  · rw [decide_eq_true (by omega)] at c
    rw [ex_lo rs hs]
    exact runF_ok (n := 2) (x := .val (.int 1)) (seq_rt (ifs_ok c (show (if true = true then _ else _) = _ from ret_ok (cc 1 _)))) rfl
  · rw [decide_eq_false (by omega)] at c
    have sb := sub_nt (cvar_at (r := [some (I false (zs rs)), some (nt s)]) (i := 1) (d := nt s) rfl rfl) (j := 256) (fb := cC (.int 256)) rfl (by omega)
    have i := ix_get (i := 0) (o := false) (xs := zs rs) rfl sb (by rw [zs_len]; omega)
    rw [zs_at rs s (by omega) h] at i
    exact runF_ok (n := 2) (x := .val (nt (ex rs s).length)) ((seq_nx (guard_no c)).trans (ret_ok i)) rfl
structure Gr (rs : List (Nat × Nat)) : Prop where
  vd : Vd rs
  few : rs.length ≤ 300
  small : ∀ s, s < 256 + rs.length → (ex rs s).length ≤ 400
theorem Gr.nil : Gr [] := ⟨Vd.nil, by decide, fun s h => by rw [ex_lo [] (by simpa using h)]; show 1 ≤ 400; decide⟩
theorem Gr.snoc {rs : List (Nat × Nat)} (g : Gr rs) {a b : Nat} (ha : a < 256 + rs.length) (hb : b < 256 + rs.length) (hz : (ex rs a).length + (ex rs b).length ≤ 400) (hl : rs.length < 300) : Gr (rs ++ [(a, b)]) :=
  ⟨g.vd.snoc ha hb, by rw [List.length_append, List.length_singleton]; omega, fun s h => by
    rw [List.length_append, List.length_singleton] at h
    by_cases hs : s < 256 + rs.length
    · rw [ex_app rs _ hs]; exact g.small s hs
    · have e : s = 256 + rs.length := by omega
      rw [e, ex_new, List.length_append]
      exact hz⟩
noncomputable abbrev G (ns : List Int) (first : Int) (base : Nat) (rs : List (Nat × Nat)) (k num a b tn : Option D) : Rho := [some (script ns), some (.int 400), some (.int first), some (nt base), some (RS true rs), some (I true (zs rs)), k, num, a, b, tn, none, none, none]
theorem csize {r : Rho} {rs : List (Nat × Nat)} {s i : Nat} {o : Bool} (h5 : r[5]? = some (some (I o (zs rs)))) (h : cVar i r = .ok (.val (nt s)) r) (hs : s < 256 + rs.length) : cCall 2 F__law_size (cCons (cVar 5) (cCons (cVar i) cNil)) r = .ok (.val (nt (ex rs s).length)) r := by
  have od : opds r [.loc 5, .val (nt s)] = some [I o (zs rs), nt s] := by
    simp only [q_opds1, opd_loc' h5]
    rfl
  refine call_noL (cons_ok (cvar_loc h5 rfl) (cons_ok h (nil_ok _))) od rfl rfl ?_
  show F__law_size [frz (I o (zs rs)), nt s] = _
  rw [frz_I]
  exact size_ok rs s hs
noncomputable abbrev bodyT : Sv := (cSeq (cIfS (cAnd (cBin gNe (cVar 4) (cLst cNil)) (cBin gGt (cVar 10) (cC (.int 0)))) (cSeq (cAsg (.nm 8) (cBin gAdd (cC (.int 255)) (cB (b1 lenD) (cCons (cVar 4) cNil))))
  (cAsg (.nm 9) (cBin gIx (cLst (cCons (cSet (cVar 8)) (cCons (cSet (cVar 9)) cNil))) (cBin gMod (cBin gDiv (cVar 7) (cC (.int 11))) (cC (.int 2)))))) cSkip)
  (cIfS (cAnd (cBin gLe (cBin gAdd (cCall 2 F__law_size (cCons (cVar 5) (cCons (cVar 8) cNil))) (cCall 2 F__law_size (cCons (cVar 5) (cCons (cVar 9) cNil)))) (cVar 1)) (cBin gLt (cB (b1 lenD) (cCons (cVar 4) cNil)) (cC (.int 300)))) (cSeq (cExpr (cApp 5 (cBin gAdd (cCall 2 F__law_size (cCons (cVar 5) (cCons (cVar 8) cNil))) (cCall 2 F__law_size (cCons (cVar 5) (cCons (cVar 9) cNil))))))
  (cExpr (cApp 4 (cTup (cCons (cSet (cVar 8)) (cCons (cSet (cVar 9)) cNil)))))) cSkip))
theorem t_one (ns : List Int) (first num : Int) (base : Nat) (rs : List (Nat × Nat)) (k : Option D) (a b t : Nat) (ha : a < 256 + rs.length) (hb : b < 256 + rs.length) :
    ∃ a' b' : Nat, a' < 256 + rs.length ∧ b' < 256 + rs.length ∧ (cIfS (cAnd (cBin gNe (cVar 4) (cLst cNil)) (cBin gGt (cVar 10) (cC (.int 0)))) (cSeq (cAsg (.nm 8) (cBin gAdd (cC (.int 255)) (cB (b1 lenD) (cCons (cVar 4) cNil))))
  (cAsg (.nm 9) (cBin gIx (cLst (cCons (cSet (cVar 8)) (cCons (cSet (cVar 9)) cNil))) (cBin gMod (cBin gDiv (cVar 7) (cC (.int 11))) (cC (.int 2)))))) cSkip) (G ns first base rs k (some (.int num)) (some (nt a)) (some (nt b)) (some (nt t))) = .nx (G ns first base rs k (some (.int num)) (some (nt a')) (some (nt b')) (some (nt t))) := by
  have c1 := bin_ok (r := G ns first base rs k (some (.int num)) (some (nt a)) (some (nt b)) (some (nt t))) (g := gNe) (cvar_loc (i := 4) (d := RS true rs) rfl rfl) (show cLst cNil _ = .ok (.val (.node .lst true [])) _ from rfl) (g2_ok rfl rfl (ne_nil (fp_pns rs) (by decide)) rfl)
  have c2 := gt_ok (r := G ns first base rs k (some (.int num)) (some (nt a)) (some (nt b)) (some (nt t))) (cvar_at (i := 10) (d := nt t) rfl rfl) (cc 0 _)
  have c := and_b c1 c2
  by_cases h : ((!(rs.map pn).isEmpty) && decide ((0 : Int) < (t : Nat))) = true
  · rw [h] at c
    have hl : 1 ≤ rs.length := by
      cases rs with
      | nil => simp at h
      | cons => simp
    have ln := len_at (r := G ns first base rs k (some (.int num)) (some (nt a)) (some (nt b)) (some (nt t))) (i := 4) (k := .lst) (o := true) (xs := rs.map pn) rfl (.inl rfl)
    rw [List.length_map] at ln
    have s1 := asg_ok (i := 8) (add_nt (i := 255) (fa := cC (.int 255)) rfl ln)
    obtain ⟨q, hq, e⟩ := modn 2 2 rfl (by decide) (div_ok (cvar_at (r := G ns first base rs k (some (.int num)) (some (nt (255 + rs.length))) (some (nt b)) (some (nt t))) (i := 7) (d := .int num) rfl rfl) (cc 11 _) (by decide) (by decide))
    have l : cLst (cCons (cSet (cVar 8)) (cCons (cSet (cVar 9)) cNil)) (G ns first base rs k (some (.int num)) (some (nt (255 + rs.length))) (some (nt b)) (some (nt t))) = .ok (.val (L true [255 + rs.length, b])) (G ns first base rs k (some (.int num)) (some (nt (255 + rs.length))) (some (nt b)) (some (nt t))) := rfl
    have p := pickn (xs := [255 + rs.length, b]) l e (by simpa using hq)
    have s2 := asg_ok (i := 9) p
    refine ⟨255 + rs.length, [255 + rs.length, b][q]'(by simpa using hq), by omega, ?_, ifs_ok c (show (if true = true then _ else _) = _ from (seq_nx s1).trans s2)⟩
    match q, hq with
    | 0, _ => show 255 + rs.length < _; omega
    | 1, _ => exact hb
  · rw [Bool.not_eq_true] at h
    rw [h] at c
    exact ⟨a, b, ha, hb, guard_no c⟩
theorem t_step (ns : List Int) (first num : Int) (base : Nat) (rs : List (Nat × Nat)) (k : Option D) (a b t : Nat) (g : Gr rs) (ha : a < 256 + rs.length) (hb : b < 256 + rs.length) :
    ∃ (rs' : List (Nat × Nat)) (a' b' : Nat), Gr rs' ∧ a' < 256 + rs'.length ∧ b' < 256 + rs'.length ∧ bodyT (G ns first base rs k (some (.int num)) (some (nt a)) (some (nt b)) (some (nt t))) = .nx (G ns first base rs' k (some (.int num)) (some (nt a')) (some (nt b')) (some (nt t))) := by
  obtain ⟨a', b', ha', hb', s1⟩ := t_one ns first num base rs k a b t ha hb
  have z1 := csize (r := G ns first base rs k (some (.int num)) (some (nt a')) (some (nt b')) (some (nt t))) (i := 8) (o := true) rfl (cvar_at rfl rfl) ha'
  have z2 := csize (r := G ns first base rs k (some (.int num)) (some (nt a')) (some (nt b')) (some (nt t))) (i := 9) (o := true) rfl (cvar_at rfl rfl) hb'
  have z := add_ok z1 z2
  have c1 := le_ok z (cvar_at (i := 1) (d := .int 400) rfl rfl)
  have ln := len_at (r := G ns first base rs k (some (.int num)) (some (nt a')) (some (nt b')) (some (nt t))) (i := 4) (k := .lst) (o := true) (xs := rs.map pn) rfl (.inl rfl)
  rw [List.length_map] at ln
  have c2 := lt_ok ln (cc 300 _)
  have c := and_b c1 c2
  by_cases h : (decide ((((ex rs a').length : Nat) : Int) + (((ex rs b').length : Nat) : Int) ≤ 400) && decide (((rs.length : Nat) : Int) < 300)) = true
  · rw [h] at c
    rw [Bool.and_eq_true, decide_eq_true_eq, decide_eq_true_eq] at h
    have s2 := appI (i := 5) (xs := zs rs) rfl z rfl (by rw [zs_len]; omega)
    rw [← zs_snoc rs (a', b')] at s2
    have tp : cTup (cCons (cSet (cVar 8)) (cCons (cSet (cVar 9)) cNil)) [some (script ns), some (.int 400), some (.int first), some (nt base), some (RS true rs), some (I true (zs (rs ++ [(a', b')]))), k, some (.int num), some (nt a'), some (nt b'), some (nt t), none, none, none] = .ok (.val (pn (a', b'))) [some (script ns), some (.int 400), some (.int first), some (nt base), some (RS true rs), some (I true (zs (rs ++ [(a', b')]))), k, some (.int num), some (nt a'), some (nt b'), some (nt t), none, none, none] := rfl
    have s3 := app_ok (i := 4) (ds := rs.map pn) rfl tp rfl (by rw [List.length_map]; omega)
    rw [show rs.map pn ++ [pn (a', b')] = (rs ++ [(a', b')]).map pn by rw [List.map_append]; rfl] at s3
    exact ⟨rs ++ [(a', b')], a', b', g.snoc ha' hb' (by omega) (by omega), by rw [List.length_append]; omega, by rw [List.length_append]; omega, (seq_nx s1).trans (ifs_ok c (show (if true = true then _ else _) = _ from (seq_nx s2).trans s3))⟩
  · rw [Bool.not_eq_true] at h
    rw [h] at c
    exact ⟨rs, a', b', g, ha', hb', (seq_nx s1).trans (guard_no c)⟩
theorem t_loop (ns : List Int) (first num : Int) (base : Nat) (k : Option D) : ∀ (ts : List Nat) (rs : List (Nat × Nat)) (a b : Nat) (tn : Option D), Gr rs → a < 256 + rs.length → b < 256 + rs.length →
    ∃ (rs' : List (Nat × Nat)) (a' b' : Nat) (tn' : Option D), Gr rs' ∧ forL (.nm 10) bodyT (ts.map nt) (G ns first base rs k (some (.int num)) (some (nt a)) (some (nt b)) tn) = .nx (G ns first base rs' k (some (.int num)) (some (nt a')) (some (nt b')) tn')
  | [], rs, a, b, tn, g, _, _ => ⟨rs, a, b, tn, g, rfl⟩
  | t :: ts, rs, a, b, tn, g, ha, hb => by
    obtain ⟨rs1, a1, b1, g1, ha1, hb1, e1⟩ := t_step ns first num base rs k a b t g ha hb
    obtain ⟨rs', a', b', tn', g', e2⟩ := t_loop ns first num base k ts rs1 a1 b1 (some (nt t)) g1 ha1 hb1
    exact ⟨rs', a', b', tn', g', (forL_cons (r1 := G ns first base rs k (some (.int num)) (some (nt a)) (some (nt b)) (some (nt t))) rfl e1).trans e2⟩
end K37

namespace K37
open PySem PySem.Spec PyProof.Rows L2 VL
theorem csym {r : Rho} {rs : List (Nat × Nat)} {fa : Ev} {n : Int} {b : Nat} (h4 : r[4]? = some (some (RS true rs))) (h3 : cVar 3 r = .ok (.val (nt b)) r) (h : fa r = .ok (.val (.int n)) r) (hb : 1 ≤ b) (hb2 : b ≤ 256) : ∃ s : Nat, s < 256 + rs.length ∧ cCall 3 F__law_symbol (cCons fa (cCons (cVar 4) (cCons (cVar 3) cNil))) r = .ok (.val (nt s)) r := by
  obtain ⟨s, e, hs⟩ := symbol_ok n rs b hb hb2
  refine ⟨s, hs, ?_⟩
  have od : opds r [.val (.int n), .loc 4, .val (nt b)] = some [.int n, RS true rs, nt b] := by
    simp only [q_opds1, opd_loc' h4]
    rfl
  refine call_noL (cons_ok h (cons_ok (cvar_loc h4 rfl) (cons_ok h3 (nil_ok _)))) od rfl rfl ?_
  show F__law_symbol [.int n, frz (RS true rs), nt b] = _
  rw [frz_RS]
  exact e
noncomputable abbrev bodyK : Sv := (cSeq (cAsg (.nm 7) (cBin gIx (cLst (cCons (cSet (cBin gIx (cVar 0) (cVar 6))) (cCons (cSet (cCall 2 F__law_stir (cCons (cBin gIx (cVar 0) (cVar 6)) (cCons (cVar 6) cNil)))) cNil))) (cBin gMod (cVar 2) (cC (.int 2)))))
  (cSeq (cAsg (.nm 8) (cCall 3 F__law_symbol (cCons (cVar 7) (cCons (cVar 4) (cCons (cVar 3) cNil)))))
  (cSeq (cAsg (.nm 9) (cCall 3 F__law_symbol (cCons (cBin gDiv (cVar 7) (cC (.int 401))) (cCons (cVar 4) (cCons (cVar 3) cNil)))))
  (cFor (.nm 10) (iRng rngI1 (cCons (cBin gAdd (cC (.int 1)) (cBin gMod (cBin gDiv (cVar 7) (cC (.int 7919))) (cBin gIx (cLst (cCons (cSet (cC (.int 1))) (cCons (cSet (cC (.int 1))) (cCons (cSet (cC (.int 40))) cNil)))) (cBin gMod (cBin gDiv (cVar 2) (cC (.int 8))) (cC (.int 3)))))) cNil)) bodyT))))
theorem k_step (ns : List Int) (first : Int) (base : Nat) (rs : List (Nat × Nat)) (i : Nat) (x7 x8 x9 x10 : Option D) (hi : i < ns.length) (hb : 1 ≤ base) (hb2 : base ≤ 256) (g : Gr rs) :
    ∃ (rs' : List (Nat × Nat)) (y7 y8 y9 y10 : Option D), Gr rs' ∧ bodyK (G ns first base rs (some (nt i)) x7 x8 x9 x10) = .nx (G ns first base rs' (some (nt i)) y7 y8 y9 y10) := by
  have c := rd_at (r := G ns first base rs (some (nt i)) x7 x8 x9 x10) (i := 0) (k := i) (ns := ns) (fa := cVar 6) rfl (cvar_at rfl rfl) hi
  obtain ⟨w, ew⟩ := stir_ok ns[i] i
  have st : cCall 2 F__law_stir (cCons (cBin gIx (cVar 0) (cVar 6)) (cCons (cVar 6) cNil)) (G ns first base rs (some (nt i)) x7 x8 x9 x10) = .ok (.val (.int w)) (G ns first base rs (some (nt i)) x7 x8 x9 x10) :=
    call_noL (ds := [.int ns[i], nt i]) (cons_ok c (cons_ok (x := .val (nt i)) (cvar_at rfl rfl) (nil_ok _))) rfl rfl rfl ew
  have l : cLst (cCons (cSet (cBin gIx (cVar 0) (cVar 6))) (cCons (cSet (cCall 2 F__law_stir (cCons (cBin gIx (cVar 0) (cVar 6)) (cCons (cVar 6) cNil)))) cNil)) (G ns first base rs (some (nt i)) x7 x8 x9 x10) = .ok (.val (.node .lst true ([ns[i], w].map .int))) (G ns first base rs (some (nt i)) x7 x8 x9 x10) :=
    lst_ok (cons_ok (set_val c) (cons_ok (set_val st) (nil_ok _))) rfl (by show 2 ≤ 16777216; decide)
  obtain ⟨q, hq, e⟩ := modn 2 2 rfl (by decide) (cvar_at (r := G ns first base rs (some (nt i)) x7 x8 x9 x10) (i := 2) (d := .int first) rfl rfl)
  have p := ixd_ok (xs := [ns[i], w]) l e (by simpa using hq)
  generalize [ns[i], w][q]'(by simpa using hq) = num at p
  have s1 := asg_ok (i := 7) p
  obtain ⟨a, ha, ea⟩ := csym (r := G ns first base rs (some (nt i)) (some (.int num)) x8 x9 x10) (rs := rs) (fa := cVar 7) (n := num) (b := base) rfl (cvar_at rfl rfl) (cvar_at rfl rfl) hb hb2
  have s2 := asg_ok (i := 8) ea
  obtain ⟨b, hbb, eb⟩ := csym (r := G ns first base rs (some (nt i)) (some (.int num)) (some (nt a)) x9 x10) (rs := rs) (b := base) rfl (cvar_at rfl rfl) (div_ok (cvar_at (i := 7) (d := .int num) rfl rfl) (cc 401 _) (by decide) (by decide)) hb hb2
  have s3 := asg_ok (i := 9) eb
  obtain ⟨q2, hq2, e2⟩ := modn 3 3 rfl (by decide) (div_ok (cvar_at (r := G ns first base rs (some (nt i)) (some (.int num)) (some (nt a)) (some (nt b)) x10) (i := 2) (d := .int first) rfl rfl) (cc 8 _) (by decide) (by decide))
  have l2 : cLst (cCons (cSet (cC (.int 1))) (cCons (cSet (cC (.int 1))) (cCons (cSet (cC (.int 40))) cNil))) (G ns first base rs (some (nt i)) (some (.int num)) (some (nt a)) (some (nt b)) x10) = .ok (.val (L true [1, 1, 40])) (G ns first base rs (some (nt i)) (some (.int num)) (some (nt a)) (some (nt b)) x10) := rfl
  have p2 := pickn (xs := [1, 1, 40]) l2 e2 (by simpa using hq2)
  have hm : 1 ≤ [1, 1, 40][q2]'(by simpa using hq2) ∧ [1, 1, 40][q2]'(by simpa using hq2) ≤ 40 := by
    match q2, hq2 with
    | 0, _ => show 1 ≤ 1 ∧ 1 ≤ 40; decide
    | 1, _ => show 1 ≤ 1 ∧ 1 ≤ 40; decide
    | 2, _ => show 1 ≤ 40 ∧ 40 ≤ 40; decide
  generalize [1, 1, 40][q2]'(by simpa using hq2) = m at p2 hm
  obtain ⟨q3, hq3, e3⟩ := modv hm.1 (div_ok (cvar_at (r := G ns first base rs (some (nt i)) (some (.int num)) (some (nt a)) (some (nt b)) x10) (i := 7) (d := .int num) rfl rfl) (cc 7919 _) (by decide) (by decide)) p2
  have it := it_rng (add_nt (i := 1) (fa := cC (.int 1)) rfl e3) (by omega)
  obtain ⟨rs', a', b', tn', g', e4⟩ := t_loop ns first num base (some (nt i)) (List.range (1 + q3)) rs a b x10 g ha hbb
  exact ⟨rs', _, _, _, _, g', (seq_nx s1).trans ((seq_nx s2).trans ((seq_nx s3).trans (for_ok it e4)))⟩
theorem k_loop (ns : List Int) (first : Int) (base : Nat) (hb : 1 ≤ base) (hb2 : base ≤ 256) : ∀ (is : List Nat) (rs : List (Nat × Nat)) (x6 x7 x8 x9 x10 : Option D), (∀ i ∈ is, i < ns.length) → Gr rs →
    ∃ (rs' : List (Nat × Nat)) (y6 y7 y8 y9 y10 : Option D), Gr rs' ∧ forL (.nm 6) bodyK (is.map nt) (G ns first base rs x6 x7 x8 x9 x10) = .nx (G ns first base rs' y6 y7 y8 y9 y10)
  | [], rs, x6, x7, x8, x9, x10, _, g => ⟨rs, x6, x7, x8, x9, x10, g, rfl⟩
  | i :: is, rs, x6, x7, x8, x9, x10, h, g => by
    obtain ⟨rs1, z7, z8, z9, z10, g1, e1⟩ := k_step ns first base rs i x7 x8 x9 x10 (h i List.mem_cons_self) hb hb2 g
    obtain ⟨rs', y6, y7, y8, y9, y10, g', e2⟩ := k_loop ns first base hb hb2 is rs1 (some (nt i)) z7 z8 z9 z10 (fun x hx => h x (List.mem_cons_of_mem _ hx)) g1
    exact ⟨rs', y6, y7, y8, y9, y10, g', (forL_cons (r1 := G ns first base rs (some (nt i)) x7 x8 x9 x10) rfl e1).trans e2⟩
/-! ### the row -/
noncomputable abbrev H (ns : List Int) (f2 : D) (base : Nat) (rs : List (Nat × Nat)) (row : List Nat) (x6 x7 x8 x9 x10 : Option D) (cell : Int) (sy : Option D) : Rho := [some (script ns), some (.int 400), some f2, some (nt base), some (RS true rs), some (I true (zs rs)), x6, x7, x8, x9, x10, some (L true row), some (.int cell), sy]
noncomputable abbrev bodyR : Sv := (cSeq (cAsg (.nm 12) (cBin gDiv (cVar 12) (cC (.int 12))))
  (cSeq (cAsg (.nm 13) (cCall 3 F__law_symbol (cCons (cVar 12) (cCons (cVar 4) (cCons (cVar 3) cNil)))))
  (cIfS (cBin gLe (cBin gAdd (cB (b1 sumD) (cCons (cLcO 11 [8] (.nm 8) none (cCall 2 F__law_size (cCons (cVar 5) (cCons (cVar 8) cNil)))) cNil)) (cCall 2 F__law_size (cCons (cVar 5) (cCons (cVar 13) cNil)))) (cVar 1)) (cExpr (cApp 11 (cVar 13))) cSkip)))
theorem sum_row (rs : List (Nat × Nat)) (row : List Nat) {fa : Ev} {r r1 : Rho} (h : fa r = .ok (.val (.node .lst true (row.map fun s => nt (ex rs s).length))) r1) : cB (b1 VL.sumD) (cCons fa cNil) r = .ok (.val (nt (tx rs row).length)) r1 := by
  refine b1_ok h rfl ?_ rfl
  have e1 : (row.map fun s => nt (ex rs s).length) = (row.map fun s => (((ex rs s).length : Nat) : Int)).map D.int := by rw [List.map_map]; rfl
  rw [e1]
  show (intsOf ((row.map fun s => (((ex rs s).length : Nat) : Int)).map D.int)).map _ = _
  rw [intsOf_map]
  show some (D.int _) = some (D.int _)
  rw [tx_len]
  congr 2
  clear e1 h
  induction row with
  | nil => rfl
  | cons p ps ih => simp at ih ⊢; omega
theorem r_step (ns : List Int) (f2 : D) (base : Nat) (rs : List (Nat × Nat)) (row : List Nat) (x6 x7 x8 x9 x10 : Option D) (cell : Int) (sy : Option D) (hb : 1 ≤ base) (hb2 : base ≤ 256) (g : Gr rs) (hr : ∀ s ∈ row, s < 256 + rs.length) (hz : (tx rs row).length ≤ 400) :
    ∃ (row' : List Nat) (y8 : Option D) (cell' : Int) (sy' : Option D), (∀ s ∈ row', s < 256 + rs.length) ∧ (tx rs row').length ≤ 400 ∧ bodyR (H ns f2 base rs row x6 x7 x8 x9 x10 cell sy) = .nx (H ns f2 base rs row' x6 x7 y8 x9 x10 cell' sy') := by
  have hrl := tx_ge g.vd row hr
  have s1 := asg_ok (i := 12) (div_ok (cvar_at (r := H ns f2 base rs row x6 x7 x8 x9 x10 cell sy) (i := 12) (d := .int cell) rfl rfl) (cc 12 _) (by decide) (by decide))
  obtain ⟨s, hs, es⟩ := csym (r := H ns f2 base rs row x6 x7 x8 x9 x10 (cell / 12) sy) (rs := rs) (fa := cVar 12) (n := cell / 12) (b := base) rfl (cvar_at rfl rfl) (cvar_at rfl rfl) hb hb2
  have s2 := asg_ok (i := 13) es
  have lc := lcO_map (t := .nm 8) (fc := none) (fe := cCall 2 F__law_size (cCons (cVar 5) (cCons (cVar 8) cNil))) (vs := [8]) (i := 11) (r := H ns f2 base rs row x6 x7 x8 x9 x10 (cell / 12) (some (nt s))) (r0 := H ns f2 base rs row x6 x7 none x9 x10 (cell / 12) (some (nt s))) (p := fun _ => true) (q := fun d => match d with | .int n => nt (ex rs n.toNat).length | d => d) (ds := row.map nt) (by decide) rfl (frzs_nt row) rfl (by rw [List.length_map]; omega) fun d hd => by
    obtain ⟨x, hm, rfl⟩ := List.mem_map.mp hd
    have z := csize (r := H ns f2 base rs row x6 x7 (some (nt x)) x9 x10 (cell / 12) (some (nt s))) (i := 8) (o := true) rfl (cvar_at rfl rfl) (hr x hm)
    exact ⟨_, rfl, H ns f2 base rs row x6 x7 (some (nt x)) x9 x10 (cell / 12) (some (nt s)), rfl, rfl, fun _ => ⟨_, set_val z, rfl⟩⟩
  rw [List.filter_eq_self.mpr (fun _ _ => rfl), List.map_map] at lc
  obtain ⟨y8, hbk⟩ : ∃ y8, backR (H ns f2 base rs row x6 x7 x8 x9 x10 (cell / 12) (some (nt s))) (H ns f2 base rs row x6 x7 none x9 x10 (cell / 12) (some (nt s))) [8] = H ns f2 base rs row x6 x7 y8 x9 x10 (cell / 12) (some (nt s)) := ⟨_, rfl⟩
  rw [hbk] at lc
  have sm := sum_row rs row lc
  have z2 := csize (r := H ns f2 base rs row x6 x7 y8 x9 x10 (cell / 12) (some (nt s))) (i := 13) (o := true) rfl (cvar_at rfl rfl) hs
  have ad : cBin gAdd (cB (b1 sumD) (cCons (cLcO 11 [8] (.nm 8) none (cCall 2 F__law_size (cCons (cVar 5) (cCons (cVar 8) cNil)))) cNil)) (cCall 2 F__law_size (cCons (cVar 5) (cCons (cVar 13) cNil))) (H ns f2 base rs row x6 x7 x8 x9 x10 (cell / 12) (some (nt s))) = .ok (.val (.int ((((tx rs row).length : Nat) : Int) + (((ex rs s).length : Nat) : Int)))) (H ns f2 base rs row x6 x7 y8 x9 x10 (cell / 12) (some (nt s))) := add_ok sm z2
  have c := le_ok ad (cvar_at (i := 1) (d := .int 400) rfl rfl)
  by_cases h : (((tx rs row).length : Nat) : Int) + (((ex rs s).length : Nat) : Int) ≤ 400
  · rw [decide_eq_true h] at c
    have s3 := app_ok (r := H ns f2 base rs row x6 x7 y8 x9 x10 (cell / 12) (some (nt s))) (i := 11) (fa := cVar 13) (d := nt s) (ds := row.map nt) rfl (cvar_at rfl rfl) rfl (by rw [List.length_map]; omega)
    rw [show row.map nt ++ [nt s] = (row ++ [s]).map nt by rw [List.map_append]; rfl] at s3
    have e0 : tx rs (row ++ [s]) = tx rs row ++ ex rs s := by unfold tx; rw [List.flatMap_append, List.flatMap_cons, List.flatMap_nil, List.append_nil]
    exact ⟨row ++ [s], y8, cell / 12, some (nt s), fun x hx => by
      rcases List.mem_append.mp hx with hx | hx
      · exact hr x hx
      · rw [List.mem_singleton.mp hx]; exact hs, by rw [e0, List.length_append]; omega, (seq_nx s1).trans ((seq_nx s2).trans (ifs_ok c (show (if true = true then _ else _) = _ from s3)))⟩
  · rw [decide_eq_false h] at c
    exact ⟨row, y8, cell / 12, some (nt s), hr, hz, (seq_nx s1).trans ((seq_nx s2).trans (ifs_ok c rfl))⟩
theorem r_loop (ns : List Int) (f2 : D) (base : Nat) (rs : List (Nat × Nat)) (x7 x9 x10 : Option D) (hb : 1 ≤ base) (hb2 : base ≤ 256) (g : Gr rs) : ∀ (is : List Nat) (row : List Nat) (x6 x8 : Option D) (cell : Int) (sy : Option D), (∀ s ∈ row, s < 256 + rs.length) → (tx rs row).length ≤ 400 →
    ∃ (row' : List Nat) (y6 y8 : Option D) (cell' : Int) (sy' : Option D), (∀ s ∈ row', s < 256 + rs.length) ∧ (tx rs row').length ≤ 400 ∧ forL (.nm 6) bodyR (is.map nt) (H ns f2 base rs row x6 x7 x8 x9 x10 cell sy) = .nx (H ns f2 base rs row' y6 x7 y8 x9 x10 cell' sy')
  | [], row, x6, x8, cell, sy, hr, hz => ⟨row, x6, x8, cell, sy, hr, hz, rfl⟩
  | i :: is, row, x6, x8, cell, sy, hr, hz => by
    obtain ⟨row1, w8, c1, y1, hr1, hz1, e1⟩ := r_step ns f2 base rs row (some (nt i)) x7 x8 x9 x10 cell sy hb hb2 g hr hz
    obtain ⟨row', y6, y8, cell', sy', hr', hz', e2⟩ := r_loop ns f2 base rs x7 x9 x10 hb hb2 g is row1 (some (nt i)) w8 c1 y1 hr1 hz1
    exact ⟨row', y6, y8, cell', sy', hr', hz', (forL_cons (r1 := H ns f2 base rs row (some (nt i)) x7 x8 x9 x10 cell sy) rfl e1).trans e2⟩
theorem ccell (ns : List Int) (k : Nat) {r : Rho} (h : r[0]? = some (some (script ns))) : ∃ v : Int, cCall 2 F__law_cell_at (cCons (cVar 0) (cCons (cC (nt k)) cNil)) r = .ok (.val (.int v)) r := by
  obtain ⟨v, e⟩ := cell_ok ns k
  have od : opds r [.loc 0, .val (nt k)] = some [script ns, nt k] := by
    simp only [q_opds1, opd_loc' h]
    rfl
  refine ⟨v, call_noL (cons_ok (cvar_loc h rfl) (cons_ok (cc k _) (nil_ok _))) od rfl rfl ?_⟩
  show F__law_cell_at [frz (script ns), nt k] = _
  rw [frz_script]
  exact e
theorem grammar_ok (ns : List Int) (hl : ns.length ≤ 63) : ∃ (rs : List (Nat × Nat)) (row : List Nat) (base : Nat), Gr rs ∧ (∀ s ∈ row, s < 256 + rs.length) ∧ (tx rs row).length ≤ 400 ∧ F__law_grammar [script ns, .int 400] = .ok (.node .lst true [RS false rs, I false (zs rs), L false row, nt base]) := by
  obtain ⟨first, e1⟩ := ccell ns 0 (r := startR 14 [script ns, .int 400]) rfl
  have s1 := asg_ok (i := 2) e1
  obtain ⟨q, hq, e2⟩ := modn 4 4 rfl (by decide) (div_ok (cvar_at (r := [some (script ns), some (.int 400), some (.int first), none, none, none, none, none, none, none, none, none, none, none]) (i := 2) (d := .int first) rfl rfl) (cc 2 _) (by decide) (by decide))
  have l2 : cLst (cCons (cSet (cC (.int 2))) (cCons (cSet (cC (.int 3))) (cCons (cSet (cC (.int 16))) (cCons (cSet (cC (.int 256))) cNil)))) [some (script ns), some (.int 400), some (.int first), none, none, none, none, none, none, none, none, none, none, none] = .ok (.val (L true [2, 3, 16, 256])) [some (script ns), some (.int 400), some (.int first), none, none, none, none, none, none, none, none, none, none, none] := rfl
  have p2 := pickn (xs := [2, 3, 16, 256]) l2 e2 (by simpa using hq)
  have hb : 1 ≤ [2, 3, 16, 256][q]'(by simpa using hq) ∧ [2, 3, 16, 256][q]'(by simpa using hq) ≤ 256 := by
    match q, hq with
    | 0, _ => show 1 ≤ 2 ∧ 2 ≤ 256; decide
    | 1, _ => show 1 ≤ 3 ∧ 3 ≤ 256; decide
    | 2, _ => show 1 ≤ 16 ∧ 16 ≤ 256; decide
    | 3, _ => show 1 ≤ 256 ∧ 256 ≤ 256; decide
  generalize [2, 3, 16, 256][q]'(by simpa using hq) = base at p2 hb
  have s2 := asg_ok (i := 3) p2
  have s3 : cAsg (.nm 4) (cLst cNil) [some (script ns), some (.int 400), some (.int first), some (nt base), none, none, none, none, none, none, none, none, none, none] = .nx [some (script ns), some (.int 400), some (.int first), some (nt base), some (RS true []), none, none, none, none, none, none, none, none, none] := rfl
  have s4 : cAsg (.nm 5) (cLst cNil) [some (script ns), some (.int 400), some (.int first), some (nt base), some (RS true []), none, none, none, none, none, none, none, none, none] = .nx (G ns first base [] none none none none none) := by
    unfold G
    rw [zs_nil]
    rfl
  have ln := len_at (r := G ns first base [] none none none none none) (i := 0) (k := .rd) (o := false) (xs := ns.map .int) rfl (.inr (.inl rfl))
  rw [List.length_map] at ln
  have mn := min_nt (j := 62) ln (fb := cC (.int 62)) rfl
  have it : iRng rngI2 (cCons (cC (.int 2)) (cCons (cB (gMin2) (cCons (cB (b1 lenD) (cCons (cVar 0) cNil)) (cCons (cC (.int 62)) cNil))) cNil)) (G ns first base [] none none none none none) = .ok ((List.range' 2 (min ns.length 62 - 2)).map nt) (G ns first base [] none none none none none) := by
    rw [q_iRng, cons_ok (cc 2 _) (cons_ok mn (nil_ok _))]
    show rngI2 _ [.val (.int 2), .val (.int (min ns.length 62 : Nat))] = _
    rw [q_rng2, if_pos (by
      rw [within_le (by decide) (by decide), within_le (by omega) (by omega)]; rfl)]
    rw [show (((min ns.length 62 : Nat) : Int) - 2).toNat = min ns.length 62 - 2 by omega]
    congr 1
    exact rngD_range' 2 _
  obtain ⟨rs, y6, y7, y8, y9, y10, g, e5⟩ := k_loop ns first base hb.1 hb.2 (List.range' 2 (min ns.length 62 - 2)) [] none none none none none (fun i hi => by have := List.mem_range'_1.mp hi; omega) Gr.nil
  have s6 : cAsg (.nm 11) (cLst cNil) (G ns first base rs y6 y7 y8 y9 y10) = .nx [some (script ns), some (.int 400), some (.int first), some (nt base), some (RS true rs), some (I true (zs rs)), y6, y7, y8, y9, y10, some (L true []), none, none] := rfl
  obtain ⟨cell, e7⟩ := ccell ns 1 (r := [some (script ns), some (.int 400), some (.int first), some (nt base), some (RS true rs), some (I true (zs rs)), y6, y7, y8, y9, y10, some (L true []), none, none]) rfl
  have s7 := asg_ok (i := 12) e7
  obtain ⟨q8, hq8, e8⟩ := modn 12 12 rfl (by decide) (cvar_at (r := H ns (.int first) base rs [] y6 y7 y8 y9 y10 cell none) (i := 12) (d := .int cell) rfl rfl)
  have it8 := it_rng e8 (by omega)
  obtain ⟨row, z6, z8, cell', sy', hr, hz, e9⟩ := r_loop ns (.int first) base rs y7 y9 y10 hb.1 hb.2 g (List.range q8) [] y6 y8 cell none (fun s hs => by cases hs) (by show 0 ≤ 400; decide)
  have l10 : cLst (cCons (cSet (cVar 4)) (cCons (cSet (cVar 5)) (cCons (cSet (cVar 11)) (cCons (cSet (cVar 3)) cNil)))) (H ns (.int first) base rs row z6 y7 z8 y9 y10 cell' sy') = .ok (.val (.node .lst true [RS false rs, I false (zs rs), L false row, nt base])) [some (script ns), some (.int 400), some (.int first), some (nt base), some (RS false rs), some (I false (zs rs)), z6, y7, z8, y9, y10, some (L false row), some (.int cell'), sy'] :=
    lst_ok (cons_ok (set_loc (i := 4) (o := true) (ds := rs.map pn) rfl (frzs_pn rs)) (cons_ok (set_loc (i := 5) (o := true) (ds := (zs rs).map .int) rfl (frzs_ints _)) (cons_ok (set_loc (i := 11) (o := true) (ds := row.map nt) rfl (frzs_nt row)) (cons_ok (set_val (cvar_at (i := 3) (d := nt base) rfl rfl)) (nil_ok _))))) rfl (by show 4 ≤ 16777216; decide)
  refine ⟨rs, row, base, g, hr, hz, ?_⟩
  exact runF_ok (n := 14) ((seq_nx s1).trans ((seq_nx s2).trans ((seq_nx s3).trans ((seq_nx s4).trans ((seq_nx (for_ok it e5)).trans ((seq_nx s6).trans ((seq_nx s7).trans ((seq_nx (for_ok it8 e9)).trans (ret_ok l10))))))))) rfl
end K37

namespace K37
open PySem PySem.Spec PyProof.Rows L2 VL
/-! ### the doubled grammar -/
def dbl (a : Nat) : List (Nat × Nat) := (a, 5) :: (List.range 60).map fun k => (256 + k, 256 + k)
theorem dbl_len (a : Nat) : (dbl a).length = 61 := by unfold dbl; rw [List.length_cons, List.length_map, List.length_range]
theorem dbl_at (a k : Nat) (h : k + 1 < (dbl a).length) : (dbl a)[k + 1] = (256 + k, 256 + k) := by
  have h2 : k < ((List.range 60).map fun k => (256 + k, 256 + k)).length := by rw [List.length_map, List.length_range]; rw [dbl_len] at h; omega
  have e : ((List.range 60).map fun k => (256 + k, 256 + k))[k]'h2 = (256 + k, 256 + k) := by rw [List.getElem_map, List.getElem_range]
  exact e
theorem dbl_vd {a : Nat} (ha : a < 256) : Vd (dbl a) := fun k h => by
  cases k with
  | zero => exact ⟨by show a < 256; exact ha, by show 5 < 256; decide⟩
  | succ k =>
    rw [dbl_at a k h]
    exact ⟨by show 256 + k < _; omega, by show 256 + k < _; omega⟩
theorem dbl_size {a : Nat} (ha : a < 256) : ∀ k, k ≤ 60 → 2 ^ (k + 1) ≤ (ex (dbl a) (256 + k)).length
  | 0, _ => by
    have e := ex_hi (dbl_vd ha) (k := 0) (by rw [dbl_len]; decide)
    rw [e, List.length_append]
    have h1 := ex_pos (dbl_vd ha) (s := ((dbl a)[0]'(by rw [dbl_len]; decide)).1) (by show a < _; omega)
    have h2 := ex_pos (dbl_vd ha) (s := ((dbl a)[0]'(by rw [dbl_len]; decide)).2) (by show 5 < _; omega)
    show 2 ≤ _
    omega
  | k + 1, h => by
    have ih := dbl_size ha k (by omega)
    have e := ex_hi (dbl_vd ha) (k := k + 1) (by rw [dbl_len]; omega)
    rw [dbl_at a k (by rw [dbl_len]; omega)] at e
    have e' : ex (dbl a) (256 + (k + 1)) = ex (dbl a) (256 + k) ++ ex (dbl a) (256 + k) := e
    rw [e', List.length_append, Nat.pow_succ]
    omega
theorem dbl_big {a : Nat} (ha : a < 256) (qs : List (Nat × Nat)) (w : List Nat) : 400 < (tx (dbl a ++ qs) (316 :: w)).length := by
  have h := dbl_size ha 60 (by decide)
  have e := ex_app (dbl a) qs (s := 256 + 60) (by rw [dbl_len]; decide)
  rw [tx_cons, List.length_append, show (316 : Nat) = 256 + 60 from rfl, e]
  have : 400 < 2 ^ (60 + 1) := by decide
  omega
/-! ### the law -/
theorem asg_tl4 {fa : Ev} {r r1 : Rho} {o : Bool} {a b c d : D} (h : fa r = .ok (.val (.node .lst o [a, b, c, d])) r1) : cAsg (.tl [1, 2, 3, 4]) fa r = .nx ((((r1.set 1 (some a)).set 2 (some b)).set 3 (some c)).set 4 (some d)) := by
  rw [q_asg, q_set, h, bd_ok]
  rfl
theorem ref_call {r : Rho} {rs : List (Nat × Nat)} {row : List Nat} {fa fb : Ev} {x : R} {o o' : Bool} (h : fa r = .ok x r) (ho : opd r x = some (RS o rs)) (h2 : fb r = .ok (.val (L o' row)) r) (hv : Vd rs) (hl : rs.length < 1000000) (hr : ∀ s ∈ row, s < 256 + rs.length) (hrl : row.length < 1000000) (hT : 400 < (tx rs row).length) : cCall 2 F__law_refused (cCons fa (cCons fb cNil)) r = .ok (.val (.bl true)) r := by
  have od : opds r [x, .val (L o' row)] = some [RS o rs, L o' row] := by
    simp only [q_opds1, ho]
    rfl
  refine call_noL (cons_ok h (cons_ok h2 (nil_ok _))) od rfl rfl ?_
  show F__law_refused [frz (RS o rs), frz (L o' row)] = _
  rw [frz_RS, frz_L]
  exact refused_ok (text_no hv hl hr hrl hT)
theorem good_call {r : Rho} {rs : List (Nat × Nat)} {row : List Nat} {fa fb : Ev} {x y : R} {o o' : Bool} (h : fa r = .ok x r) (ho : opd r x = some (RS o rs)) (h2 : fb r = .ok y r) (ho2 : opd r y = some (L o' row)) (g : Gr rs) (hr : ∀ s ∈ row, s < 256 + rs.length) (hT : (tx rs row).length ≤ 900000) : cCall 2 F__law_good (cCons fa (cCons fb cNil)) r = .ok (.val (.bl true)) r := by
  have od : opds r [x, y] = some [RS o rs, L o' row] := by
    simp only [q_opds1, ho, ho2]
    rfl
  refine call_noL (cons_ok h (cons_ok h2 (nil_ok _))) od rfl rfl ?_
  show F__law_good [frz (RS o rs), frz (L o' row)] = _
  rw [frz_RS, frz_L]
  have := tx_ge g.vd row hr
  have := g.few
  exact good_ok g.vd (by omega) hr (by omega) (fun s hs => by have := g.small s hs; omega) (by omega)
theorem tx_app (rs : List (Nat × Nat)) (a b : List Nat) : tx rs (a ++ b) = tx rs a ++ tx rs b := by unfold tx; rw [List.flatMap_append]
theorem tx_rep (rs : List (Nat × Nat)) (a : List Nat) : ∀ n : Nat, (tx rs (List.replicate n a).flatten).length = n * (tx rs a).length
  | 0 => by simp [tx]
  | n + 1 => by rw [List.replicate_succ, List.flatten_cons, tx_app, List.length_append, tx_rep rs a n, Nat.succ_mul, Nat.add_comm]
theorem mul_row {r : Rho} {i : Nat} {row : List Nat} {k : Int} {n : Nat} (h : r[i]? = some (some (L false row))) (hk : k = (n : Nat)) (hn : n ≤ 100) (hl : row.length ≤ 1000) : cBin gMul (cVar i) (cC (.int k)) r = .ok (.val (L true (List.replicate n row).flatten)) r := by
  subst hk
  refine bin_ok (cvar_loc h rfl) (cc _ _) ?_
  rw [q_mul, opd_loc' h]
  show (if ((n : Nat) : Int).natAbs < 2 ^ 63 ∧ (row.map nt).length * ((n : Nat) : Int).toNat ≤ 16777216 then EO.ok (.val (.node .lst true (List.replicate ((n : Nat) : Int).toNat (frzs (row.map nt))).flatten)) (touch r (.loc i)) else .bad) = _
  have hm : row.length * n ≤ 1000 * 100 := Nat.mul_le_mul hl hn
  rw [if_pos ⟨by omega, by rw [List.length_map, Int.toNat_natCast]; omega⟩, Int.toNat_natCast, frzs_nt, touch_fz h (frzs_nt _)]
  have e : (List.replicate n (row.map nt)).flatten = (List.replicate n row).flatten.map nt := by rw [List.map_flatten, List.map_replicate]
  rw [e]
theorem law_plain (ns : List Int) (hl : ns.length ≤ 63) : F_law [script ns] = .ok (.bl true) := by
  obtain ⟨rs, row, base, g, hr, hz, eg⟩ := grammar_ok ns hl
  have few := g.few
  have hrl := tx_ge g.vd row hr
  have cg : cCall 2 F__law_grammar (cCons (cVar 0) (cCons (cC (.int 400)) cNil)) (startR 8 [script ns]) = .ok (.val (.node .lst true [RS false rs, I false (zs rs), L false row, nt base])) (startR 8 [script ns]) :=
    call_vals (ds := [script ns, .int 400]) (cons_ok (x := .loc 0) (cvar_loc rfl rfl) (cons_ok (cc 400 _) (nil_ok _))) rfl rfl (by
      show [some (frz (script ns)), none, none, none, none, none, none, none] = _
      rw [frz_script]; rfl) (by
      show F__law_grammar [frz (script ns), .int 400] = _
      rw [frz_script]; exact eg)
  have s1 := asg_tl4 cg
  obtain ⟨a, ha, ea⟩ : ∃ a : Nat, a < 256 ∧ cBin gMod (cB (b1 lenD) (cCons (cVar 0) cNil)) (cC (.int 256)) [some (script ns), some (RS false rs), some (I false (zs rs)), some (L false row), some (nt base), none, none, none] = .ok (.val (nt a)) [some (script ns), some (RS false rs), some (I false (zs rs)), some (L false row), some (nt base), none, none, none] := by
    have ln := len_at (r := [some (script ns), some (RS false rs), some (I false (zs rs)), some (L false row), some (nt base), none, none, none]) (i := 0) (k := .rd) (o := false) (xs := ns.map .int) rfl (.inr (.inl rfl))
    exact modn 256 256 rfl (by decide) ln
  have l1 : cLst (cCons (cSet (cTup (cCons (cSet (cBin gMod (cB (b1 lenD) (cCons (cVar 0) cNil)) (cC (.int 256)))) (cCons (cSet (cC (.int 5))) cNil)))) cNil) [some (script ns), some (RS false rs), some (I false (zs rs)), some (L false row), some (nt base), none, none, none] = .ok (.val (RS true [(a, 5)])) [some (script ns), some (RS false rs), some (I false (zs rs)), some (L false row), some (nt base), none, none, none] :=
    lst_ok (cons_ok (set_val (tup_ok (cons_ok (set_val ea) (cons_ok (set_val (cc 5 _)) (nil_ok _))) rfl (by show 2 ≤ 16777216; decide))) (nil_ok _)) rfl (by show 1 ≤ 16777216; decide)
  have it60 : iRng rngI1 (cCons (cC (.int 60)) cNil) [some (script ns), some (RS false rs), some (I false (zs rs)), some (L false row), some (nt base), none, none, none] = .ok ((List.range 60).map nt) [some (script ns), some (RS false rs), some (I false (zs rs)), some (L false row), some (nt base), none, none, none] := it_rng (n := 60) rfl (by decide)
  have l2 := lc_all (enc := nt) (g := fun k => pn (256 + k, 256 + k)) (t := .nm 7) (fe := cTup (cCons (cSet (cBin gAdd (cC (.int 256)) (cVar 7))) (cCons (cSet (cBin gAdd (cC (.int 256)) (cVar 7))) cNil))) (vs := [7]) (r0 := [some (script ns), some (RS false rs), some (I false (zs rs)), some (L false row), some (nt base), none, none, none]) (List.range 60) it60 rfl (by rw [List.length_range]; decide) fun k hk => by
    have ad := add_nt (r := [some (script ns), some (RS false rs), some (I false (zs rs)), some (L false row), some (nt base), none, none, some (nt k)]) (i := 256) (fa := cC (.int 256)) rfl (cvar_at (i := 7) (d := nt k) rfl rfl)
    exact ⟨_, rfl, _, set_val (tup_ok (cons_ok (set_val ad) (cons_ok (set_val ad) (nil_ok _))) rfl (by show 2 ≤ 16777216; decide)), rfl⟩
  have e60 : ((List.range 60).map fun k => pn (256 + k, 256 + k)) = ((List.range 60).map fun k => (256 + k, 256 + k)).map pn := by rw [List.map_map]; rfl
  rw [e60] at l2
  have s2 := asg_ok (i := 5) (bin_ok l1 l2 (add_fz (r := [some (script ns), some (RS false rs), some (I false (zs rs)), some (L false row), some (nt base), none, none, none]) rfl rfl (frzs_pn [(a, 5)]) (frzs_pn _) (by rw [List.length_map, List.length_map, List.length_map, List.length_range]; show 1 + 60 ≤ 16777216; decide) rfl rfl))
  rw [← List.map_append] at s2
  have ed : [(a, 5)] ++ ((List.range 60).map fun k => (256 + k, 256 + k)) = dbl a := rfl
  rw [ed] at s2
  have R1 := ref_call (r := [some (script ns), some (RS false rs), some (I false (zs rs)), some (L false row), some (nt base), some (RS true (dbl a)), none, none]) (rs := dbl a) (row := [316]) (fa := cVar 5) (fb := cLst (cCons (cSet (cC (.int 316))) cNil)) (x := .loc 5) (o := true) (o' := true) (cvar_loc rfl rfl) rfl rfl (dbl_vd ha) (by rw [dbl_len]; decide) (fun s hs => by rw [List.mem_singleton.mp hs, dbl_len]; decide) (by show 1 < 1000000; decide) (by have := dbl_big ha [] []; rwa [List.append_nil] at this)
  have ad2 : cBin gAdd (cVar 5) (cLst (cCons (cSet (cTup (cCons (cSet (cC (.int 5))) (cCons (cSet (cC (.int 5))) cNil)))) cNil)) [some (script ns), some (RS false rs), some (I false (zs rs)), some (L false row), some (nt base), some (RS true (dbl a)), none, none] = .ok (.val (RS true (dbl a ++ [(5, 5)]))) [some (script ns), some (RS false rs), some (I false (zs rs)), some (L false row), some (nt base), some (RS true (dbl a)), none, none] := by
    have e := add_fz (r := [some (script ns), some (RS false rs), some (I false (zs rs)), some (L false row), some (nt base), some (RS true (dbl a)), none, none]) (x := .loc 5) (y := .val (RS true [(5, 5)])) (o := true) (xs := (dbl a).map pn) rfl rfl (frzs_pn _) (frzs_pn [(5, 5)]) (by rw [List.length_map, dbl_len]; show 61 + 1 ≤ _; decide) (touch_fz rfl (frzs_pn _)) rfl
    rw [← List.map_append] at e
    exact bin_ok (cvar_loc (i := 5) rfl rfl) rfl e
  have R2 := ref_call (r := [some (script ns), some (RS false rs), some (I false (zs rs)), some (L false row), some (nt base), some (RS true (dbl a)), none, none]) (rs := dbl a ++ [(5, 5)]) (row := [316, 5]) (fb := cLst (cCons (cSet (cC (.int 316))) (cCons (cSet (cC (.int 5))) cNil))) (o' := true) ad2 rfl rfl ((dbl_vd ha).snoc (by rw [dbl_len]; decide) (by rw [dbl_len]; decide)) (by rw [List.length_append, dbl_len]; decide) (fun s hs => by
      rw [List.length_append, dbl_len]
      rcases List.mem_cons.mp hs with e | hs
      · rw [e]; show 316 < 318; decide
      · rw [List.mem_singleton.mp hs]; show 5 < 318; decide) (by show 2 < 1000000; decide) (dbl_big ha _ _)
  have s3 := guard_no (f := cRet (cC (.bl false))) (or_no (not_ok R1) (not_ok R2))
  have ln := len_at (r := [some (script ns), some (RS false rs), some (I false (zs rs)), some (L false row), some (nt base), some (RS true (dbl a)), none, none]) (i := 1) (k := .lst) (o := false) (xs := rs.map pn) rfl (.inl rfl)
  rw [List.length_map] at ln
  have s4 : cAsg (.nm 6) (cLst (cCons (cSet (cBin gAdd (cC (.int 255)) (cB (b1 lenD) (cCons (cVar 1) cNil)))) cNil)) [some (script ns), some (RS false rs), some (I false (zs rs)), some (L false row), some (nt base), some (RS true (dbl a)), none, none] = .nx [some (script ns), some (RS false rs), some (I false (zs rs)), some (L false row), some (nt base), some (RS true (dbl a)), some (L true [255 + rs.length]), none] :=
    asg_ok (i := 6) (lst_ok (cons_ok (set_val (add_nt (i := 255) (fa := cC (.int 255)) rfl ln)) (nil_ok _)) rfl (by show 1 ≤ 16777216; decide))
  obtain ⟨r8, hr8⟩ : ∃ r8 : Rho, r8 = [some (script ns), some (RS false rs), some (I false (zs rs)), some (L false row), some (nt base), some (RS true (dbl a)), some (L true [255 + rs.length]), none] := ⟨_, rfl⟩
  have q1 : r8[1]? = some (some (RS false rs)) := by rw [hr8]; rfl
  have q3 : r8[3]? = some (some (L false row)) := by rw [hr8]; rfl
  have q6 : r8[6]? = some (some (L true [255 + rs.length])) := by rw [hr8]; rfl
  rw [← hr8] at s4
  have G1 := good_call (cvar_loc q1 rfl) (opd_loc' q1) (cvar_loc q3 rfl) (opd_loc' q3) g hr (by omega)
  have ln8 := len_at (k := .lst) q1 (.inl rfl)
  rw [List.length_map] at ln8
  obtain ⟨tl, ht, htl⟩ : ∃ tl : List Nat, cSl (cVar 6) none (some (cB (b1 lenD) (cCons (cVar 1) cNil))) r8 = .ok (.val (L true tl)) r8 ∧ ∀ s ∈ tl, s < 256 + rs.length ∧ tl.length ≤ 1 := by
    have e := sl_ok (fa := cVar 6) (r := r8) (r1 := r8) (lo := none) (hi := some (cB (b1 lenD) (cCons (cVar 1) cNil))) (l := none) (h := some ((rs.length : Nat) : Int)) (k := .lst) (o := true) (xs := [255 + rs.length].map nt) (.inl rfl) (cvar_loc q6 rfl) (opd_loc' q6) (frzs_nt _) (touch_fz q6 (frzs_nt _)) rfl (fun {k} => part_ok ln8)
    rw [cutD_to, ← List.map_take] at e
    refine ⟨_, e, fun s hs => ?_⟩
    have hl : ([255 + rs.length].take rs.length).length ≤ 1 := by rw [List.length_take]; exact Nat.min_le_right _ _
    cases hrs : rs.length with
    | zero => rw [hrs] at hs; cases hs
    | succ n =>
      have := List.mem_of_mem_take hs
      rw [List.mem_singleton] at this
      rw [hrs] at hl
      exact ⟨by omega, hl⟩
  have ap : cBin gAdd (cVar 3) (cSl (cVar 6) none (some (cB (b1 lenD) (cCons (cVar 1) cNil)))) r8 = .ok (.val (L true (row ++ tl))) r8 := by
    have e := add_fz (r := r8) (x := .loc 3) (y := .val (L true tl)) (o := false) (xs := row.map nt) (opd_loc' q3) rfl (frzs_nt _) (frzs_nt tl) (by
      rw [List.length_map, List.length_map]
      cases tl with
      | nil => simp; omega
      | cons x xs => have := (htl x List.mem_cons_self).2; omega) (touch_fz q3 (frzs_nt _)) rfl
    rw [← List.map_append] at e
    exact bin_ok (cvar_loc q3 rfl) ht e
  have zt : (tx rs tl).length ≤ 400 := by
    cases tl with
    | nil => show 0 ≤ 400; decide
    | cons x xs =>
      have h1 := htl x List.mem_cons_self
      have hx : xs = [] := List.length_eq_zero_iff.mp (by have := h1.2; rw [List.length_cons] at this; omega)
      subst hx
      rw [tx_cons, List.length_append]
      have := g.small x h1.1
      show _ + 0 ≤ 400
      omega
  have G2 := good_call (cvar_loc q1 rfl) (opd_loc' q1) ap rfl g (fun s hs => by
    rcases List.mem_append.mp hs with hs | hs
    · exact hr s hs
    · exact (htl s hs).1) (by rw [tx_app, List.length_append]; omega)
  have s0 : cSl (cVar 3) none (some (cC (.int 0))) r8 = .ok (.val (L true [])) r8 := by
    have e := sl_ok (fa := cVar 3) (r := r8) (r1 := r8) (lo := none) (hi := some (cC (.int 0))) (l := none) (h := some ((0 : Nat) : Int)) (k := .lst) (o := false) (xs := row.map nt) (.inl rfl) (cvar_loc q3 rfl) (opd_loc' q3) (frzs_nt _) (touch_fz q3 (frzs_nt _)) rfl rfl
    rw [cutD_to] at e
    exact e
  have G3 := good_call (fa := cLst cNil) (rs := []) (row := []) (o := true) (o' := true) (show cLst cNil r8 = .ok (.val (RS true [])) r8 from rfl) rfl s0 rfl Gr.nil (fun s hs => by cases hs) (by show 0 ≤ 900000; decide)
  have s5 := guard_no (f := cRet (cC (.bl false))) (or_no (not_ok G1) (or_no (not_ok G2) (not_ok G3)))
  have mem : ∀ (n s : Nat), s ∈ (List.replicate n row).flatten → s < 256 + rs.length := fun n s hs => by
    obtain ⟨l, h1, h2⟩ := List.mem_flatten.mp hs
    rw [(List.mem_replicate.mp h1).2] at h2
    exact hr s h2
  have G4 := good_call (cvar_loc q1 rfl) (opd_loc' q1) (mul_row (k := 3) (n := 3) q3 rfl (by decide) (by omega)) rfl g (mem 3) (by rw [tx_rep]; omega)
  have G5 := good_call (cvar_loc q1 rfl) (opd_loc' q1) (mul_row (k := 41) (n := 41) q3 rfl (by decide) (by omega)) rfl g (mem 41) (by rw [tx_rep]; omega)
  have s6 := ret_ok (and_yes G4 G5)
  exact runF_ok (n := 8) (x := .val (.bl true)) ((seq_nx s1).trans ((seq_nx s2).trans ((seq_nx s3).trans ((seq_nx s4).trans ((seq_nx s5).trans s6))))) rfl
end K37

namespace K37
open PySem PySem.Spec PyProof.Rows L2 VL
def top (i : Nat) : Stmt := PySem.Challenge.pw_packhall_k37_grammars_put_in.main.body.getD i (.Pass ⟨0, 0, 0, 0⟩)
abbrev s__law_cell_at : Stmt := top 19
def N__law_cell_at : List Str := ["script", "k"]
theorem sc__law_cell_at : FnScope N__law_cell_at ["script", "k"] (defScope s__law_cell_at) := ⟨rfl, rfl, rfl, by decide +kernel, rfl, by decide +kernel, by decide +kernel⟩
abbrev s__law_symbol : Stmt := top 21
def N__law_symbol : List Str := ["number", "rules", "base"]
theorem sc__law_symbol : FnScope N__law_symbol ["number", "rules", "base"] (defScope s__law_symbol) := ⟨rfl, rfl, rfl, by decide +kernel, rfl, by decide +kernel, by decide +kernel⟩
abbrev s__law_stir : Stmt := top 20
def N__law_stir : List Str := ["cell", "k", "number"]
theorem sc__law_stir : FnScope N__law_stir ["cell", "k"] (defScope s__law_stir) := ⟨rfl, rfl, rfl, by decide +kernel, rfl, by decide +kernel, by decide +kernel⟩
abbrev s__law_size : Stmt := top 22
def N__law_size : List Str := ["sizes", "symbol"]
theorem sc__law_size : FnScope N__law_size ["sizes", "symbol"] (defScope s__law_size) := ⟨rfl, rfl, rfl, by decide +kernel, rfl, by decide +kernel, by decide +kernel⟩
abbrev s__law_grammar : Stmt := top 23
def N__law_grammar : List Str := ["script", "most", "first", "base", "rules", "sizes", "k", "number", "one", "other", "turn", "row", "cell", "symbol"]
theorem sc__law_grammar : FnScope N__law_grammar ["script", "most"] (defScope s__law_grammar) := ⟨rfl, rfl, rfl, by decide +kernel, rfl, by decide +kernel, by decide +kernel⟩
abbrev s__law_put_in : Stmt := top 24
def N__law_put_in : List Str := ["rules", "row", "texts", "one", "other", "found", "symbol", "sign"]
theorem sc__law_put_in : FnScope N__law_put_in ["rules", "row"] (defScope s__law_put_in) := ⟨rfl, rfl, rfl, by decide +kernel, rfl, by decide +kernel, by decide +kernel⟩
abbrev s_is_symbol : Stmt := top 12
def N_is_symbol : List Str := ["thing", "many"]
theorem sc_is_symbol : FnScope N_is_symbol ["thing", "many"] (defScope s_is_symbol) := ⟨rfl, rfl, rfl, by decide +kernel, rfl, by decide +kernel, by decide +kernel⟩
abbrev s_need_grammar : Stmt := top 13
def N_need_grammar : List Str := ["rules", "row", "number", "rule", "one"]
theorem sc_need_grammar : FnScope N_need_grammar ["rules", "row"] (defScope s_need_grammar) := ⟨rfl, rfl, rfl, by decide +kernel, rfl, by decide +kernel, by decide +kernel⟩
abbrev s_sizes_of : Stmt := top 14
def N_sizes_of : List Str := ["rules", "found", "one", "other"]
theorem sc_sizes_of : FnScope N_sizes_of ["rules"] (defScope s_sizes_of) := ⟨rfl, rfl, rfl, by decide +kernel, rfl, by decide +kernel, by decide +kernel⟩
abbrev s_length_by : Stmt := top 16
def N_length_by : List Str := ["rules", "row", "sizes", "symbol"]
theorem sc_length_by : FnScope N_length_by ["rules", "row"] (defScope s_length_by) := ⟨rfl, rfl, rfl, by decide +kernel, rfl, by decide +kernel, by decide +kernel⟩
abbrev s_signs_from : Stmt := top 15
def N_signs_from : List Str := ["rules", "row", "skipped", "many", "sizes", "found", "waiting", "symbol"]
theorem sc_signs_from : FnScope N_signs_from ["rules", "row", "skipped", "many"] (defScope s_signs_from) := ⟨rfl, rfl, rfl, by decide +kernel, rfl, by decide +kernel, by decide +kernel⟩
abbrev s_grammar_text : Stmt := top 17
def N_grammar_text : List Str := ["rules", "row", "many"]
theorem sc_grammar_text : FnScope N_grammar_text ["rules", "row"] (defScope s_grammar_text) := ⟨rfl, rfl, rfl, by decide +kernel, rfl, by decide +kernel, by decide +kernel⟩
abbrev s__law_refused : Stmt := top 25
def N__law_refused : List Str := ["rules", "row", "kinds", "e"]
theorem sc__law_refused : FnScope N__law_refused ["rules", "row"] (defScope s__law_refused) := ⟨rfl, rfl, rfl, by decide +kernel, rfl, by decide +kernel, by decide +kernel⟩
abbrev s__law_good : Stmt := top 26
def N__law_good : List Str := ["rules", "row", "due", "handed", "found", "sign"]
theorem sc__law_good : FnScope N__law_good ["rules", "row"] (defScope s__law_good) := ⟨rfl, rfl, rfl, by decide +kernel, rfl, by decide +kernel, by decide +kernel⟩
abbrev s_law : Stmt := top 27
def N_law : List Str := ["script", "rules", "sizes", "row", "base", "doubled", "last", "k"]
theorem sc_law : FnScope N_law ["script"] (defScope s_law) := ⟨rfl, rfl, rfl, by decide +kernel, rfl, by decide +kernel, by decide +kernel⟩
def S__law_grammar_1 : List (Str × NameKind) := [(".0", .local), ("one", .local), ("_law_size", .globalImplicit), ("sizes", .free)]
def S__law_put_in_1 : List (Str × NameKind) := [(".0", .local), ("sign", .local)]
def S_need_grammar_1 : List (Str × NameKind) := [(".0", .local), ("one", .local), ("is_symbol", .globalImplicit), ("number", .free)]
def S_need_grammar_2 : List (Str × NameKind) := [(".0", .local), ("one", .local), ("is_symbol", .globalImplicit), ("len", .globalImplicit), ("rules", .free)]
def S_length_by_1 : List (Str × NameKind) := [(".0", .local), ("symbol", .local), ("sizes", .free)]
def S__law_good_1 : List (Str × NameKind) := [(".0", .local), ("sign", .local), ("isinstance", .globalImplicit), ("int", .globalImplicit), ("bool", .globalImplicit)]
def S_law_1 : List (Str × NameKind) := [(".0", .local), ("k", .local)]
theorem i__law_cell_at_k : N__law_cell_at[1]? = some ("k" : Str) := rfl
theorem k__law_cell_at_k : List.lookup ("k" : Str) (defScope s__law_cell_at).names = some .local := by decide +kernel
theorem d_k : (("k" : Str) == ("__debug__" : Str)) = false := by decide +kernel
theorem e_k : (("k" : Str) == ("__classdict__" : Str)) = false := by decide +kernel
theorem i__law_cell_at_script : N__law_cell_at[0]? = some ("script" : Str) := rfl
theorem k__law_cell_at_script : List.lookup ("script" : Str) (defScope s__law_cell_at).names = some .local := by decide +kernel
theorem d_script : (("script" : Str) == ("__debug__" : Str)) = false := by decide +kernel
theorem e_script : (("script" : Str) == ("__classdict__" : Str)) = false := by decide +kernel
theorem k__law_cell_at_len : List.lookup ("len" : Str) (defScope s__law_cell_at).names = some .globalImplicit := by decide +kernel
theorem v_len : bootBuiltins "len" = some (.builtin "len") := rfl
theorem nn_len : ("len" : Str) ≠ "__name__" := by decide +kernel
theorem d_len : (("len" : Str) == ("__debug__" : Str)) = false := by decide +kernel
theorem i__law_symbol_rules : N__law_symbol[1]? = some ("rules" : Str) := rfl
theorem k__law_symbol_rules : List.lookup ("rules" : Str) (defScope s__law_symbol).names = some .local := by decide +kernel
theorem d_rules : (("rules" : Str) == ("__debug__" : Str)) = false := by decide +kernel
theorem e_rules : (("rules" : Str) == ("__classdict__" : Str)) = false := by decide +kernel
theorem i__law_symbol_number : N__law_symbol[0]? = some ("number" : Str) := rfl
theorem k__law_symbol_number : List.lookup ("number" : Str) (defScope s__law_symbol).names = some .local := by decide +kernel
theorem d_number : (("number" : Str) == ("__debug__" : Str)) = false := by decide +kernel
theorem e_number : (("number" : Str) == ("__classdict__" : Str)) = false := by decide +kernel
theorem i__law_symbol_base : N__law_symbol[2]? = some ("base" : Str) := rfl
theorem k__law_symbol_base : List.lookup ("base" : Str) (defScope s__law_symbol).names = some .local := by decide +kernel
theorem d_base : (("base" : Str) == ("__debug__" : Str)) = false := by decide +kernel
theorem e_base : (("base" : Str) == ("__classdict__" : Str)) = false := by decide +kernel
theorem k__law_symbol_len : List.lookup ("len" : Str) (defScope s__law_symbol).names = some .globalImplicit := by decide +kernel
theorem k__law_symbol_min : List.lookup ("min" : Str) (defScope s__law_symbol).names = some .globalImplicit := by decide +kernel
theorem v_min : bootBuiltins "min" = some (.builtin "min") := rfl
theorem nn_min : ("min" : Str) ≠ "__name__" := by decide +kernel
theorem d_min : (("min" : Str) == ("__debug__" : Str)) = false := by decide +kernel
theorem i__law_stir_cell : N__law_stir[0]? = some ("cell" : Str) := rfl
theorem k__law_stir_cell : List.lookup ("cell" : Str) (defScope s__law_stir).names = some .local := by decide +kernel
theorem d_cell : (("cell" : Str) == ("__debug__" : Str)) = false := by decide +kernel
theorem e_cell : (("cell" : Str) == ("__classdict__" : Str)) = false := by decide +kernel
theorem i__law_stir_k : N__law_stir[1]? = some ("k" : Str) := rfl
theorem k__law_stir_k : List.lookup ("k" : Str) (defScope s__law_stir).names = some .local := by decide +kernel
theorem i__law_stir_number : N__law_stir[2]? = some ("number" : Str) := rfl
theorem k__law_stir_number : List.lookup ("number" : Str) (defScope s__law_stir).names = some .local := by decide +kernel
theorem i__law_size_symbol : N__law_size[1]? = some ("symbol" : Str) := rfl
theorem k__law_size_symbol : List.lookup ("symbol" : Str) (defScope s__law_size).names = some .local := by decide +kernel
theorem d_symbol : (("symbol" : Str) == ("__debug__" : Str)) = false := by decide +kernel
theorem e_symbol : (("symbol" : Str) == ("__classdict__" : Str)) = false := by decide +kernel
theorem i__law_size_sizes : N__law_size[0]? = some ("sizes" : Str) := rfl
theorem k__law_size_sizes : List.lookup ("sizes" : Str) (defScope s__law_size).names = some .local := by decide +kernel
theorem d_sizes : (("sizes" : Str) == ("__debug__" : Str)) = false := by decide +kernel
theorem e_sizes : (("sizes" : Str) == ("__classdict__" : Str)) = false := by decide +kernel
theorem i__law_grammar_script : N__law_grammar[0]? = some ("script" : Str) := rfl
theorem k__law_grammar_script : List.lookup ("script" : Str) (defScope s__law_grammar).names = some .local := by decide +kernel
theorem k__law_grammar__law_cell_at : List.lookup ("_law_cell_at" : Str) (defScope s__law_grammar).names = some .globalImplicit := by decide +kernel
theorem d__law_cell_at : (("_law_cell_at" : Str) == ("__debug__" : Str)) = false := by decide +kernel
theorem i__law_grammar_first : N__law_grammar[2]? = some ("first" : Str) := rfl
theorem k__law_grammar_first : List.lookup ("first" : Str) (defScope s__law_grammar).names = some .local := by decide +kernel
theorem d_first : (("first" : Str) == ("__debug__" : Str)) = false := by decide +kernel
theorem e_first : (("first" : Str) == ("__classdict__" : Str)) = false := by decide +kernel
theorem i__law_grammar_base : N__law_grammar[3]? = some ("base" : Str) := rfl
theorem k__law_grammar_base : List.lookup ("base" : Str) (defScope s__law_grammar).names = some .local := by decide +kernel
theorem i__law_grammar_rules : N__law_grammar[4]? = some ("rules" : Str) := rfl
theorem k__law_grammar_rules : List.lookup ("rules" : Str) (defScope s__law_grammar).names = some .local := by decide +kernel
theorem i__law_grammar_sizes : N__law_grammar[5]? = some ("sizes" : Str) := rfl
theorem k__law_grammar_sizes : List.lookup ("sizes" : Str) (defScope s__law_grammar).names = some .cell := by decide +kernel
theorem k__law_grammar_len : List.lookup ("len" : Str) (defScope s__law_grammar).names = some .globalImplicit := by decide +kernel
theorem k__law_grammar_min : List.lookup ("min" : Str) (defScope s__law_grammar).names = some .globalImplicit := by decide +kernel
theorem k__law_grammar_range : List.lookup ("range" : Str) (defScope s__law_grammar).names = some .globalImplicit := by decide +kernel
theorem i__law_grammar_k : N__law_grammar[6]? = some ("k" : Str) := rfl
theorem k__law_grammar_k : List.lookup ("k" : Str) (defScope s__law_grammar).names = some .local := by decide +kernel
theorem k__law_grammar__law_stir : List.lookup ("_law_stir" : Str) (defScope s__law_grammar).names = some .globalImplicit := by decide +kernel
theorem d__law_stir : (("_law_stir" : Str) == ("__debug__" : Str)) = false := by decide +kernel
theorem i__law_grammar_number : N__law_grammar[7]? = some ("number" : Str) := rfl
theorem k__law_grammar_number : List.lookup ("number" : Str) (defScope s__law_grammar).names = some .local := by decide +kernel
theorem k__law_grammar__law_symbol : List.lookup ("_law_symbol" : Str) (defScope s__law_grammar).names = some .globalImplicit := by decide +kernel
theorem d__law_symbol : (("_law_symbol" : Str) == ("__debug__" : Str)) = false := by decide +kernel
theorem i__law_grammar_one : N__law_grammar[8]? = some ("one" : Str) := rfl
theorem k__law_grammar_one : List.lookup ("one" : Str) (defScope s__law_grammar).names = some .local := by decide +kernel
theorem i__law_grammar_other : N__law_grammar[9]? = some ("other" : Str) := rfl
theorem k__law_grammar_other : List.lookup ("other" : Str) (defScope s__law_grammar).names = some .local := by decide +kernel
theorem i__law_grammar_turn : N__law_grammar[10]? = some ("turn" : Str) := rfl
theorem k__law_grammar_turn : List.lookup ("turn" : Str) (defScope s__law_grammar).names = some .local := by decide +kernel
theorem d_turn : (("turn" : Str) == ("__debug__" : Str)) = false := by decide +kernel
theorem e_turn : (("turn" : Str) == ("__classdict__" : Str)) = false := by decide +kernel
theorem d_one : (("one" : Str) == ("__debug__" : Str)) = false := by decide +kernel
theorem e_one : (("one" : Str) == ("__classdict__" : Str)) = false := by decide +kernel
theorem d_other : (("other" : Str) == ("__debug__" : Str)) = false := by decide +kernel
theorem e_other : (("other" : Str) == ("__classdict__" : Str)) = false := by decide +kernel
theorem k__law_grammar__law_size : List.lookup ("_law_size" : Str) (defScope s__law_grammar).names = some .globalImplicit := by decide +kernel
theorem d__law_size : (("_law_size" : Str) == ("__debug__" : Str)) = false := by decide +kernel
theorem i__law_grammar_most : N__law_grammar[1]? = some ("most" : Str) := rfl
theorem k__law_grammar_most : List.lookup ("most" : Str) (defScope s__law_grammar).names = some .local := by decide +kernel
theorem d_most : (("most" : Str) == ("__debug__" : Str)) = false := by decide +kernel
theorem e_most : (("most" : Str) == ("__classdict__" : Str)) = false := by decide +kernel
theorem i__law_grammar_row : N__law_grammar[11]? = some ("row" : Str) := rfl
theorem k__law_grammar_row : List.lookup ("row" : Str) (defScope s__law_grammar).names = some .local := by decide +kernel
theorem i__law_grammar_cell : N__law_grammar[12]? = some ("cell" : Str) := rfl
theorem k__law_grammar_cell : List.lookup ("cell" : Str) (defScope s__law_grammar).names = some .local := by decide +kernel
theorem i__law_grammar_symbol : N__law_grammar[13]? = some ("symbol" : Str) := rfl
theorem k__law_grammar_symbol : List.lookup ("symbol" : Str) (defScope s__law_grammar).names = some .local := by decide +kernel
theorem d_row : (("row" : Str) == ("__debug__" : Str)) = false := by decide +kernel
theorem e_row : (("row" : Str) == ("__classdict__" : Str)) = false := by decide +kernel
theorem k__law_grammar_1_one : List.lookup ("one" : Str) S__law_grammar_1 = some .local := by decide +kernel
theorem k__law_grammar_1_sizes : List.lookup ("sizes" : Str) S__law_grammar_1 = some .free := by decide +kernel
theorem k__law_grammar_1__law_size : List.lookup ("_law_size" : Str) S__law_grammar_1 = some .globalImplicit := by decide +kernel
theorem k__law_grammar_sum : List.lookup ("sum" : Str) (defScope s__law_grammar).names = some .globalImplicit := by decide +kernel
theorem v_sum : bootBuiltins "sum" = some (.builtin "sum") := rfl
theorem nn_sum : ("sum" : Str) ≠ "__name__" := by decide +kernel
theorem d_sum : (("sum" : Str) == ("__debug__" : Str)) = false := by decide +kernel
theorem k__law_put_in_range : List.lookup ("range" : Str) (defScope s__law_put_in).names = some .globalImplicit := by decide +kernel
theorem i__law_put_in_sign : N__law_put_in[7]? = some ("sign" : Str) := rfl
theorem k__law_put_in_1_sign : List.lookup ("sign" : Str) S__law_put_in_1 = some .local := by decide +kernel
theorem d_sign : (("sign" : Str) == ("__debug__" : Str)) = false := by decide +kernel
theorem e_sign : (("sign" : Str) == ("__classdict__" : Str)) = false := by decide +kernel
theorem i__law_put_in_texts : N__law_put_in[2]? = some ("texts" : Str) := rfl
theorem k__law_put_in_texts : List.lookup ("texts" : Str) (defScope s__law_put_in).names = some .local := by decide +kernel
theorem i__law_put_in_rules : N__law_put_in[0]? = some ("rules" : Str) := rfl
theorem k__law_put_in_rules : List.lookup ("rules" : Str) (defScope s__law_put_in).names = some .local := by decide +kernel
theorem i__law_put_in_other : N__law_put_in[4]? = some ("other" : Str) := rfl
theorem k__law_put_in_other : List.lookup ("other" : Str) (defScope s__law_put_in).names = some .local := by decide +kernel
theorem i__law_put_in_one : N__law_put_in[3]? = some ("one" : Str) := rfl
theorem k__law_put_in_one : List.lookup ("one" : Str) (defScope s__law_put_in).names = some .local := by decide +kernel
theorem d_texts : (("texts" : Str) == ("__debug__" : Str)) = false := by decide +kernel
theorem e_texts : (("texts" : Str) == ("__classdict__" : Str)) = false := by decide +kernel
theorem i__law_put_in_found : N__law_put_in[5]? = some ("found" : Str) := rfl
theorem k__law_put_in_found : List.lookup ("found" : Str) (defScope s__law_put_in).names = some .local := by decide +kernel
theorem i__law_put_in_row : N__law_put_in[1]? = some ("row" : Str) := rfl
theorem k__law_put_in_row : List.lookup ("row" : Str) (defScope s__law_put_in).names = some .local := by decide +kernel
theorem i__law_put_in_symbol : N__law_put_in[6]? = some ("symbol" : Str) := rfl
theorem k__law_put_in_symbol : List.lookup ("symbol" : Str) (defScope s__law_put_in).names = some .local := by decide +kernel
theorem d_found : (("found" : Str) == ("__debug__" : Str)) = false := by decide +kernel
theorem e_found : (("found" : Str) == ("__classdict__" : Str)) = false := by decide +kernel
theorem i_is_symbol_thing : N_is_symbol[0]? = some ("thing" : Str) := rfl
theorem k_is_symbol_thing : List.lookup ("thing" : Str) (defScope s_is_symbol).names = some .local := by decide +kernel
theorem d_thing : (("thing" : Str) == ("__debug__" : Str)) = false := by decide +kernel
theorem e_thing : (("thing" : Str) == ("__classdict__" : Str)) = false := by decide +kernel
theorem k_is_symbol_int : List.lookup ("int" : Str) (defScope s_is_symbol).names = some .globalImplicit := by decide +kernel
theorem v_int : bootBuiltins "int" = some (.type "int") := rfl
theorem nn_int : ("int" : Str) ≠ "__name__" := by decide +kernel
theorem d_int : (("int" : Str) == ("__debug__" : Str)) = false := by decide +kernel
theorem k_is_symbol_isinstance : List.lookup ("isinstance" : Str) (defScope s_is_symbol).names = some .globalImplicit := by decide +kernel
theorem v_isinstance : bootBuiltins "isinstance" = some (.builtin "isinstance") := rfl
theorem nn_isinstance : ("isinstance" : Str) ≠ "__name__" := by decide +kernel
theorem d_isinstance : (("isinstance" : Str) == ("__debug__" : Str)) = false := by decide +kernel
theorem k_is_symbol_bool : List.lookup ("bool" : Str) (defScope s_is_symbol).names = some .globalImplicit := by decide +kernel
theorem v_bool : bootBuiltins "bool" = some (.type "bool") := rfl
theorem nn_bool : ("bool" : Str) ≠ "__name__" := by decide +kernel
theorem d_bool : (("bool" : Str) == ("__debug__" : Str)) = false := by decide +kernel
theorem k_is_symbol_FIRST : List.lookup ("FIRST" : Str) (defScope s_is_symbol).names = some .globalImplicit := by decide +kernel
theorem d_FIRST : (("FIRST" : Str) == ("__debug__" : Str)) = false := by decide +kernel
theorem i_is_symbol_many : N_is_symbol[1]? = some ("many" : Str) := rfl
theorem k_is_symbol_many : List.lookup ("many" : Str) (defScope s_is_symbol).names = some .local := by decide +kernel
theorem d_many : (("many" : Str) == ("__debug__" : Str)) = false := by decide +kernel
theorem e_many : (("many" : Str) == ("__classdict__" : Str)) = false := by decide +kernel
theorem i_need_grammar_rules : N_need_grammar[0]? = some ("rules" : Str) := rfl
theorem k_need_grammar_rules : List.lookup ("rules" : Str) (defScope s_need_grammar).names = some .cell := by decide +kernel
theorem k_need_grammar_enumerate : List.lookup ("enumerate" : Str) (defScope s_need_grammar).names = some .globalImplicit := by decide +kernel
theorem i_need_grammar_rule : N_need_grammar[3]? = some ("rule" : Str) := rfl
theorem k_need_grammar_rule : List.lookup ("rule" : Str) (defScope s_need_grammar).names = some .local := by decide +kernel
theorem i_need_grammar_number : N_need_grammar[2]? = some ("number" : Str) := rfl
theorem k_need_grammar_number : List.lookup ("number" : Str) (defScope s_need_grammar).names = some .cell := by decide +kernel
theorem d_rule : (("rule" : Str) == ("__debug__" : Str)) = false := by decide +kernel
theorem e_rule : (("rule" : Str) == ("__classdict__" : Str)) = false := by decide +kernel
theorem k_need_grammar_tuple : List.lookup ("tuple" : Str) (defScope s_need_grammar).names = some .globalImplicit := by decide +kernel
theorem v_tuple : bootBuiltins "tuple" = some (.type "tuple") := rfl
theorem nn_tuple : ("tuple" : Str) ≠ "__name__" := by decide +kernel
theorem d_tuple : (("tuple" : Str) == ("__debug__" : Str)) = false := by decide +kernel
theorem k_need_grammar_isinstance : List.lookup ("isinstance" : Str) (defScope s_need_grammar).names = some .globalImplicit := by decide +kernel
theorem k_need_grammar_len : List.lookup ("len" : Str) (defScope s_need_grammar).names = some .globalImplicit := by decide +kernel
theorem i_need_grammar_one : N_need_grammar[4]? = some ("one" : Str) := rfl
theorem k_need_grammar_1_one : List.lookup ("one" : Str) S_need_grammar_1 = some .local := by decide +kernel
theorem k_need_grammar_1_number : List.lookup ("number" : Str) S_need_grammar_1 = some .free := by decide +kernel
theorem k_need_grammar_1_is_symbol : List.lookup ("is_symbol" : Str) S_need_grammar_1 = some .globalImplicit := by decide +kernel
theorem d_is_symbol : (("is_symbol" : Str) == ("__debug__" : Str)) = false := by decide +kernel
theorem k_need_grammar_all : List.lookup ("all" : Str) (defScope s_need_grammar).names = some .globalImplicit := by decide +kernel
theorem v_all : bootBuiltins "all" = some (.builtin "all") := rfl
theorem nn_all : ("all" : Str) ≠ "__name__" := by decide +kernel
theorem d_all : (("all" : Str) == ("__debug__" : Str)) = false := by decide +kernel
theorem k_need_grammar_Broken : List.lookup ("Broken" : Str) (defScope s_need_grammar).names = some .globalImplicit := by decide +kernel
theorem d_Broken : (("Broken" : Str) == ("__debug__" : Str)) = false := by decide +kernel
theorem i_need_grammar_row : N_need_grammar[1]? = some ("row" : Str) := rfl
theorem k_need_grammar_row : List.lookup ("row" : Str) (defScope s_need_grammar).names = some .local := by decide +kernel
theorem k_need_grammar_2_one : List.lookup ("one" : Str) S_need_grammar_2 = some .local := by decide +kernel
theorem k_need_grammar_2_rules : List.lookup ("rules" : Str) S_need_grammar_2 = some .free := by decide +kernel
theorem k_need_grammar_2_len : List.lookup ("len" : Str) S_need_grammar_2 = some .globalImplicit := by decide +kernel
theorem k_need_grammar_2_is_symbol : List.lookup ("is_symbol" : Str) S_need_grammar_2 = some .globalImplicit := by decide +kernel
theorem k_sizes_of_FIRST : List.lookup ("FIRST" : Str) (defScope s_sizes_of).names = some .globalImplicit := by decide +kernel
theorem i_sizes_of_found : N_sizes_of[1]? = some ("found" : Str) := rfl
theorem k_sizes_of_found : List.lookup ("found" : Str) (defScope s_sizes_of).names = some .local := by decide +kernel
theorem i_sizes_of_rules : N_sizes_of[0]? = some ("rules" : Str) := rfl
theorem k_sizes_of_rules : List.lookup ("rules" : Str) (defScope s_sizes_of).names = some .local := by decide +kernel
theorem i_sizes_of_other : N_sizes_of[3]? = some ("other" : Str) := rfl
theorem k_sizes_of_other : List.lookup ("other" : Str) (defScope s_sizes_of).names = some .local := by decide +kernel
theorem i_sizes_of_one : N_sizes_of[2]? = some ("one" : Str) := rfl
theorem k_sizes_of_one : List.lookup ("one" : Str) (defScope s_sizes_of).names = some .local := by decide +kernel
theorem i_length_by_rules : N_length_by[0]? = some ("rules" : Str) := rfl
theorem k_length_by_rules : List.lookup ("rules" : Str) (defScope s_length_by).names = some .local := by decide +kernel
theorem k_length_by_sizes_of : List.lookup ("sizes_of" : Str) (defScope s_length_by).names = some .globalImplicit := by decide +kernel
theorem d_sizes_of : (("sizes_of" : Str) == ("__debug__" : Str)) = false := by decide +kernel
theorem i_length_by_sizes : N_length_by[2]? = some ("sizes" : Str) := rfl
theorem k_length_by_sizes : List.lookup ("sizes" : Str) (defScope s_length_by).names = some .cell := by decide +kernel
theorem i_length_by_row : N_length_by[1]? = some ("row" : Str) := rfl
theorem k_length_by_row : List.lookup ("row" : Str) (defScope s_length_by).names = some .local := by decide +kernel
theorem i_length_by_symbol : N_length_by[3]? = some ("symbol" : Str) := rfl
theorem k_length_by_1_symbol : List.lookup ("symbol" : Str) S_length_by_1 = some .local := by decide +kernel
theorem k_length_by_1_sizes : List.lookup ("sizes" : Str) S_length_by_1 = some .free := by decide +kernel
theorem k_length_by_sum : List.lookup ("sum" : Str) (defScope s_length_by).names = some .globalImplicit := by decide +kernel
theorem i_signs_from_rules : N_signs_from[0]? = some ("rules" : Str) := rfl
theorem k_signs_from_rules : List.lookup ("rules" : Str) (defScope s_signs_from).names = some .local := by decide +kernel
theorem k_signs_from_sizes_of : List.lookup ("sizes_of" : Str) (defScope s_signs_from).names = some .globalImplicit := by decide +kernel
theorem i_signs_from_sizes : N_signs_from[4]? = some ("sizes" : Str) := rfl
theorem k_signs_from_sizes : List.lookup ("sizes" : Str) (defScope s_signs_from).names = some .local := by decide +kernel
theorem i_signs_from_found : N_signs_from[5]? = some ("found" : Str) := rfl
theorem k_signs_from_found : List.lookup ("found" : Str) (defScope s_signs_from).names = some .local := by decide +kernel
theorem i_signs_from_row : N_signs_from[1]? = some ("row" : Str) := rfl
theorem k_signs_from_row : List.lookup ("row" : Str) (defScope s_signs_from).names = some .local := by decide +kernel
theorem k_signs_from_list : List.lookup ("list" : Str) (defScope s_signs_from).names = some .globalImplicit := by decide +kernel
theorem v_list : bootBuiltins "list" = some (.type "list") := rfl
theorem k_signs_from_reversed : List.lookup ("reversed" : Str) (defScope s_signs_from).names = some .globalImplicit := by decide +kernel
theorem i_signs_from_waiting : N_signs_from[6]? = some ("waiting" : Str) := rfl
theorem k_signs_from_waiting : List.lookup ("waiting" : Str) (defScope s_signs_from).names = some .local := by decide +kernel
theorem k_signs_from_len : List.lookup ("len" : Str) (defScope s_signs_from).names = some .globalImplicit := by decide +kernel
theorem i_signs_from_many : N_signs_from[3]? = some ("many" : Str) := rfl
theorem k_signs_from_many : List.lookup ("many" : Str) (defScope s_signs_from).names = some .local := by decide +kernel
theorem d_waiting : (("waiting" : Str) == ("__debug__" : Str)) = false := by decide +kernel
theorem e_waiting : (("waiting" : Str) == ("__classdict__" : Str)) = false := by decide +kernel
theorem i_signs_from_symbol : N_signs_from[7]? = some ("symbol" : Str) := rfl
theorem k_signs_from_symbol : List.lookup ("symbol" : Str) (defScope s_signs_from).names = some .local := by decide +kernel
theorem i_signs_from_skipped : N_signs_from[2]? = some ("skipped" : Str) := rfl
theorem k_signs_from_skipped : List.lookup ("skipped" : Str) (defScope s_signs_from).names = some .local := by decide +kernel
theorem d_skipped : (("skipped" : Str) == ("__debug__" : Str)) = false := by decide +kernel
theorem e_skipped : (("skipped" : Str) == ("__classdict__" : Str)) = false := by decide +kernel
theorem k_signs_from_FIRST : List.lookup ("FIRST" : Str) (defScope s_signs_from).names = some .globalImplicit := by decide +kernel
theorem i_grammar_text_rules : N_grammar_text[0]? = some ("rules" : Str) := rfl
theorem k_grammar_text_rules : List.lookup ("rules" : Str) (defScope s_grammar_text).names = some .local := by decide +kernel
theorem i_grammar_text_row : N_grammar_text[1]? = some ("row" : Str) := rfl
theorem k_grammar_text_row : List.lookup ("row" : Str) (defScope s_grammar_text).names = some .local := by decide +kernel
theorem k_grammar_text_need_grammar : List.lookup ("need_grammar" : Str) (defScope s_grammar_text).names = some .globalImplicit := by decide +kernel
theorem d_need_grammar : (("need_grammar" : Str) == ("__debug__" : Str)) = false := by decide +kernel
theorem k_grammar_text_length_by : List.lookup ("length_by" : Str) (defScope s_grammar_text).names = some .globalImplicit := by decide +kernel
theorem d_length_by : (("length_by" : Str) == ("__debug__" : Str)) = false := by decide +kernel
theorem i_grammar_text_many : N_grammar_text[2]? = some ("many" : Str) := rfl
theorem k_grammar_text_many : List.lookup ("many" : Str) (defScope s_grammar_text).names = some .local := by decide +kernel
theorem k_grammar_text_MOST_SIGNS : List.lookup ("MOST_SIGNS" : Str) (defScope s_grammar_text).names = some .globalImplicit := by decide +kernel
theorem d_MOST_SIGNS : (("MOST_SIGNS" : Str) == ("__debug__" : Str)) = false := by decide +kernel
theorem k_grammar_text_Broken : List.lookup ("Broken" : Str) (defScope s_grammar_text).names = some .globalImplicit := by decide +kernel
theorem k_grammar_text_signs_from : List.lookup ("signs_from" : Str) (defScope s_grammar_text).names = some .globalImplicit := by decide +kernel
theorem d_signs_from : (("signs_from" : Str) == ("__debug__" : Str)) = false := by decide +kernel
theorem i__law_refused_kinds : N__law_refused[2]? = some ("kinds" : Str) := rfl
theorem k__law_refused_kinds : List.lookup ("kinds" : Str) (defScope s__law_refused).names = some .local := by decide +kernel
theorem i__law_refused_e : N__law_refused[3]? = some ("e" : Str) := rfl
theorem k__law_refused_e : List.lookup ("e" : Str) (defScope s__law_refused).names = some .local := by decide +kernel
theorem k__law_refused_PackError : List.lookup ("PackError" : Str) (defScope s__law_refused).names = some .globalImplicit := by decide +kernel
theorem d_PackError : (("PackError" : Str) == ("__debug__" : Str)) = false := by decide +kernel
theorem i__law_refused_rules : N__law_refused[0]? = some ("rules" : Str) := rfl
theorem k__law_refused_rules : List.lookup ("rules" : Str) (defScope s__law_refused).names = some .local := by decide +kernel
theorem i__law_refused_row : N__law_refused[1]? = some ("row" : Str) := rfl
theorem k__law_refused_row : List.lookup ("row" : Str) (defScope s__law_refused).names = some .local := by decide +kernel
theorem k__law_refused_grammar_text : List.lookup ("grammar_text" : Str) (defScope s__law_refused).names = some .globalImplicit := by decide +kernel
theorem d_grammar_text : (("grammar_text" : Str) == ("__debug__" : Str)) = false := by decide +kernel
theorem d_e : (("e" : Str) == ("__debug__" : Str)) = false := by decide +kernel
theorem e_e : (("e" : Str) == ("__classdict__" : Str)) = false := by decide +kernel
theorem k__law_refused_Broken : List.lookup ("Broken" : Str) (defScope s__law_refused).names = some .globalImplicit := by decide +kernel
theorem k__law_refused_isinstance : List.lookup ("isinstance" : Str) (defScope s__law_refused).names = some .globalImplicit := by decide +kernel
theorem k__law_refused_ValueError : List.lookup ("ValueError" : Str) (defScope s__law_refused).names = some .globalImplicit := by decide +kernel
theorem v_ValueError : bootBuiltins "ValueError" = some (.type "ValueError") := rfl
theorem nn_ValueError : ("ValueError" : Str) ≠ "__name__" := by decide +kernel
theorem d_ValueError : (("ValueError" : Str) == ("__debug__" : Str)) = false := by decide +kernel
theorem k__law_refused_NoCode : List.lookup ("NoCode" : Str) (defScope s__law_refused).names = some .globalImplicit := by decide +kernel
theorem d_NoCode : (("NoCode" : Str) == ("__debug__" : Str)) = false := by decide +kernel
theorem k__law_refused_NoName : List.lookup ("NoName" : Str) (defScope s__law_refused).names = some .globalImplicit := by decide +kernel
theorem d_NoName : (("NoName" : Str) == ("__debug__" : Str)) = false := by decide +kernel
theorem d_kinds : (("kinds" : Str) == ("__debug__" : Str)) = false := by decide +kernel
theorem e_kinds : (("kinds" : Str) == ("__classdict__" : Str)) = false := by decide +kernel
theorem k__law_refused_NoNumber : List.lookup ("NoNumber" : Str) (defScope s__law_refused).names = some .globalImplicit := by decide +kernel
theorem d_NoNumber : (("NoNumber" : Str) == ("__debug__" : Str)) = false := by decide +kernel
theorem k__law_refused_NoPlace : List.lookup ("NoPlace" : Str) (defScope s__law_refused).names = some .globalImplicit := by decide +kernel
theorem d_NoPlace : (("NoPlace" : Str) == ("__debug__" : Str)) = false := by decide +kernel
theorem k__law_refused_NoRow : List.lookup ("NoRow" : Str) (defScope s__law_refused).names = some .globalImplicit := by decide +kernel
theorem d_NoRow : (("NoRow" : Str) == ("__debug__" : Str)) = false := by decide +kernel
theorem k__law_refused_NoText : List.lookup ("NoText" : Str) (defScope s__law_refused).names = some .globalImplicit := by decide +kernel
theorem d_NoText : (("NoText" : Str) == ("__debug__" : Str)) = false := by decide +kernel
theorem i__law_good_rules : N__law_good[0]? = some ("rules" : Str) := rfl
theorem k__law_good_rules : List.lookup ("rules" : Str) (defScope s__law_good).names = some .local := by decide +kernel
theorem i__law_good_row : N__law_good[1]? = some ("row" : Str) := rfl
theorem k__law_good_row : List.lookup ("row" : Str) (defScope s__law_good).names = some .local := by decide +kernel
theorem k__law_good__law_put_in : List.lookup ("_law_put_in" : Str) (defScope s__law_good).names = some .globalImplicit := by decide +kernel
theorem d__law_put_in : (("_law_put_in" : Str) == ("__debug__" : Str)) = false := by decide +kernel
theorem i__law_good_due : N__law_good[2]? = some ("due" : Str) := rfl
theorem k__law_good_due : List.lookup ("due" : Str) (defScope s__law_good).names = some .local := by decide +kernel
theorem k__law_good_list : List.lookup ("list" : Str) (defScope s__law_good).names = some .globalImplicit := by decide +kernel
theorem nn_list : ("list" : Str) ≠ "__name__" := by decide +kernel
theorem d_list : (("list" : Str) == ("__debug__" : Str)) = false := by decide +kernel
theorem i__law_good_handed : N__law_good[3]? = some ("handed" : Str) := rfl
theorem k__law_good_handed : List.lookup ("handed" : Str) (defScope s__law_good).names = some .local := by decide +kernel
theorem d_due : (("due" : Str) == ("__debug__" : Str)) = false := by decide +kernel
theorem e_due : (("due" : Str) == ("__classdict__" : Str)) = false := by decide +kernel
theorem k__law_good_len : List.lookup ("len" : Str) (defScope s__law_good).names = some .globalImplicit := by decide +kernel
theorem d_handed : (("handed" : Str) == ("__debug__" : Str)) = false := by decide +kernel
theorem e_handed : (("handed" : Str) == ("__classdict__" : Str)) = false := by decide +kernel
theorem k__law_good__law_refused : List.lookup ("_law_refused" : Str) (defScope s__law_good).names = some .globalImplicit := by decide +kernel
theorem d__law_refused : (("_law_refused" : Str) == ("__debug__" : Str)) = false := by decide +kernel
theorem k__law_good_grammar_text : List.lookup ("grammar_text" : Str) (defScope s__law_good).names = some .globalImplicit := by decide +kernel
theorem i__law_good_found : N__law_good[4]? = some ("found" : Str) := rfl
theorem k__law_good_found : List.lookup ("found" : Str) (defScope s__law_good).names = some .local := by decide +kernel
theorem k__law_good_isinstance : List.lookup ("isinstance" : Str) (defScope s__law_good).names = some .globalImplicit := by decide +kernel
theorem i__law_good_sign : N__law_good[5]? = some ("sign" : Str) := rfl
theorem k__law_good_1_sign : List.lookup ("sign" : Str) S__law_good_1 = some .local := by decide +kernel
theorem k__law_good_1_int : List.lookup ("int" : Str) S__law_good_1 = some .globalImplicit := by decide +kernel
theorem k__law_good_1_isinstance : List.lookup ("isinstance" : Str) S__law_good_1 = some .globalImplicit := by decide +kernel
theorem k__law_good_1_bool : List.lookup ("bool" : Str) S__law_good_1 = some .globalImplicit := by decide +kernel
theorem i_law_script : N_law[0]? = some ("script" : Str) := rfl
theorem k_law_script : List.lookup ("script" : Str) (defScope s_law).names = some .local := by decide +kernel
theorem k_law__law_grammar : List.lookup ("_law_grammar" : Str) (defScope s_law).names = some .globalImplicit := by decide +kernel
theorem d__law_grammar : (("_law_grammar" : Str) == ("__debug__" : Str)) = false := by decide +kernel
theorem i_law_base : N_law[4]? = some ("base" : Str) := rfl
theorem k_law_base : List.lookup ("base" : Str) (defScope s_law).names = some .local := by decide +kernel
theorem i_law_row : N_law[3]? = some ("row" : Str) := rfl
theorem k_law_row : List.lookup ("row" : Str) (defScope s_law).names = some .local := by decide +kernel
theorem i_law_sizes : N_law[2]? = some ("sizes" : Str) := rfl
theorem k_law_sizes : List.lookup ("sizes" : Str) (defScope s_law).names = some .local := by decide +kernel
theorem i_law_rules : N_law[1]? = some ("rules" : Str) := rfl
theorem k_law_rules : List.lookup ("rules" : Str) (defScope s_law).names = some .local := by decide +kernel
theorem k_law_len : List.lookup ("len" : Str) (defScope s_law).names = some .globalImplicit := by decide +kernel
theorem k_law_range : List.lookup ("range" : Str) (defScope s_law).names = some .globalImplicit := by decide +kernel
theorem i_law_k : N_law[7]? = some ("k" : Str) := rfl
theorem k_law_1_k : List.lookup ("k" : Str) S_law_1 = some .local := by decide +kernel
theorem i_law_doubled : N_law[5]? = some ("doubled" : Str) := rfl
theorem k_law_doubled : List.lookup ("doubled" : Str) (defScope s_law).names = some .local := by decide +kernel
theorem d_doubled : (("doubled" : Str) == ("__debug__" : Str)) = false := by decide +kernel
theorem e_doubled : (("doubled" : Str) == ("__classdict__" : Str)) = false := by decide +kernel
theorem k_law__law_refused : List.lookup ("_law_refused" : Str) (defScope s_law).names = some .globalImplicit := by decide +kernel
theorem i_law_last : N_law[6]? = some ("last" : Str) := rfl
theorem k_law_last : List.lookup ("last" : Str) (defScope s_law).names = some .local := by decide +kernel
theorem k_law__law_good : List.lookup ("_law_good" : Str) (defScope s_law).names = some .globalImplicit := by decide +kernel
theorem d__law_good : (("_law_good" : Str) == ("__debug__" : Str)) = false := by decide +kernel
theorem d_last : (("last" : Str) == ("__debug__" : Str)) = false := by decide +kernel
theorem e_last : (("last" : Str) == ("__classdict__" : Str)) = false := by decide +kernel
structure Txt (K : PySem.W.Frag) (mg : Str → Option Value) where
  C_PackError : Addr
  C_NoNumber : Addr
  C_NoCode : Addr
  C_NoPlace : Addr
  C_Broken : Addr
  C_NoText : Addr
  C_NoName : Addr
  C_NoRow : Addr
  m_PackError : mg "PackError" = some (.ref C_PackError)
  cf_PackError : ClsF K C_PackError
  m_NoNumber : mg "NoNumber" = some (.ref C_NoNumber)
  cf_NoNumber : ClsF K C_NoNumber
  m_NoCode : mg "NoCode" = some (.ref C_NoCode)
  cf_NoCode : ClsF K C_NoCode
  m_NoPlace : mg "NoPlace" = some (.ref C_NoPlace)
  cf_NoPlace : ClsF K C_NoPlace
  m_Broken : mg "Broken" = some (.ref C_Broken)
  cf_Broken : ClsF K C_Broken
  m_NoText : mg "NoText" = some (.ref C_NoText)
  cf_NoText : ClsF K C_NoText
  m_NoName : mg "NoName" = some (.ref C_NoName)
  cf_NoName : ClsF K C_NoName
  m_NoRow : mg "NoRow" = some (.ref C_NoRow)
  cf_NoRow : ClsF K C_NoRow
  x_Broken : PySem.W.excIn K C_Broken [.type "ValueError", .type "Exception", .type "BaseException", .type "object"] "ValueError.__new__" = true
  kc_Broken : PySem.W.keepIn K (.ref C_Broken) = true
  tab : AllT K ⟨fun i => match i with | 0 => C_PackError | 1 => C_NoNumber | 2 => C_NoCode | 3 => C_NoPlace | 4 => C_Broken | 5 => C_NoText | 6 => C_NoName | 7 => C_NoRow | _ => C_PackError, K⟩ tab
  n_len : mg "len" = none
  n_min : mg "min" = none
  n_range : mg "range" = none
  n_sum : mg "sum" = none
  n_isinstance : mg "isinstance" = none
  n_int : mg "int" = none
  n_bool : mg "bool" = none
  n_enumerate : mg "enumerate" = none
  n_tuple : mg "tuple" = none
  n_all : mg "all" = none
  n_list : mg "list" = none
  n_reversed : mg "reversed" = none
  n_ValueError : mg "ValueError" = none
  t_FIRST : Tok
  g_FIRST : mg "FIRST" = some (.int 256 t_FIRST)
  t_MOST_SIGNS : Tok
  g_MOST_SIGNS : mg "MOST_SIGNS" = some (.int 400 t_MOST_SIGNS)
  a__law_cell_at : Addr
  fd__law_cell_at : FuncData
  F__law_cell_at : Fun K "_law_cell_at" "_law_cell_at" s__law_cell_at a__law_cell_at fd__law_cell_at
  m__law_cell_at : mg "_law_cell_at" = some (.ref a__law_cell_at)
  k__law_cell_at : PySem.W.keepIn K (.ref a__law_cell_at) = true
  b__law_cell_at : Binds K fd__law_cell_at ["script", "k"] []
  a__law_symbol : Addr
  fd__law_symbol : FuncData
  F__law_symbol : Fun K "_law_symbol" "_law_symbol" s__law_symbol a__law_symbol fd__law_symbol
  m__law_symbol : mg "_law_symbol" = some (.ref a__law_symbol)
  k__law_symbol : PySem.W.keepIn K (.ref a__law_symbol) = true
  b__law_symbol : Binds K fd__law_symbol ["number", "rules", "base"] []
  a__law_stir : Addr
  fd__law_stir : FuncData
  F__law_stir : Fun K "_law_stir" "_law_stir" s__law_stir a__law_stir fd__law_stir
  m__law_stir : mg "_law_stir" = some (.ref a__law_stir)
  k__law_stir : PySem.W.keepIn K (.ref a__law_stir) = true
  b__law_stir : Binds K fd__law_stir ["cell", "k"] []
  a__law_size : Addr
  fd__law_size : FuncData
  F__law_size : Fun K "_law_size" "_law_size" s__law_size a__law_size fd__law_size
  m__law_size : mg "_law_size" = some (.ref a__law_size)
  k__law_size : PySem.W.keepIn K (.ref a__law_size) = true
  b__law_size : Binds K fd__law_size ["sizes", "symbol"] []
  a__law_grammar : Addr
  fd__law_grammar : FuncData
  F__law_grammar : Fun K "_law_grammar" "_law_grammar" s__law_grammar a__law_grammar fd__law_grammar
  m__law_grammar : mg "_law_grammar" = some (.ref a__law_grammar)
  k__law_grammar : PySem.W.keepIn K (.ref a__law_grammar) = true
  b__law_grammar : Binds K fd__law_grammar ["script", "most"] []
  a__law_put_in : Addr
  fd__law_put_in : FuncData
  F__law_put_in : Fun K "_law_put_in" "_law_put_in" s__law_put_in a__law_put_in fd__law_put_in
  m__law_put_in : mg "_law_put_in" = some (.ref a__law_put_in)
  k__law_put_in : PySem.W.keepIn K (.ref a__law_put_in) = true
  b__law_put_in : Binds K fd__law_put_in ["rules", "row"] []
  a_is_symbol : Addr
  fd_is_symbol : FuncData
  F_is_symbol : Fun K "is_symbol" "is_symbol" s_is_symbol a_is_symbol fd_is_symbol
  m_is_symbol : mg "is_symbol" = some (.ref a_is_symbol)
  k_is_symbol : PySem.W.keepIn K (.ref a_is_symbol) = true
  b_is_symbol : Binds K fd_is_symbol ["thing", "many"] []
  a_need_grammar : Addr
  fd_need_grammar : FuncData
  F_need_grammar : Fun K "need_grammar" "need_grammar" s_need_grammar a_need_grammar fd_need_grammar
  m_need_grammar : mg "need_grammar" = some (.ref a_need_grammar)
  k_need_grammar : PySem.W.keepIn K (.ref a_need_grammar) = true
  b_need_grammar : Binds K fd_need_grammar ["rules", "row"] []
  a_sizes_of : Addr
  fd_sizes_of : FuncData
  F_sizes_of : Fun K "sizes_of" "sizes_of" s_sizes_of a_sizes_of fd_sizes_of
  m_sizes_of : mg "sizes_of" = some (.ref a_sizes_of)
  k_sizes_of : PySem.W.keepIn K (.ref a_sizes_of) = true
  b_sizes_of : Binds K fd_sizes_of ["rules"] []
  a_length_by : Addr
  fd_length_by : FuncData
  F_length_by : Fun K "length_by" "length_by" s_length_by a_length_by fd_length_by
  m_length_by : mg "length_by" = some (.ref a_length_by)
  k_length_by : PySem.W.keepIn K (.ref a_length_by) = true
  b_length_by : Binds K fd_length_by ["rules", "row"] []
  a_signs_from : Addr
  fd_signs_from : FuncData
  F_signs_from : Fun K "signs_from" "signs_from" s_signs_from a_signs_from fd_signs_from
  m_signs_from : mg "signs_from" = some (.ref a_signs_from)
  k_signs_from : PySem.W.keepIn K (.ref a_signs_from) = true
  b_signs_from : Binds K fd_signs_from ["rules", "row", "skipped", "many"] []
  a_grammar_text : Addr
  fd_grammar_text : FuncData
  F_grammar_text : Fun K "grammar_text" "grammar_text" s_grammar_text a_grammar_text fd_grammar_text
  m_grammar_text : mg "grammar_text" = some (.ref a_grammar_text)
  k_grammar_text : PySem.W.keepIn K (.ref a_grammar_text) = true
  b_grammar_text : Binds K fd_grammar_text ["rules", "row"] []
  a__law_refused : Addr
  fd__law_refused : FuncData
  F__law_refused : Fun K "_law_refused" "_law_refused" s__law_refused a__law_refused fd__law_refused
  m__law_refused : mg "_law_refused" = some (.ref a__law_refused)
  k__law_refused : PySem.W.keepIn K (.ref a__law_refused) = true
  b__law_refused : Binds K fd__law_refused ["rules", "row"] []
  a__law_good : Addr
  fd__law_good : FuncData
  F__law_good : Fun K "_law_good" "_law_good" s__law_good a__law_good fd__law_good
  m__law_good : mg "_law_good" = some (.ref a__law_good)
  k__law_good : PySem.W.keepIn K (.ref a__law_good) = true
  b__law_good : Binds K fd__law_good ["rules", "row"] []
  a_law : Addr
  fd_law : FuncData
  F_law : Fun K "law" "law" s_law a_law fd_law
  m_law : mg "law" = some (.ref a_law)
  k_law : PySem.W.keepIn K (.ref a_law) = true
  b_law : Binds K fd_law ["script"] []
section
variable {P : Program} {w : World} {K : PySem.W.Frag} {mg : Str → Option Value} {base : Heap}
abbrev Txt.G (T : Txt K mg) : GX := ⟨fun i => match i with | 0 => T.C_PackError | 1 => T.C_NoNumber | 2 => T.C_NoCode | 3 => T.C_NoPlace | 4 => T.C_Broken | 5 => T.C_NoText | 6 => T.C_NoName | 7 => T.C_NoRow | _ => T.C_PackError, K⟩
theorem ok__law_cell_at (T : Txt K mg) : FnOk P w K mg base (L2.CX P w) 1 T.a__law_cell_at T.fd__law_cell_at ["script", "k"] (spV T.G 2 F__law_cell_at) := by
  have ND := sc__law_cell_at.nd
  exact fnV2 (N := N__law_cell_at) (ps := ["script", "k"]) (G := T.G) (k := 0) (fb := f__law_cell_at) T.F__law_cell_at sc__law_cell_at fun cdv A outer s H E C hr hp =>
  (vss_cons (vs_if (vt_cmp os_lt (ve_var i__law_cell_at_k (.inl k__law_cell_at_k) d_k e_k) (ve_callB rfl cs_len k__law_cell_at_len T.n_len v_len (va_cons (ve_var i__law_cell_at_script (.inl k__law_cell_at_script) d_script e_script) va_nil) nn_len d_len) (nomark _)) (vss_one (vs_ret (ve_ix rfl (ve_var i__law_cell_at_script (.inl k__law_cell_at_script) d_script e_script) (ve_var i__law_cell_at_k (.inl k__law_cell_at_k) d_k e_k) (fun _ _ => rfl)))) vss_nil)
  (vss_one (vs_ret ve_int)))
theorem ok__law_symbol (T : Txt K mg) : FnOk P w K mg base (L2.CX P w) 1 T.a__law_symbol T.fd__law_symbol ["number", "rules", "base"] (spV T.G 3 F__law_symbol) := by
  have ND := sc__law_symbol.nd
  exact fnV2 (N := N__law_symbol) (ps := ["number", "rules", "base"]) (G := T.G) (k := 0) (fb := f__law_symbol) T.F__law_symbol sc__law_symbol fun cdv A outer s H E C hr hp =>
  (vss_cons (vs_if (VW.pt (vw_or (vt_cmp (os_eq hr.units) (ve_var i__law_symbol_rules (.inl k__law_symbol_rules) d_rules e_rules) (ve_lst va_nil) (nomark _)) (vw_or1 (vt_cmp (os_eq hr.units) (ve_bin os_mod (ve_var i__law_symbol_number (.inl k__law_symbol_number) d_number e_number) ve_int) ve_int (nomark _))))) (vss_one (vs_ret (ve_bin os_mod (ve_bin os_div (ve_var i__law_symbol_number (.inl k__law_symbol_number) d_number e_number) ve_int) (ve_var i__law_symbol_base (.inl k__law_symbol_base) d_base e_base)))) vss_nil)
  (vss_cons (vs_if (vt_cmp (os_eq hr.units) (ve_bin os_mod (ve_var i__law_symbol_number (.inl k__law_symbol_number) d_number e_number) ve_int) ve_int (nomark _)) (vss_one (vs_ret (ve_bin os_sub (ve_bin os_add ve_int (ve_callB rfl cs_len k__law_symbol_len T.n_len v_len (va_cons (ve_var i__law_symbol_rules (.inl k__law_symbol_rules) d_rules e_rules) va_nil) nn_len d_len)) (ve_bin os_mod (ve_bin os_div (ve_var i__law_symbol_number (.inl k__law_symbol_number) d_number e_number) ve_int) (ve_callB rfl (cs_min2 rfl) k__law_symbol_min T.n_min v_min (va_cons ve_int (va_cons (ve_callB rfl cs_len k__law_symbol_len T.n_len v_len (va_cons (ve_var i__law_symbol_rules (.inl k__law_symbol_rules) d_rules e_rules) va_nil) nn_len d_len) va_nil)) nn_min d_min))))) vss_nil)
  (vss_one (vs_ret (ve_bin os_add ve_int (ve_bin os_mod (ve_bin os_div (ve_var i__law_symbol_number (.inl k__law_symbol_number) d_number e_number) ve_int) (ve_callB rfl cs_len k__law_symbol_len T.n_len v_len (va_cons (ve_var i__law_symbol_rules (.inl k__law_symbol_rules) d_rules e_rules) va_nil) nn_len d_len)))))))
theorem ok__law_stir (T : Txt K mg) : FnOk P w K mg base (L2.CX P w) 1 T.a__law_stir T.fd__law_stir ["cell", "k"] (spV T.G 2 F__law_stir) := by
  have ND := sc__law_stir.nd
  exact fnV2 (N := N__law_stir) (ps := ["cell", "k"]) (G := T.G) (k := 0) (fb := f__law_stir) T.F__law_stir sc__law_stir fun cdv A outer s H E C hr hp =>
  (vss_cons (vs_set ND i__law_stir_number (.inl k__law_stir_number) (pinV hp 2) (ve_bin os_mod (ve_bin os_add (ve_bin os_add (ve_bin os_mul (ve_bin os_mod (ve_var i__law_stir_cell (.inl k__law_stir_cell) d_cell e_cell) (ve_bin os_pow ve_int ve_int)) ve_int) (ve_bin os_mul ve_int (ve_var i__law_stir_k (.inl k__law_stir_k) d_k e_k))) ve_int) ve_int))
  (vss_cons (vs_set ND i__law_stir_number (.inl k__law_stir_number) (pinV hp 2) (ve_bin os_mod (ve_bin os_add (ve_bin os_mul (ve_var i__law_stir_number (.inl k__law_stir_number) d_number e_number) (ve_var i__law_stir_number (.inl k__law_stir_number) d_number e_number)) (ve_bin os_mul ve_int (ve_var i__law_stir_number (.inl k__law_stir_number) d_number e_number))) ve_int))
  (vss_one (vs_ret (ve_bin os_add (ve_bin os_mod (ve_bin os_mul (ve_var i__law_stir_number (.inl k__law_stir_number) d_number e_number) (ve_var i__law_stir_number (.inl k__law_stir_number) d_number e_number)) ve_int) (ve_var i__law_stir_number (.inl k__law_stir_number) d_number e_number))))))
theorem ok__law_size (T : Txt K mg) : FnOk P w K mg base (L2.CX P w) 1 T.a__law_size T.fd__law_size ["sizes", "symbol"] (spV T.G 2 F__law_size) := by
  have ND := sc__law_size.nd
  exact fnV2 (N := N__law_size) (ps := ["sizes", "symbol"]) (G := T.G) (k := 0) (fb := f__law_size) T.F__law_size sc__law_size fun cdv A outer s H E C hr hp =>
  (vss_cons (vs_if (vt_cmp os_lt (ve_var i__law_size_symbol (.inl k__law_size_symbol) d_symbol e_symbol) ve_int (nomark _)) (vss_one (vs_ret ve_int)) vss_nil)
  (vss_one (vs_ret (ve_ix rfl (ve_var i__law_size_sizes (.inl k__law_size_sizes) d_sizes e_sizes) (ve_bin os_sub (ve_var i__law_size_symbol (.inl k__law_size_symbol) d_symbol e_symbol) ve_int) (fun _ _ => rfl)))))
theorem ok__law_grammar (T : Txt K mg) : FnOk P w K mg base (L2.CX P w) 2 T.a__law_grammar T.fd__law_grammar ["script", "most"] (spV T.G 2 F__law_grammar) := by
  have ND := sc__law_grammar.nd
  exact fnV2 (N := N__law_grammar) (ps := ["script", "most"]) (G := T.G) (k := 1) (fb := f__law_grammar) T.F__law_grammar sc__law_grammar fun cdv A outer s H E C hr hp =>
  (vss_cons (vs_set ND i__law_grammar_first (.inl k__law_grammar_first) (pinV hp 2) (ve_call (takes_of rfl rfl rfl rfl) (ok__law_cell_at T) (hr.mono (by decide)) k__law_grammar__law_cell_at T.m__law_cell_at T.k__law_cell_at T.b__law_cell_at (va_cons (ve_var i__law_grammar_script (.inl k__law_grammar_script) d_script e_script) (va_cons ve_int va_nil)) d__law_cell_at))
  (vss_cons (vs_set ND i__law_grammar_base (.inl k__law_grammar_base) (pinV hp 3) (ve_ix rfl (ve_lst (va_cons (ve_set ve_int) (va_cons (ve_set ve_int) (va_cons (ve_set ve_int) (va_cons (ve_set ve_int) va_nil))))) (ve_bin os_mod (ve_bin os_div (ve_var i__law_grammar_first (.inl k__law_grammar_first) d_first e_first) ve_int) ve_int) (fun _ _ => rfl)))
  (vss_cons (vs_set ND i__law_grammar_rules (.inl k__law_grammar_rules) (pinV hp 4) (ve_lst va_nil))
  (vss_cons (vs_set ND i__law_grammar_sizes (.inr k__law_grammar_sizes) (pinV hp 5) (ve_lst va_nil))
  (vss_cons (vs_for (passes_of rfl) rfl (vi_range2 k__law_grammar_range T.n_range (va_cons ve_int (va_cons (ve_callB rfl (cs_min2 rfl) k__law_grammar_min T.n_min v_min (va_cons (ve_callB rfl cs_len k__law_grammar_len T.n_len v_len (va_cons (ve_var i__law_grammar_script (.inl k__law_grammar_script) d_script e_script) va_nil) nn_len d_len) (va_cons ve_int va_nil)) nn_min d_min) va_nil))) (vg_name ND i__law_grammar_k (.inl k__law_grammar_k) (pinV hp 6)) (vss_cons (vs_set ND i__law_grammar_number (.inl k__law_grammar_number) (pinV hp 7) (ve_ix rfl (ve_lst (va_cons (ve_set (ve_ix rfl (ve_var i__law_grammar_script (.inl k__law_grammar_script) d_script e_script) (ve_var i__law_grammar_k (.inl k__law_grammar_k) d_k e_k) (fun _ _ => rfl))) (va_cons (ve_set (ve_call (takes_of rfl rfl rfl rfl) (ok__law_stir T) (hr.mono (by decide)) k__law_grammar__law_stir T.m__law_stir T.k__law_stir T.b__law_stir (va_cons (ve_ix rfl (ve_var i__law_grammar_script (.inl k__law_grammar_script) d_script e_script) (ve_var i__law_grammar_k (.inl k__law_grammar_k) d_k e_k) (fun _ _ => rfl)) (va_cons (ve_var i__law_grammar_k (.inl k__law_grammar_k) d_k e_k) va_nil)) d__law_stir)) va_nil))) (ve_bin os_mod (ve_var i__law_grammar_first (.inl k__law_grammar_first) d_first e_first) ve_int) (fun _ _ => rfl)))
  (vss_cons (vs_set ND i__law_grammar_one (.inl k__law_grammar_one) (pinV hp 8) (ve_call (takes_of rfl rfl rfl rfl) (ok__law_symbol T) (hr.mono (by decide)) k__law_grammar__law_symbol T.m__law_symbol T.k__law_symbol T.b__law_symbol (va_cons (ve_var i__law_grammar_number (.inl k__law_grammar_number) d_number e_number) (va_cons (ve_var i__law_grammar_rules (.inl k__law_grammar_rules) d_rules e_rules) (va_cons (ve_var i__law_grammar_base (.inl k__law_grammar_base) d_base e_base) va_nil))) d__law_symbol))
  (vss_cons (vs_set ND i__law_grammar_other (.inl k__law_grammar_other) (pinV hp 9) (ve_call (takes_of rfl rfl rfl rfl) (ok__law_symbol T) (hr.mono (by decide)) k__law_grammar__law_symbol T.m__law_symbol T.k__law_symbol T.b__law_symbol (va_cons (ve_bin os_div (ve_var i__law_grammar_number (.inl k__law_grammar_number) d_number e_number) ve_int) (va_cons (ve_var i__law_grammar_rules (.inl k__law_grammar_rules) d_rules e_rules) (va_cons (ve_var i__law_grammar_base (.inl k__law_grammar_base) d_base e_base) va_nil))) d__law_symbol))
  (vss_one (vs_for (passes_of rfl) rfl (vi_range1 k__law_grammar_range T.n_range (va_cons (ve_bin os_add ve_int (ve_bin os_mod (ve_bin os_div (ve_var i__law_grammar_number (.inl k__law_grammar_number) d_number e_number) ve_int) (ve_ix rfl (ve_lst (va_cons (ve_set ve_int) (va_cons (ve_set ve_int) (va_cons (ve_set ve_int) va_nil)))) (ve_bin os_mod (ve_bin os_div (ve_var i__law_grammar_first (.inl k__law_grammar_first) d_first e_first) ve_int) ve_int) (fun _ _ => rfl)))) va_nil)) (vg_name ND i__law_grammar_turn (.inl k__law_grammar_turn) (pinV hp 10)) (vss_cons (vs_if (VW.pt (vw_and (vt_cmp (os_ne hr.units) (ve_var i__law_grammar_rules (.inl k__law_grammar_rules) d_rules e_rules) (ve_lst va_nil) (nomark _)) (vw_and1 (vt_cmp os_gt (ve_var i__law_grammar_turn (.inl k__law_grammar_turn) d_turn e_turn) ve_int (nomark _))))) (vss_cons (vs_set ND i__law_grammar_one (.inl k__law_grammar_one) (pinV hp 8) (ve_bin os_add ve_int (ve_callB rfl cs_len k__law_grammar_len T.n_len v_len (va_cons (ve_var i__law_grammar_rules (.inl k__law_grammar_rules) d_rules e_rules) va_nil) nn_len d_len)))
  (vss_one (vs_set ND i__law_grammar_other (.inl k__law_grammar_other) (pinV hp 9) (ve_ix rfl (ve_lst (va_cons (ve_set (ve_var i__law_grammar_one (.inl k__law_grammar_one) d_one e_one)) (va_cons (ve_set (ve_var i__law_grammar_other (.inl k__law_grammar_other) d_other e_other)) va_nil))) (ve_bin os_mod (ve_bin os_div (ve_var i__law_grammar_number (.inl k__law_grammar_number) d_number e_number) ve_int) ve_int) (fun _ _ => rfl))))) vss_nil)
  (vss_one (vs_if (VW.pt (vw_and (vt_cmp os_le (ve_bin os_add (ve_call (takes_of rfl rfl rfl rfl) (ok__law_size T) (hr.mono (by decide)) k__law_grammar__law_size T.m__law_size T.k__law_size T.b__law_size (va_cons (ve_var i__law_grammar_sizes (.inr (.inl k__law_grammar_sizes)) d_sizes e_sizes) (va_cons (ve_var i__law_grammar_one (.inl k__law_grammar_one) d_one e_one) va_nil)) d__law_size) (ve_call (takes_of rfl rfl rfl rfl) (ok__law_size T) (hr.mono (by decide)) k__law_grammar__law_size T.m__law_size T.k__law_size T.b__law_size (va_cons (ve_var i__law_grammar_sizes (.inr (.inl k__law_grammar_sizes)) d_sizes e_sizes) (va_cons (ve_var i__law_grammar_other (.inl k__law_grammar_other) d_other e_other) va_nil)) d__law_size)) (ve_var i__law_grammar_most (.inl k__law_grammar_most) d_most e_most) (nomark _)) (vw_and1 (vt_cmp os_lt (ve_callB rfl cs_len k__law_grammar_len T.n_len v_len (va_cons (ve_var i__law_grammar_rules (.inl k__law_grammar_rules) d_rules e_rules) va_nil) nn_len d_len) ve_int (nomark _))))) (vss_cons (vs_expr (ve_app i__law_grammar_sizes (.inr (.inl k__law_grammar_sizes)) d_sizes e_sizes (ve_bin os_add (ve_call (takes_of rfl rfl rfl rfl) (ok__law_size T) (hr.mono (by decide)) k__law_grammar__law_size T.m__law_size T.k__law_size T.b__law_size (va_cons (ve_var i__law_grammar_sizes (.inr (.inl k__law_grammar_sizes)) d_sizes e_sizes) (va_cons (ve_var i__law_grammar_one (.inl k__law_grammar_one) d_one e_one) va_nil)) d__law_size) (ve_call (takes_of rfl rfl rfl rfl) (ok__law_size T) (hr.mono (by decide)) k__law_grammar__law_size T.m__law_size T.k__law_size T.b__law_size (va_cons (ve_var i__law_grammar_sizes (.inr (.inl k__law_grammar_sizes)) d_sizes e_sizes) (va_cons (ve_var i__law_grammar_other (.inl k__law_grammar_other) d_other e_other) va_nil)) d__law_size))))
  (vss_one (vs_expr (ve_app i__law_grammar_rules (.inl k__law_grammar_rules) d_rules e_rules (ve_tup (va_cons (ve_set (ve_var i__law_grammar_one (.inl k__law_grammar_one) d_one e_one)) (va_cons (ve_set (ve_var i__law_grammar_other (.inl k__law_grammar_other) d_other e_other)) va_nil))))))) vss_nil)))))))))
  (vss_cons (vs_set ND i__law_grammar_row (.inl k__law_grammar_row) (pinV hp 11) (ve_lst va_nil))
  (vss_cons (vs_set ND i__law_grammar_cell (.inl k__law_grammar_cell) (pinV hp 12) (ve_call (takes_of rfl rfl rfl rfl) (ok__law_cell_at T) (hr.mono (by decide)) k__law_grammar__law_cell_at T.m__law_cell_at T.k__law_cell_at T.b__law_cell_at (va_cons (ve_var i__law_grammar_script (.inl k__law_grammar_script) d_script e_script) (va_cons ve_int va_nil)) d__law_cell_at))
  (vss_cons (vs_for (passes_of rfl) rfl (vi_range1 k__law_grammar_range T.n_range (va_cons (ve_bin os_mod (ve_var i__law_grammar_cell (.inl k__law_grammar_cell) d_cell e_cell) ve_int) va_nil)) (vg_name ND i__law_grammar_k (.inl k__law_grammar_k) (pinV hp 6)) (vss_cons (vs_set ND i__law_grammar_cell (.inl k__law_grammar_cell) (pinV hp 12) (ve_bin os_div (ve_var i__law_grammar_cell (.inl k__law_grammar_cell) d_cell e_cell) ve_int))
  (vss_cons (vs_set ND i__law_grammar_symbol (.inl k__law_grammar_symbol) (pinV hp 13) (ve_call (takes_of rfl rfl rfl rfl) (ok__law_symbol T) (hr.mono (by decide)) k__law_grammar__law_symbol T.m__law_symbol T.k__law_symbol T.b__law_symbol (va_cons (ve_var i__law_grammar_cell (.inl k__law_grammar_cell) d_cell e_cell) (va_cons (ve_var i__law_grammar_rules (.inl k__law_grammar_rules) d_rules e_rules) (va_cons (ve_var i__law_grammar_base (.inl k__law_grammar_base) d_base e_base) va_nil))) d__law_symbol))
  (vss_one (vs_if (vt_cmp os_le (ve_bin os_add (ve_callB rfl (cs_sum rfl) k__law_grammar_sum T.n_sum v_sum (va_cons (ve_lcO rfl ND (own := [("one", 8)]) i__law_grammar_row (.inl k__law_grammar_row) d_row e_row (show BlkOk N__law_grammar (defScope s__law_grammar) _ _ from blkOk_by (by decide +kernel)) (pinVo hp [8]) (by decide) (fun _ _ _ _ _ _ => (vg_name ND i__law_grammar_one (.inl (cv_own k__law_grammar_1_one)) (pinC (pinV hp 8) (by decide)))) (fun _ _ _ _ _ _ => vts_nil) (fun _ _ _ _ _ _ => (ve_call takes0 (ok__law_size T) (hr.mono (by decide)) (cv_gl k__law_grammar_1__law_size) T.m__law_size T.k__law_size T.b__law_size (va_cons (ve_var i__law_grammar_sizes (cv_free k__law_grammar_1_sizes) d_sizes e_sizes) (va_cons (ve_var i__law_grammar_one (.inl (cv_own k__law_grammar_1_one)) d_one e_one) va_nil)) d__law_size))) va_nil) nn_sum d_sum) (ve_call (takes_of rfl rfl rfl rfl) (ok__law_size T) (hr.mono (by decide)) k__law_grammar__law_size T.m__law_size T.k__law_size T.b__law_size (va_cons (ve_var i__law_grammar_sizes (.inr (.inl k__law_grammar_sizes)) d_sizes e_sizes) (va_cons (ve_var i__law_grammar_symbol (.inl k__law_grammar_symbol) d_symbol e_symbol) va_nil)) d__law_size)) (ve_var i__law_grammar_most (.inl k__law_grammar_most) d_most e_most) (nomark _)) (vss_one (vs_expr (ve_app i__law_grammar_row (.inl k__law_grammar_row) d_row e_row (ve_var i__law_grammar_symbol (.inl k__law_grammar_symbol) d_symbol e_symbol)))) vss_nil)))))
  (vss_one (vs_ret (ve_lst (va_cons (ve_set (ve_var i__law_grammar_rules (.inl k__law_grammar_rules) d_rules e_rules)) (va_cons (ve_set (ve_var i__law_grammar_sizes (.inr (.inl k__law_grammar_sizes)) d_sizes e_sizes)) (va_cons (ve_set (ve_var i__law_grammar_row (.inl k__law_grammar_row) d_row e_row)) (va_cons (ve_set (ve_var i__law_grammar_base (.inl k__law_grammar_base) d_base e_base)) va_nil)))))))))))))))
theorem ok__law_put_in (T : Txt K mg) : FnOk P w K mg base (L2.CX P w) 1 T.a__law_put_in T.fd__law_put_in ["rules", "row"] (spV T.G 2 F__law_put_in) := by
  have ND := sc__law_put_in.nd
  exact fnV2 (N := N__law_put_in) (ps := ["rules", "row"]) (G := T.G) (k := 0) (fb := f__law_put_in) T.F__law_put_in sc__law_put_in fun cdv A outer s H E C hr hp =>
  (vss_cons (vs_setLc rfl ND i__law_put_in_texts k__law_put_in_texts (pinV hp 2) (sw_true sc__law_put_in.kind k__law_put_in_texts rfl (by decide +kernel)) (own := [("sign", 7)]) (vi_range1 k__law_put_in_range T.n_range (va_cons ve_int va_nil)) (show BlkOk N__law_put_in (defScope s__law_put_in) _ _ from blkOk_by (by decide +kernel)) (pinVo hp [7]) (by decide) (fun _ _ _ _ _ => (vg_name ND i__law_put_in_sign (.inl (cv_own k__law_put_in_1_sign)) (pinV hp 7))) (fun _ _ _ _ _ => vts_nil) (fun _ _ _ _ _ => (ve_lst (va_cons (ve_set (ve_var i__law_put_in_sign (.inl (cv_own k__law_put_in_1_sign)) d_sign e_sign)) va_nil))))
  (vss_cons (vs_for (passes_of rfl) rfl (vi_list rfl (ve_var i__law_put_in_rules (.inl k__law_put_in_rules) d_rules e_rules)) (vg_tup rfl (vgs_cons ND i__law_put_in_one (.inl k__law_put_in_one) (pinV hp 3) (vgs_cons ND i__law_put_in_other (.inl k__law_put_in_other) (pinV hp 4) vgs_nil))) (vss_one (vs_expr (ve_app i__law_put_in_texts (.inl k__law_put_in_texts) d_texts e_texts (ve_bin os_add (ve_ix rfl (ve_var i__law_put_in_texts (.inl k__law_put_in_texts) d_texts e_texts) (ve_var i__law_put_in_one (.inl k__law_put_in_one) d_one e_one) (fun _ _ => rfl)) (ve_ix rfl (ve_var i__law_put_in_texts (.inl k__law_put_in_texts) d_texts e_texts) (ve_var i__law_put_in_other (.inl k__law_put_in_other) d_other e_other) (fun _ _ => rfl)))))))
  (vss_cons (vs_set ND i__law_put_in_found (.inl k__law_put_in_found) (pinV hp 5) (ve_lst va_nil))
  (vss_cons (vs_for (passes_of rfl) rfl (vi_list rfl (ve_var i__law_put_in_row (.inl k__law_put_in_row) d_row e_row)) (vg_name ND i__law_put_in_symbol (.inl k__law_put_in_symbol) (pinV hp 6)) (vss_one (vs_set ND i__law_put_in_found (.inl k__law_put_in_found) (pinV hp 5) (ve_bin os_add (ve_var i__law_put_in_found (.inl k__law_put_in_found) d_found e_found) (ve_ix rfl (ve_var i__law_put_in_texts (.inl k__law_put_in_texts) d_texts e_texts) (ve_var i__law_put_in_symbol (.inl k__law_put_in_symbol) d_symbol e_symbol) (fun _ _ => rfl))))))
  (vss_one (vs_ret (ve_var i__law_put_in_found (.inl k__law_put_in_found) d_found e_found)))))))
theorem ok_is_symbol (T : Txt K mg) : FnOk P w K mg base (L2.CX P w) 1 T.a_is_symbol T.fd_is_symbol ["thing", "many"] (spV T.G 2 F_is_symbol) := by
  have ND := sc_is_symbol.nd
  exact fnV2 (N := N_is_symbol) (ps := ["thing", "many"]) (G := T.G) (k := 0) (fb := f_is_symbol) T.F_is_symbol sc_is_symbol fun cdv A outer s H E C hr hp =>
  (vss_one (vs_ret (ve_and (ve_isi T.tab.etab k_is_symbol_isinstance T.n_isinstance v_isinstance (va_cons (ve_var i_is_symbol_thing (.inl k_is_symbol_thing) d_thing e_thing) (va_cons (ve_gty k_is_symbol_int T.n_int v_int nn_int d_int) va_nil)) nn_isinstance d_isinstance) (ve_and (ve_not (ve_isi T.tab.etab k_is_symbol_isinstance T.n_isinstance v_isinstance (va_cons (ve_var i_is_symbol_thing (.inl k_is_symbol_thing) d_thing e_thing) (va_cons (ve_gty k_is_symbol_bool T.n_bool v_bool nn_bool d_bool) va_nil)) nn_isinstance d_isinstance)) (ve_and (ve_cmp os_ge (ve_var i_is_symbol_thing (.inl k_is_symbol_thing) d_thing e_thing) ve_int (nomark _)) (ve_one (ve_cmp os_lt (ve_var i_is_symbol_thing (.inl k_is_symbol_thing) d_thing e_thing) (ve_bin os_add (ve_gint k_is_symbol_FIRST T.g_FIRST d_FIRST) (ve_var i_is_symbol_many (.inl k_is_symbol_many) d_many e_many)) (nomark _))))))))
theorem ok_need_grammar (T : Txt K mg) : FnOk P w K mg base (L2.CX P w) 2 T.a_need_grammar T.fd_need_grammar ["rules", "row"] (spV T.G 2 F_need_grammar) := by
  have ND := sc_need_grammar.nd
  exact fnV2 (N := N_need_grammar) (ps := ["rules", "row"]) (G := T.G) (k := 1) (fb := f_need_grammar) T.F_need_grammar sc_need_grammar fun cdv A outer s H E C hr hp =>
  (vss_cons (vs_for (passes_of rfl) rfl (vi_enum rfl k_need_grammar_enumerate T.n_enumerate (va_cons (ve_set (ve_var i_need_grammar_rules (.inr (.inl k_need_grammar_rules)) d_rules e_rules)) va_nil)) (vg_tup rfl (vgs_cons ND i_need_grammar_number (.inr k_need_grammar_number) (pinV hp 2) (vgs_cons ND i_need_grammar_rule (.inl k_need_grammar_rule) (pinV hp 3) vgs_nil))) (vss_one (vs_if (VW.pt (vw_or (vt_not (vt_val (ve_isi T.tab.etab k_need_grammar_isinstance T.n_isinstance v_isinstance (va_cons (ve_var i_need_grammar_rule (.inl k_need_grammar_rule) d_rule e_rule) (va_cons (ve_gty k_need_grammar_tuple T.n_tuple v_tuple nn_tuple d_tuple) va_nil)) nn_isinstance d_isinstance) (fun _ => rfl))) (vw_or (vt_cmp (os_ne hr.units) (ve_callB rfl cs_len k_need_grammar_len T.n_len v_len (va_cons (ve_var i_need_grammar_rule (.inl k_need_grammar_rule) d_rule e_rule) va_nil) nn_len d_len) ve_int (nomark _)) (vw_or1 (vt_not (vt_truth (ve_callB rfl (cs_allL rfl) k_need_grammar_all T.n_all v_all (va_cons (ve_lc rfl ND (own := [("one", 4)]) (vi_tup (ve_var i_need_grammar_rule (.inl k_need_grammar_rule) d_rule e_rule)) (show BlkOk N_need_grammar (defScope s_need_grammar) _ _ from blkOk_by (by decide +kernel)) (pinVo hp [4]) (by decide) (fun _ _ _ _ _ => (vg_name ND i_need_grammar_one (.inl (cv_own k_need_grammar_1_one)) (pinV hp 4))) (fun _ _ _ _ _ => vts_nil) (fun _ _ _ _ _ => (ve_call takes0 (ok_is_symbol T) (hr.mono (by decide)) (cv_gl k_need_grammar_1_is_symbol) T.m_is_symbol T.k_is_symbol T.b_is_symbol (va_cons (ve_var i_need_grammar_one (.inl (cv_own k_need_grammar_1_one)) d_one e_one) (va_cons (ve_var i_need_grammar_number (cv_free k_need_grammar_1_number) d_number e_number) va_nil)) d_is_symbol))) va_nil) nn_all d_all) (fun _ => rfl))))))) (vss_one (vs_raise (c := 4) rfl (takes_of rfl rfl rfl rfl) T.x_Broken T.m_Broken T.kc_Broken (raises_own T.cf_Broken.bc T.cf_Broken.tc) k_need_grammar_Broken d_Broken)) vss_nil)))
  (vss_one (vs_if (vt_not (vt_truth (ve_callB rfl (cs_allL rfl) k_need_grammar_all T.n_all v_all (va_cons (ve_lc rfl ND (own := [("one", 4)]) (vi_list rfl (ve_var i_need_grammar_row (.inl k_need_grammar_row) d_row e_row)) (show BlkOk N_need_grammar (defScope s_need_grammar) _ _ from blkOk_by (by decide +kernel)) (pinVo hp [4]) (by decide) (fun _ _ _ _ _ => (vg_name ND i_need_grammar_one (.inl (cv_own k_need_grammar_2_one)) (pinV hp 4))) (fun _ _ _ _ _ => vts_nil) (fun _ _ _ _ _ => (ve_call takes0 (ok_is_symbol T) (hr.mono (by decide)) (cv_gl k_need_grammar_2_is_symbol) T.m_is_symbol T.k_is_symbol T.b_is_symbol (va_cons (ve_var i_need_grammar_one (.inl (cv_own k_need_grammar_2_one)) d_one e_one) (va_cons (ve_callB rfl cs_len (cv_gl k_need_grammar_2_len) T.n_len v_len (va_cons (ve_var i_need_grammar_rules (cv_free k_need_grammar_2_rules) d_rules e_rules) va_nil) nn_len d_len) va_nil)) d_is_symbol))) va_nil) nn_all d_all) (fun _ => rfl))) (vss_one (vs_raise (c := 4) rfl (takes_of rfl rfl rfl rfl) T.x_Broken T.m_Broken T.kc_Broken (raises_own T.cf_Broken.bc T.cf_Broken.tc) k_need_grammar_Broken d_Broken)) vss_nil)))
theorem ok_sizes_of (T : Txt K mg) : FnOk P w K mg base (L2.CX P w) 1 T.a_sizes_of T.fd_sizes_of ["rules"] (spV T.G 1 F_sizes_of) := by
  have ND := sc_sizes_of.nd
  exact fnV2 (N := N_sizes_of) (ps := ["rules"]) (G := T.G) (k := 0) (fb := f_sizes_of) T.F_sizes_of sc_sizes_of fun cdv A outer s H E C hr hp =>
  (vss_cons (vs_set ND i_sizes_of_found (.inl k_sizes_of_found) (pinV hp 1) (ve_bin os_mul (ve_lst (va_cons (ve_set ve_int) va_nil)) (ve_gint k_sizes_of_FIRST T.g_FIRST d_FIRST)))
  (vss_cons (vs_for (passes_of rfl) rfl (vi_list rfl (ve_var i_sizes_of_rules (.inl k_sizes_of_rules) d_rules e_rules)) (vg_tup rfl (vgs_cons ND i_sizes_of_one (.inl k_sizes_of_one) (pinV hp 2) (vgs_cons ND i_sizes_of_other (.inl k_sizes_of_other) (pinV hp 3) vgs_nil))) (vss_one (vs_expr (ve_app i_sizes_of_found (.inl k_sizes_of_found) d_found e_found (ve_bin os_add (ve_ix rfl (ve_var i_sizes_of_found (.inl k_sizes_of_found) d_found e_found) (ve_var i_sizes_of_one (.inl k_sizes_of_one) d_one e_one) (fun _ _ => rfl)) (ve_ix rfl (ve_var i_sizes_of_found (.inl k_sizes_of_found) d_found e_found) (ve_var i_sizes_of_other (.inl k_sizes_of_other) d_other e_other) (fun _ _ => rfl)))))))
  (vss_one (vs_ret (ve_var i_sizes_of_found (.inl k_sizes_of_found) d_found e_found)))))
theorem ok_length_by (T : Txt K mg) : FnOk P w K mg base (L2.CX P w) 2 T.a_length_by T.fd_length_by ["rules", "row"] (spV T.G 2 F_length_by) := by
  have ND := sc_length_by.nd
  exact fnV2 (N := N_length_by) (ps := ["rules", "row"]) (G := T.G) (k := 1) (fb := f_length_by) T.F_length_by sc_length_by fun cdv A outer s H E C hr hp =>
  (vss_cons (vs_set ND i_length_by_sizes (.inr k_length_by_sizes) (pinV hp 2) (ve_call (takes_of rfl rfl rfl rfl) (ok_sizes_of T) (hr.mono (by decide)) k_length_by_sizes_of T.m_sizes_of T.k_sizes_of T.b_sizes_of (va_cons (ve_var i_length_by_rules (.inl k_length_by_rules) d_rules e_rules) va_nil) d_sizes_of))
  (vss_one (vs_ret (ve_callB rfl (cs_sum rfl) k_length_by_sum T.n_sum v_sum (va_cons (ve_lc rfl ND (own := [("symbol", 3)]) (vi_list rfl (ve_var i_length_by_row (.inl k_length_by_row) d_row e_row)) (show BlkOk N_length_by (defScope s_length_by) _ _ from blkOk_by (by decide +kernel)) (pinVo hp [3]) (by decide) (fun _ _ _ _ _ => (vg_name ND i_length_by_symbol (.inl (cv_own k_length_by_1_symbol)) (pinV hp 3))) (fun _ _ _ _ _ => vts_nil) (fun _ _ _ _ _ => (ve_ix rfl (ve_var i_length_by_sizes (cv_free k_length_by_1_sizes) d_sizes e_sizes) (ve_var i_length_by_symbol (.inl (cv_own k_length_by_1_symbol)) d_symbol e_symbol) (fun _ _ => rfl)))) va_nil) nn_sum d_sum))))
theorem ok_signs_from (T : Txt K mg) : FnOk P w K mg base (L2.CX P w) 2 T.a_signs_from T.fd_signs_from ["rules", "row", "skipped", "many"] (spV T.G 4 F_signs_from) := by
  have ND := sc_signs_from.nd
  exact fnV2 (N := N_signs_from) (ps := ["rules", "row", "skipped", "many"]) (G := T.G) (k := 1) (fb := f_signs_from) T.F_signs_from sc_signs_from fun cdv A outer s H E C hr hp =>
  (vss_cons (vs_set ND i_signs_from_sizes (.inl k_signs_from_sizes) (pinV hp 4) (ve_call (takes_of rfl rfl rfl rfl) (ok_sizes_of T) (hr.mono (by decide)) k_signs_from_sizes_of T.m_sizes_of T.k_sizes_of T.b_sizes_of (va_cons (ve_var i_signs_from_rules (.inl k_signs_from_rules) d_rules e_rules) va_nil) d_sizes_of))
  (vss_cons (vs_set ND i_signs_from_found (.inl k_signs_from_found) (pinV hp 5) (ve_lst va_nil))
  (vss_cons (vs_set ND i_signs_from_waiting (.inl k_signs_from_waiting) (pinV hp 6) (ve_lrev rfl rfl k_signs_from_list T.n_list v_list k_signs_from_reversed T.n_reversed (ve_var i_signs_from_row (.inl k_signs_from_row) d_row e_row)))
  (vss_cons (vs_while fuel (passes_of rfl) (vt_cmp os_lt (ve_callB rfl cs_len k_signs_from_len T.n_len v_len (va_cons (ve_var i_signs_from_found (.inl k_signs_from_found) d_found e_found) va_nil) nn_len d_len) (ve_var i_signs_from_many (.inl k_signs_from_many) d_many e_many) (nomark _)) (vss_cons (vs_set ND i_signs_from_symbol (.inl k_signs_from_symbol) (pinV hp 7) (ve_pop i_signs_from_waiting (.inl k_signs_from_waiting) d_waiting e_waiting))
  (vss_one (vs_if (vt_cmp os_le (ve_ix rfl (ve_var i_signs_from_sizes (.inl k_signs_from_sizes) d_sizes e_sizes) (ve_var i_signs_from_symbol (.inl k_signs_from_symbol) d_symbol e_symbol) (fun _ _ => rfl)) (ve_var i_signs_from_skipped (.inl k_signs_from_skipped) d_skipped e_skipped) (nomark _)) (vss_one (vs_aug ND i_signs_from_skipped (.inl k_signs_from_skipped) (pinV hp 2) os_isub (ve_ix rfl (ve_var i_signs_from_sizes (.inl k_signs_from_sizes) d_sizes e_sizes) (ve_var i_signs_from_symbol (.inl k_signs_from_symbol) d_symbol e_symbol) (fun _ _ => rfl)))) (vss_one (vs_if (vt_cmp os_lt (ve_var i_signs_from_symbol (.inl k_signs_from_symbol) d_symbol e_symbol) (ve_gint k_signs_from_FIRST T.g_FIRST d_FIRST) (nomark _)) (vss_one (vs_expr (ve_app i_signs_from_found (.inl k_signs_from_found) d_found e_found (ve_var i_signs_from_symbol (.inl k_signs_from_symbol) d_symbol e_symbol)))) (vss_one (vs_expr (ve_ext i_signs_from_waiting (.inl k_signs_from_waiting) d_waiting e_waiting (ve_lrev rfl rfl k_signs_from_list T.n_list v_list k_signs_from_reversed T.n_reversed (ve_ix rfl (ve_var i_signs_from_rules (.inl k_signs_from_rules) d_rules e_rules) (ve_bin os_sub (ve_var i_signs_from_symbol (.inl k_signs_from_symbol) d_symbol e_symbol) (ve_gint k_signs_from_FIRST T.g_FIRST d_FIRST)) (fun _ _ => rfl))))))))))))
  (vss_one (vs_ret (ve_var i_signs_from_found (.inl k_signs_from_found) d_found e_found)))))))
theorem ok_grammar_text (T : Txt K mg) : FnOk P w K mg base (L2.CX P w) 3 T.a_grammar_text T.fd_grammar_text ["rules", "row"] (spV T.G 2 F_grammar_text) := by
  have ND := sc_grammar_text.nd
  exact fnV2 (N := N_grammar_text) (ps := ["rules", "row"]) (G := T.G) (k := 2) (fb := f_grammar_text) T.F_grammar_text sc_grammar_text fun cdv A outer s H E C hr hp =>
  (vss_cons (vs_expr (ve_call (takes_of rfl rfl rfl rfl) (ok_need_grammar T) (hr.mono (by decide)) k_grammar_text_need_grammar T.m_need_grammar T.k_need_grammar T.b_need_grammar (va_cons (ve_var i_grammar_text_rules (.inl k_grammar_text_rules) d_rules e_rules) (va_cons (ve_var i_grammar_text_row (.inl k_grammar_text_row) d_row e_row) va_nil)) d_need_grammar))
  (vss_cons (vs_set ND i_grammar_text_many (.inl k_grammar_text_many) (pinV hp 2) (ve_call (takes_of rfl rfl rfl rfl) (ok_length_by T) (hr.mono (by decide)) k_grammar_text_length_by T.m_length_by T.k_length_by T.b_length_by (va_cons (ve_var i_grammar_text_rules (.inl k_grammar_text_rules) d_rules e_rules) (va_cons (ve_var i_grammar_text_row (.inl k_grammar_text_row) d_row e_row) va_nil)) d_length_by))
  (vss_cons (vs_if (vt_cmp os_gt (ve_var i_grammar_text_many (.inl k_grammar_text_many) d_many e_many) (ve_gint k_grammar_text_MOST_SIGNS T.g_MOST_SIGNS d_MOST_SIGNS) (nomark _)) (vss_one (vs_raise (c := 4) rfl (takes_of rfl rfl rfl rfl) T.x_Broken T.m_Broken T.kc_Broken (raises_own T.cf_Broken.bc T.cf_Broken.tc) k_grammar_text_Broken d_Broken)) vss_nil)
  (vss_one (vs_ret (ve_call (takes_of rfl rfl rfl rfl) (ok_signs_from T) (hr.mono (by decide)) k_grammar_text_signs_from T.m_signs_from T.k_signs_from T.b_signs_from (va_cons (ve_var i_grammar_text_rules (.inl k_grammar_text_rules) d_rules e_rules) (va_cons (ve_var i_grammar_text_row (.inl k_grammar_text_row) d_row e_row) (va_cons ve_int (va_cons (ve_var i_grammar_text_many (.inl k_grammar_text_many) d_many e_many) va_nil)))) d_signs_from))))))
theorem ok__law_refused (T : Txt K mg) : FnOk P w K mg base (L2.CX P w) 4 T.a__law_refused T.fd__law_refused ["rules", "row"] (spV T.G 2 F__law_refused) := by
  have ND := sc__law_refused.nd
  exact fnV2 (N := N__law_refused) (ps := ["rules", "row"]) (G := T.G) (k := 3) (fb := f__law_refused) T.F__law_refused sc__law_refused fun cdv A outer s H E C hr hp =>
  (vss_cons (vs_set ND i__law_refused_kinds (.inl k__law_refused_kinds) (pinV hp 2) (ve_lst va_nil))
  (vss_cons (vs_try rfl rfl rfl ND (.inr ⟨3, "e", rfl, rfl, i__law_refused_e, k__law_refused_e⟩) (fun j e => by cases e; exact (pinV hp 3)) ⟨k__law_refused_PackError, d_PackError, .inl T.m_PackError⟩ (takes_of rfl rfl rfl rfl) (T.tab.exm 0) (fun W1 pn1 xe1 tk1 pa1 => (vss_one (vs_expr (ve_call tk1 (ok_grammar_text T) (hr.mono (by decide)) k__law_refused_grammar_text T.m_grammar_text T.k_grammar_text T.b_grammar_text (va_cons (ve_var i__law_refused_rules (.inl k__law_refused_rules) d_rules e_rules) (va_cons (ve_var i__law_refused_row (.inl k__law_refused_row) d_row e_row) va_nil)) d_grammar_text)))) (fun _ _ => (vss_cons (vs_set ND i__law_refused_kinds (.inl k__law_refused_kinds) (pinV hp 2) (ve_lst (va_cons (ve_set (ve_isi T.tab.etab k__law_refused_isinstance T.n_isinstance v_isinstance (va_cons (ve_var i__law_refused_e (.inl k__law_refused_e) d_e e_e) (va_cons (ve_gcls (c := 4) k__law_refused_Broken T.m_Broken d_Broken) va_nil)) nn_isinstance d_isinstance)) (va_cons (ve_set (ve_isi T.tab.etab k__law_refused_isinstance T.n_isinstance v_isinstance (va_cons (ve_var i__law_refused_e (.inl k__law_refused_e) d_e e_e) (va_cons (ve_gty k__law_refused_ValueError T.n_ValueError v_ValueError nn_ValueError d_ValueError) va_nil)) nn_isinstance d_isinstance)) (va_cons (ve_set (ve_isi T.tab.etab k__law_refused_isinstance T.n_isinstance v_isinstance (va_cons (ve_var i__law_refused_e (.inl k__law_refused_e) d_e e_e) (va_cons (ve_gcls (c := 2) k__law_refused_NoCode T.m_NoCode d_NoCode) va_nil)) nn_isinstance d_isinstance)) (va_cons (ve_set (ve_isi T.tab.etab k__law_refused_isinstance T.n_isinstance v_isinstance (va_cons (ve_var i__law_refused_e (.inl k__law_refused_e) d_e e_e) (va_cons (ve_gcls (c := 6) k__law_refused_NoName T.m_NoName d_NoName) va_nil)) nn_isinstance d_isinstance)) va_nil))))))
  (vss_one (vs_set ND i__law_refused_kinds (.inl k__law_refused_kinds) (pinV hp 2) (ve_bin os_add (ve_var i__law_refused_kinds (.inl k__law_refused_kinds) d_kinds e_kinds) (ve_lst (va_cons (ve_set (ve_isi T.tab.etab k__law_refused_isinstance T.n_isinstance v_isinstance (va_cons (ve_var i__law_refused_e (.inl k__law_refused_e) d_e e_e) (va_cons (ve_gcls (c := 1) k__law_refused_NoNumber T.m_NoNumber d_NoNumber) va_nil)) nn_isinstance d_isinstance)) (va_cons (ve_set (ve_isi T.tab.etab k__law_refused_isinstance T.n_isinstance v_isinstance (va_cons (ve_var i__law_refused_e (.inl k__law_refused_e) d_e e_e) (va_cons (ve_gcls (c := 3) k__law_refused_NoPlace T.m_NoPlace d_NoPlace) va_nil)) nn_isinstance d_isinstance)) (va_cons (ve_set (ve_isi T.tab.etab k__law_refused_isinstance T.n_isinstance v_isinstance (va_cons (ve_var i__law_refused_e (.inl k__law_refused_e) d_e e_e) (va_cons (ve_gcls (c := 7) k__law_refused_NoRow T.m_NoRow d_NoRow) va_nil)) nn_isinstance d_isinstance)) (va_cons (ve_set (ve_isi T.tab.etab k__law_refused_isinstance T.n_isinstance v_isinstance (va_cons (ve_var i__law_refused_e (.inl k__law_refused_e) d_e e_e) (va_cons (ve_gcls (c := 5) k__law_refused_NoText T.m_NoText d_NoText) va_nil)) nn_isinstance d_isinstance)) va_nil)))))))))))
  (vss_one (vs_ret (ve_cmp (os_eq hr.units) (ve_var i__law_refused_kinds (.inl k__law_refused_kinds) d_kinds e_kinds) (ve_bin os_add (ve_lst (va_cons (ve_set ve_bl) (va_cons (ve_set ve_bl) va_nil))) (ve_bin os_mul (ve_lst (va_cons (ve_set ve_bl) va_nil)) ve_int)) (nomark _))))))
theorem ok__law_good (T : Txt K mg) : FnOk P w K mg base (L2.CX P w) 5 T.a__law_good T.fd__law_good ["rules", "row"] (spV T.G 2 F__law_good) := by
  have ND := sc__law_good.nd
  exact fnV2 (N := N__law_good) (ps := ["rules", "row"]) (G := T.G) (k := 4) (fb := f__law_good) T.F__law_good sc__law_good fun cdv A outer s H E C hr hp =>
  (vss_cons (vs_set ND i__law_good_due (.inl k__law_good_due) (pinV hp 2) (ve_call (takes_of rfl rfl rfl rfl) (ok__law_put_in T) (hr.mono (by decide)) k__law_good__law_put_in T.m__law_put_in T.k__law_put_in T.b__law_put_in (va_cons (ve_var i__law_good_rules (.inl k__law_good_rules) d_rules e_rules) (va_cons (ve_var i__law_good_row (.inl k__law_good_row) d_row e_row) va_nil)) d__law_put_in))
  (vss_cons (vs_set ND i__law_good_handed (.inl k__law_good_handed) (pinV hp 3) (ve_lst (va_cons (ve_set (ve_callTy rfl cs_list k__law_good_list T.n_list v_list (va_cons (ve_var i__law_good_rules (.inl k__law_good_rules) d_rules e_rules) va_nil) nn_list d_list)) (va_cons (ve_set (ve_callTy rfl cs_list k__law_good_list T.n_list v_list (va_cons (ve_var i__law_good_row (.inl k__law_good_row) d_row e_row) va_nil) nn_list d_list)) va_nil))))
  (vss_cons (vs_if (vt_cmp os_gt (ve_callB rfl cs_len k__law_good_len T.n_len v_len (va_cons (ve_var i__law_good_due (.inl k__law_good_due) d_due e_due) va_nil) nn_len d_len) ve_int (nomark _)) (vss_one (vs_ret (ve_and (ve_call (takes_of rfl rfl rfl rfl) (ok__law_refused T) (hr.mono (by decide)) k__law_good__law_refused T.m__law_refused T.k__law_refused T.b__law_refused (va_cons (ve_ix rfl (ve_var i__law_good_handed (.inl k__law_good_handed) d_handed e_handed) ve_int (fun _ _ => rfl)) (va_cons (ve_ix rfl (ve_var i__law_good_handed (.inl k__law_good_handed) d_handed e_handed) ve_int (fun _ _ => rfl)) va_nil)) d__law_refused) (ve_one (ve_cmp (os_eq hr.units) (ve_var i__law_good_handed (.inl k__law_good_handed) d_handed e_handed) (ve_lst (va_cons (ve_set (ve_var i__law_good_rules (.inl k__law_good_rules) d_rules e_rules)) (va_cons (ve_set (ve_var i__law_good_row (.inl k__law_good_row) d_row e_row)) va_nil))) (nomark _)))))) vss_nil)
  (vss_cons (vs_set ND i__law_good_found (.inl k__law_good_found) (pinV hp 4) (ve_call (takes_of rfl rfl rfl rfl) (ok_grammar_text T) (hr.mono (by decide)) k__law_good_grammar_text T.m_grammar_text T.k_grammar_text T.b_grammar_text (va_cons (ve_ix rfl (ve_var i__law_good_handed (.inl k__law_good_handed) d_handed e_handed) ve_int (fun _ _ => rfl)) (va_cons (ve_ix rfl (ve_var i__law_good_handed (.inl k__law_good_handed) d_handed e_handed) ve_int (fun _ _ => rfl)) va_nil)) d_grammar_text))
  (vss_cons (vs_if (VW.pt (vw_or (vt_not (vt_val (ve_isi T.tab.etab k__law_good_isinstance T.n_isinstance v_isinstance (va_cons (ve_var i__law_good_found (.inl k__law_good_found) d_found e_found) (va_cons (ve_gty k__law_good_list T.n_list v_list nn_list d_list) va_nil)) nn_isinstance d_isinstance) (fun _ => rfl))) (vw_or (vt_cmp (os_ne hr.units) (ve_var i__law_good_found (.inl k__law_good_found) d_found e_found) (ve_var i__law_good_due (.inl k__law_good_due) d_due e_due) (nomark _)) (vw_or1 (vt_cmp (os_ne hr.units) (ve_var i__law_good_handed (.inl k__law_good_handed) d_handed e_handed) (ve_lst (va_cons (ve_set (ve_var i__law_good_rules (.inl k__law_good_rules) d_rules e_rules)) (va_cons (ve_set (ve_var i__law_good_row (.inl k__law_good_row) d_row e_row)) va_nil))) (nomark _)))))) (vss_one (vs_ret ve_bl)) vss_nil)
  (vss_cons (vs_if (vt_cmp (os_ne hr.units) (ve_lcO rfl ND (own := [("sign", 5)]) i__law_good_found (.inl k__law_good_found) d_found e_found (show BlkOk N__law_good (defScope s__law_good) _ _ from blkOk_by (by decide +kernel)) (pinVo hp [5]) (by decide) (fun _ _ _ _ _ _ => (vg_name ND i__law_good_sign (.inl (cv_own k__law_good_1_sign)) (pinC (pinV hp 5) (by decide)))) (fun _ _ _ _ _ _ => (vts_one (VW.pt (vw_or (vt_not (vt_val (ve_isi T.tab.etab (cv_gl k__law_good_1_isinstance) T.n_isinstance v_isinstance (va_cons (ve_var i__law_good_sign (.inl (cv_own k__law_good_1_sign)) d_sign e_sign) (va_cons (ve_gty (cv_gl k__law_good_1_int) T.n_int v_int nn_int d_int) va_nil)) nn_isinstance d_isinstance) (fun _ => rfl))) (vw_or1 (vt_val (ve_isi T.tab.etab (cv_gl k__law_good_1_isinstance) T.n_isinstance v_isinstance (va_cons (ve_var i__law_good_sign (.inl (cv_own k__law_good_1_sign)) d_sign e_sign) (va_cons (ve_gty (cv_gl k__law_good_1_bool) T.n_bool v_bool nn_bool d_bool) va_nil)) nn_isinstance d_isinstance) (fun _ => rfl))))))) (fun _ _ _ _ _ _ => (ve_var i__law_good_sign (.inl (cv_own k__law_good_1_sign)) d_sign e_sign))) (ve_lst va_nil) (nomark _)) (vss_one (vs_ret ve_bl)) vss_nil)
  (vss_cons (vs_expr (ve_app i__law_good_found (.inl k__law_good_found) d_found e_found ve_int))
  (vss_one (vs_ret (ve_and (ve_cmp (os_eq hr.units) (ve_call (takes_of rfl rfl rfl rfl) (ok_grammar_text T) (hr.mono (by decide)) k__law_good_grammar_text T.m_grammar_text T.k_grammar_text T.b_grammar_text (va_cons (ve_ix rfl (ve_var i__law_good_handed (.inl k__law_good_handed) d_handed e_handed) ve_int (fun _ _ => rfl)) (va_cons (ve_ix rfl (ve_var i__law_good_handed (.inl k__law_good_handed) d_handed e_handed) ve_int (fun _ _ => rfl)) va_nil)) d_grammar_text) (ve_var i__law_good_due (.inl k__law_good_due) d_due e_due) (nomark _)) (ve_one (ve_cmp (os_eq hr.units) (ve_var i__law_good_handed (.inl k__law_good_handed) d_handed e_handed) (ve_lst (va_cons (ve_set (ve_var i__law_good_rules (.inl k__law_good_rules) d_rules e_rules)) (va_cons (ve_set (ve_var i__law_good_row (.inl k__law_good_row) d_row e_row)) va_nil))) (nomark _)))))))))))))
theorem ok_law (T : Txt K mg) : FnOk P w K mg base (L2.CX P w) 6 T.a_law T.fd_law ["script"] (spV T.G 1 F_law) := by
  have ND := sc_law.nd
  exact fnV2 (N := N_law) (ps := ["script"]) (G := T.G) (k := 5) (fb := f_law) T.F_law sc_law fun cdv A outer s H E C hr hp =>
  (vss_cons (vs_asg (ve_call (takes_of rfl rfl rfl rfl) (ok__law_grammar T) (hr.mono (by decide)) k_law__law_grammar T.m__law_grammar T.k__law_grammar T.b__law_grammar (va_cons (ve_var i_law_script (.inl k_law_script) d_script e_script) (va_cons ve_int va_nil)) d__law_grammar) (vg_lst rfl (vgs_cons ND i_law_rules (.inl k_law_rules) (pinV hp 1) (vgs_cons ND i_law_sizes (.inl k_law_sizes) (pinV hp 2) (vgs_cons ND i_law_row (.inl k_law_row) (pinV hp 3) (vgs_cons ND i_law_base (.inl k_law_base) (pinV hp 4) vgs_nil))))))
  (vss_cons (vs_set ND i_law_doubled (.inl k_law_doubled) (pinV hp 5) (ve_bin os_add (ve_lst (va_cons (ve_set (ve_tup (va_cons (ve_set (ve_bin os_mod (ve_callB rfl cs_len k_law_len T.n_len v_len (va_cons (ve_var i_law_script (.inl k_law_script) d_script e_script) va_nil) nn_len d_len) ve_int)) (va_cons (ve_set ve_int) va_nil)))) va_nil)) (ve_lc rfl ND (own := [("k", 7)]) (vi_range1 k_law_range T.n_range (va_cons ve_int va_nil)) (show BlkOk N_law (defScope s_law) _ _ from blkOk_by (by decide +kernel)) (pinVo hp [7]) (by decide) (fun _ _ _ _ _ => (vg_name ND i_law_k (.inl (cv_own k_law_1_k)) (pinV hp 7))) (fun _ _ _ _ _ => vts_nil) (fun _ _ _ _ _ => (ve_tup (va_cons (ve_set (ve_bin os_add ve_int (ve_var i_law_k (.inl (cv_own k_law_1_k)) d_k e_k))) (va_cons (ve_set (ve_bin os_add ve_int (ve_var i_law_k (.inl (cv_own k_law_1_k)) d_k e_k))) va_nil)))))))
  (vss_cons (vs_if (VW.pt (vw_or (vt_not (vt_val (ve_call (takes_of rfl rfl rfl rfl) (ok__law_refused T) (hr.mono (by decide)) k_law__law_refused T.m__law_refused T.k__law_refused T.b__law_refused (va_cons (ve_var i_law_doubled (.inl k_law_doubled) d_doubled e_doubled) (va_cons (ve_lst (va_cons (ve_set ve_int) va_nil)) va_nil)) d__law_refused) (fun _ => rfl))) (vw_or1 (vt_not (vt_val (ve_call (takes_of rfl rfl rfl rfl) (ok__law_refused T) (hr.mono (by decide)) k_law__law_refused T.m__law_refused T.k__law_refused T.b__law_refused (va_cons (ve_bin os_add (ve_var i_law_doubled (.inl k_law_doubled) d_doubled e_doubled) (ve_lst (va_cons (ve_set (ve_tup (va_cons (ve_set ve_int) (va_cons (ve_set ve_int) va_nil)))) va_nil))) (va_cons (ve_lst (va_cons (ve_set ve_int) (va_cons (ve_set ve_int) va_nil))) va_nil)) d__law_refused) (fun _ => rfl)))))) (vss_one (vs_ret ve_bl)) vss_nil)
  (vss_cons (vs_set ND i_law_last (.inl k_law_last) (pinV hp 6) (ve_lst (va_cons (ve_set (ve_bin os_add ve_int (ve_callB rfl cs_len k_law_len T.n_len v_len (va_cons (ve_var i_law_rules (.inl k_law_rules) d_rules e_rules) va_nil) nn_len d_len))) va_nil)))
  (vss_cons (vs_if (VW.pt (vw_or (vt_not (vt_val (ve_call (takes_of rfl rfl rfl rfl) (ok__law_good T) (hr.mono (by decide)) k_law__law_good T.m__law_good T.k__law_good T.b__law_good (va_cons (ve_var i_law_rules (.inl k_law_rules) d_rules e_rules) (va_cons (ve_var i_law_row (.inl k_law_row) d_row e_row) va_nil)) d__law_good) (fun _ => rfl))) (vw_or (vt_not (vt_val (ve_call (takes_of rfl rfl rfl rfl) (ok__law_good T) (hr.mono (by decide)) k_law__law_good T.m__law_good T.k__law_good T.b__law_good (va_cons (ve_var i_law_rules (.inl k_law_rules) d_rules e_rules) (va_cons (ve_bin os_add (ve_var i_law_row (.inl k_law_row) d_row e_row) (ve_slice rfl (ve_var i_law_last (.inl k_law_last) d_last e_last) vo_none (vo_some (ve_callB rfl cs_len k_law_len T.n_len v_len (va_cons (ve_var i_law_rules (.inl k_law_rules) d_rules e_rules) va_nil) nn_len d_len)))) va_nil)) d__law_good) (fun _ => rfl))) (vw_or1 (vt_not (vt_val (ve_call (takes_of rfl rfl rfl rfl) (ok__law_good T) (hr.mono (by decide)) k_law__law_good T.m__law_good T.k__law_good T.b__law_good (va_cons (ve_lst va_nil) (va_cons (ve_slice rfl (ve_var i_law_row (.inl k_law_row) d_row e_row) vo_none (vo_some ve_int)) va_nil)) d__law_good) (fun _ => rfl))))))) (vss_one (vs_ret ve_bl)) vss_nil)
  (vss_one (vs_ret (ve_and (ve_call (takes_of rfl rfl rfl rfl) (ok__law_good T) (hr.mono (by decide)) k_law__law_good T.m__law_good T.k__law_good T.b__law_good (va_cons (ve_var i_law_rules (.inl k_law_rules) d_rules e_rules) (va_cons (ve_bin os_mul (ve_var i_law_row (.inl k_law_row) d_row e_row) ve_int) va_nil)) d__law_good) (ve_one (ve_call (takes_of rfl rfl rfl rfl) (ok__law_good T) (hr.mono (by decide)) k_law__law_good T.m__law_good T.k__law_good T.b__law_good (va_cons (ve_var i_law_rules (.inl k_law_rules) d_rules e_rules) (va_cons (ve_bin os_mul (ve_var i_law_row (.inl k_law_row) d_row e_row) ve_int) va_nil)) d__law_good))))))))))
end
def txt_mk {K : PySem.W.Frag} {h : Heap} {mg : Str → Option Value} {C_PackError C_NoNumber C_NoCode C_NoPlace C_Broken C_NoText C_NoName C_NoRow a__law_cell_at a__law_symbol a__law_stir a__law_size a__law_grammar a__law_put_in a_is_symbol a_need_grammar a_sizes_of a_length_by a_signs_from a_grammar_text a__law_refused a__law_good a_law : Addr} (X : K.In h) (G : h.Ns mainGlobals mg)
    {od0 an0 od1 an1 od2 an2 od3 an3 od4 an4 od5 an5 od6 an6 od7 an7 od8 an8 od9 an9 od10 an10 od11 an11 od12 an12 od13 an13 od14 an14 : Option Addr} {sl0 sl1 sl2 sl3 sl4 sl5 sl6 sl7 sl8 sl9 sl10 sl11 sl12 sl13 sl14 : Array (Option Value)} {tk_FIRST tk_MOST_SIGNS : Tok} {oc0 kV0 dc0 pm0 cd0 ct0 oc1 kV1 dc1 pm1 cd1 ct1 oc2 kV2 dc2 pm2 cd2 ct2 oc3 kV3 dc3 pm3 cd3 ct3 oc4 kV4 dc4 pm4 cd4 ct4 oc5 kV5 dc5 pm5 cd5 ct5 oc6 kV6 dc6 pm6 cd6 ct6 oc7 kV7 dc7 pm7 cd7 ct7 oc8 kV8 dc8 pm8 cd8 ct8 oc9 kV9 dc9 pm9 cd9 ct9 oc10 kV10 dc10 pm10 cd10 ct10 oc11 kV11 dc11 pm11 cd11 ct11 oc12 kV12 dc12 pm12 cd12 ct12 oc13 kV13 dc13 pm13 cd13 ct13 oc14 kV14 dc14 pm14 cd14 ct14 : Value}
    (aC_PackError : PySem.W.nsIn K mainGlobals "PackError" = some (some (.ref C_PackError)))
    (ic_PackError : PySem.W.isClsIn K C_PackError = true)
    (tc_PackError : PySem.W.typeIn K (.ref C_PackError) = some (.type "type"))
    (bc_PackError : PySem.W.subIn K (.ref C_PackError) (.type "BaseException") = some true)
    (aC_NoNumber : PySem.W.nsIn K mainGlobals "NoNumber" = some (some (.ref C_NoNumber)))
    (ic_NoNumber : PySem.W.isClsIn K C_NoNumber = true)
    (tc_NoNumber : PySem.W.typeIn K (.ref C_NoNumber) = some (.type "type"))
    (bc_NoNumber : PySem.W.subIn K (.ref C_NoNumber) (.type "BaseException") = some true)
    (aC_NoCode : PySem.W.nsIn K mainGlobals "NoCode" = some (some (.ref C_NoCode)))
    (ic_NoCode : PySem.W.isClsIn K C_NoCode = true)
    (tc_NoCode : PySem.W.typeIn K (.ref C_NoCode) = some (.type "type"))
    (bc_NoCode : PySem.W.subIn K (.ref C_NoCode) (.type "BaseException") = some true)
    (aC_NoPlace : PySem.W.nsIn K mainGlobals "NoPlace" = some (some (.ref C_NoPlace)))
    (ic_NoPlace : PySem.W.isClsIn K C_NoPlace = true)
    (tc_NoPlace : PySem.W.typeIn K (.ref C_NoPlace) = some (.type "type"))
    (bc_NoPlace : PySem.W.subIn K (.ref C_NoPlace) (.type "BaseException") = some true)
    (aC_Broken : PySem.W.nsIn K mainGlobals "Broken" = some (some (.ref C_Broken)))
    (ic_Broken : PySem.W.isClsIn K C_Broken = true)
    (tc_Broken : PySem.W.typeIn K (.ref C_Broken) = some (.type "type"))
    (bc_Broken : PySem.W.subIn K (.ref C_Broken) (.type "BaseException") = some true)
    (aC_NoText : PySem.W.nsIn K mainGlobals "NoText" = some (some (.ref C_NoText)))
    (ic_NoText : PySem.W.isClsIn K C_NoText = true)
    (tc_NoText : PySem.W.typeIn K (.ref C_NoText) = some (.type "type"))
    (bc_NoText : PySem.W.subIn K (.ref C_NoText) (.type "BaseException") = some true)
    (aC_NoName : PySem.W.nsIn K mainGlobals "NoName" = some (some (.ref C_NoName)))
    (ic_NoName : PySem.W.isClsIn K C_NoName = true)
    (tc_NoName : PySem.W.typeIn K (.ref C_NoName) = some (.type "type"))
    (bc_NoName : PySem.W.subIn K (.ref C_NoName) (.type "BaseException") = some true)
    (aC_NoRow : PySem.W.nsIn K mainGlobals "NoRow" = some (some (.ref C_NoRow)))
    (ic_NoRow : PySem.W.isClsIn K C_NoRow = true)
    (tc_NoRow : PySem.W.typeIn K (.ref C_NoRow) = some (.type "type"))
    (bc_NoRow : PySem.W.subIn K (.ref C_NoRow) (.type "BaseException") = some true)
    (x_Broken : PySem.W.excIn K C_Broken [.type "ValueError", .type "Exception", .type "BaseException", .type "object"] "ValueError.__new__" = true)
    (kc_Broken : PySem.W.keepIn K (.ref C_Broken) = true)
    (hg_Broken : PySem.W.findIn K (.ref C_Broken) "__getattribute__" = some (some (.builtin "BaseException.__getattribute__")))
    (hk_Broken : PySem.W.findIn K (.ref C_Broken) "__getattr__" = some none)
    (hd_Broken : PySem.W.hasDictIn K C_Broken = true)
    (ha_Broken : PySem.W.findIn K (.ref C_Broken) "__class__" = some (some (.builtin "object.__class__")))
    (hm_Broken : PySem.W.mroIn K C_Broken (.type "object") = some true)
    (se_Broken : PySem.W.subIn K (.ref C_Broken) (.ref C_Broken) = some true)
    (hn : PySem.W.specialIn K (.builtin "object.__class__") "__get__" = some (some (.builtin "getset_descriptor.__get__")))
    (ht : PySem.W.takesIn K (.builtin "object.__class__") = some true)
    (su_0 : PySem.W.subIn K (.ref C_Broken) (.ref C_PackError) = some true)
    (su_1 : PySem.W.subIn K (.ref C_Broken) (.ref C_Broken) = some true)
    (su_2 : PySem.W.subIn K (.ref C_Broken) (.type "ValueError") = some true)
    (su_3 : PySem.W.subIn K (.ref C_Broken) (.ref C_NoCode) = some false)
    (su_4 : PySem.W.subIn K (.ref C_Broken) (.ref C_NoName) = some false)
    (su_5 : PySem.W.subIn K (.ref C_Broken) (.ref C_NoNumber) = some false)
    (su_6 : PySem.W.subIn K (.ref C_Broken) (.ref C_NoPlace) = some false)
    (su_7 : PySem.W.subIn K (.ref C_Broken) (.ref C_NoRow) = some false)
    (su_8 : PySem.W.subIn K (.ref C_Broken) (.ref C_NoText) = some false)
    (z_len : PySem.W.nsIn K mainGlobals "len" = some none)
    (z_min : PySem.W.nsIn K mainGlobals "min" = some none)
    (z_range : PySem.W.nsIn K mainGlobals "range" = some none)
    (z_sum : PySem.W.nsIn K mainGlobals "sum" = some none)
    (z_isinstance : PySem.W.nsIn K mainGlobals "isinstance" = some none)
    (z_int : PySem.W.nsIn K mainGlobals "int" = some none)
    (z_bool : PySem.W.nsIn K mainGlobals "bool" = some none)
    (z_enumerate : PySem.W.nsIn K mainGlobals "enumerate" = some none)
    (z_tuple : PySem.W.nsIn K mainGlobals "tuple" = some none)
    (z_all : PySem.W.nsIn K mainGlobals "all" = some none)
    (z_list : PySem.W.nsIn K mainGlobals "list" = some none)
    (z_reversed : PySem.W.nsIn K mainGlobals "reversed" = some none)
    (z_ValueError : PySem.W.nsIn K mainGlobals "ValueError" = some none)
    (z_FIRST : PySem.W.nsIn K mainGlobals "FIRST" = some (some (.int 256 tk_FIRST)))
    (z_MOST_SIGNS : PySem.W.nsIn K mainGlobals "MOST_SIGNS" = some (some (.int 400 tk_MOST_SIGNS)))
    (aF__law_cell_at : PySem.W.nsIn K mainGlobals "_law_cell_at" = some (some (.ref a__law_cell_at)))
    (l__law_cell_at : K.lookup a__law_cell_at = some ⟨oc0, od0, .func (PySem.W.fnOf "_law_cell_at" "_law_cell_at" (defArgs s__law_cell_at) (defBody s__law_cell_at) (defScope s__law_cell_at) .none kV0 dc0 pm0 an0 cd0 ct0), sl0⟩)
    (c__law_cell_at : PySem.W.codeIn K cd0 "_law_cell_at" = true)
    (k__law_cell_at : PySem.W.keepIn K (.ref a__law_cell_at) = true)
    (aF__law_symbol : PySem.W.nsIn K mainGlobals "_law_symbol" = some (some (.ref a__law_symbol)))
    (l__law_symbol : K.lookup a__law_symbol = some ⟨oc1, od1, .func (PySem.W.fnOf "_law_symbol" "_law_symbol" (defArgs s__law_symbol) (defBody s__law_symbol) (defScope s__law_symbol) .none kV1 dc1 pm1 an1 cd1 ct1), sl1⟩)
    (c__law_symbol : PySem.W.codeIn K cd1 "_law_symbol" = true)
    (k__law_symbol : PySem.W.keepIn K (.ref a__law_symbol) = true)
    (aF__law_stir : PySem.W.nsIn K mainGlobals "_law_stir" = some (some (.ref a__law_stir)))
    (l__law_stir : K.lookup a__law_stir = some ⟨oc2, od2, .func (PySem.W.fnOf "_law_stir" "_law_stir" (defArgs s__law_stir) (defBody s__law_stir) (defScope s__law_stir) .none kV2 dc2 pm2 an2 cd2 ct2), sl2⟩)
    (c__law_stir : PySem.W.codeIn K cd2 "_law_stir" = true)
    (k__law_stir : PySem.W.keepIn K (.ref a__law_stir) = true)
    (aF__law_size : PySem.W.nsIn K mainGlobals "_law_size" = some (some (.ref a__law_size)))
    (l__law_size : K.lookup a__law_size = some ⟨oc3, od3, .func (PySem.W.fnOf "_law_size" "_law_size" (defArgs s__law_size) (defBody s__law_size) (defScope s__law_size) .none kV3 dc3 pm3 an3 cd3 ct3), sl3⟩)
    (c__law_size : PySem.W.codeIn K cd3 "_law_size" = true)
    (k__law_size : PySem.W.keepIn K (.ref a__law_size) = true)
    (aF__law_grammar : PySem.W.nsIn K mainGlobals "_law_grammar" = some (some (.ref a__law_grammar)))
    (l__law_grammar : K.lookup a__law_grammar = some ⟨oc4, od4, .func (PySem.W.fnOf "_law_grammar" "_law_grammar" (defArgs s__law_grammar) (defBody s__law_grammar) (defScope s__law_grammar) .none kV4 dc4 pm4 an4 cd4 ct4), sl4⟩)
    (c__law_grammar : PySem.W.codeIn K cd4 "_law_grammar" = true)
    (k__law_grammar : PySem.W.keepIn K (.ref a__law_grammar) = true)
    (aF__law_put_in : PySem.W.nsIn K mainGlobals "_law_put_in" = some (some (.ref a__law_put_in)))
    (l__law_put_in : K.lookup a__law_put_in = some ⟨oc5, od5, .func (PySem.W.fnOf "_law_put_in" "_law_put_in" (defArgs s__law_put_in) (defBody s__law_put_in) (defScope s__law_put_in) .none kV5 dc5 pm5 an5 cd5 ct5), sl5⟩)
    (c__law_put_in : PySem.W.codeIn K cd5 "_law_put_in" = true)
    (k__law_put_in : PySem.W.keepIn K (.ref a__law_put_in) = true)
    (aF_is_symbol : PySem.W.nsIn K mainGlobals "is_symbol" = some (some (.ref a_is_symbol)))
    (l_is_symbol : K.lookup a_is_symbol = some ⟨oc6, od6, .func (PySem.W.fnOf "is_symbol" "is_symbol" (defArgs s_is_symbol) (defBody s_is_symbol) (defScope s_is_symbol) .none kV6 dc6 pm6 an6 cd6 ct6), sl6⟩)
    (c_is_symbol : PySem.W.codeIn K cd6 "is_symbol" = true)
    (k_is_symbol : PySem.W.keepIn K (.ref a_is_symbol) = true)
    (aF_need_grammar : PySem.W.nsIn K mainGlobals "need_grammar" = some (some (.ref a_need_grammar)))
    (l_need_grammar : K.lookup a_need_grammar = some ⟨oc7, od7, .func (PySem.W.fnOf "need_grammar" "need_grammar" (defArgs s_need_grammar) (defBody s_need_grammar) (defScope s_need_grammar) .none kV7 dc7 pm7 an7 cd7 ct7), sl7⟩)
    (c_need_grammar : PySem.W.codeIn K cd7 "need_grammar" = true)
    (k_need_grammar : PySem.W.keepIn K (.ref a_need_grammar) = true)
    (aF_sizes_of : PySem.W.nsIn K mainGlobals "sizes_of" = some (some (.ref a_sizes_of)))
    (l_sizes_of : K.lookup a_sizes_of = some ⟨oc8, od8, .func (PySem.W.fnOf "sizes_of" "sizes_of" (defArgs s_sizes_of) (defBody s_sizes_of) (defScope s_sizes_of) .none kV8 dc8 pm8 an8 cd8 ct8), sl8⟩)
    (c_sizes_of : PySem.W.codeIn K cd8 "sizes_of" = true)
    (k_sizes_of : PySem.W.keepIn K (.ref a_sizes_of) = true)
    (aF_length_by : PySem.W.nsIn K mainGlobals "length_by" = some (some (.ref a_length_by)))
    (l_length_by : K.lookup a_length_by = some ⟨oc9, od9, .func (PySem.W.fnOf "length_by" "length_by" (defArgs s_length_by) (defBody s_length_by) (defScope s_length_by) .none kV9 dc9 pm9 an9 cd9 ct9), sl9⟩)
    (c_length_by : PySem.W.codeIn K cd9 "length_by" = true)
    (k_length_by : PySem.W.keepIn K (.ref a_length_by) = true)
    (aF_signs_from : PySem.W.nsIn K mainGlobals "signs_from" = some (some (.ref a_signs_from)))
    (l_signs_from : K.lookup a_signs_from = some ⟨oc10, od10, .func (PySem.W.fnOf "signs_from" "signs_from" (defArgs s_signs_from) (defBody s_signs_from) (defScope s_signs_from) .none kV10 dc10 pm10 an10 cd10 ct10), sl10⟩)
    (c_signs_from : PySem.W.codeIn K cd10 "signs_from" = true)
    (k_signs_from : PySem.W.keepIn K (.ref a_signs_from) = true)
    (aF_grammar_text : PySem.W.nsIn K mainGlobals "grammar_text" = some (some (.ref a_grammar_text)))
    (l_grammar_text : K.lookup a_grammar_text = some ⟨oc11, od11, .func (PySem.W.fnOf "grammar_text" "grammar_text" (defArgs s_grammar_text) (defBody s_grammar_text) (defScope s_grammar_text) .none kV11 dc11 pm11 an11 cd11 ct11), sl11⟩)
    (c_grammar_text : PySem.W.codeIn K cd11 "grammar_text" = true)
    (k_grammar_text : PySem.W.keepIn K (.ref a_grammar_text) = true)
    (aF__law_refused : PySem.W.nsIn K mainGlobals "_law_refused" = some (some (.ref a__law_refused)))
    (l__law_refused : K.lookup a__law_refused = some ⟨oc12, od12, .func (PySem.W.fnOf "_law_refused" "_law_refused" (defArgs s__law_refused) (defBody s__law_refused) (defScope s__law_refused) .none kV12 dc12 pm12 an12 cd12 ct12), sl12⟩)
    (c__law_refused : PySem.W.codeIn K cd12 "_law_refused" = true)
    (k__law_refused : PySem.W.keepIn K (.ref a__law_refused) = true)
    (aF__law_good : PySem.W.nsIn K mainGlobals "_law_good" = some (some (.ref a__law_good)))
    (l__law_good : K.lookup a__law_good = some ⟨oc13, od13, .func (PySem.W.fnOf "_law_good" "_law_good" (defArgs s__law_good) (defBody s__law_good) (defScope s__law_good) .none kV13 dc13 pm13 an13 cd13 ct13), sl13⟩)
    (c__law_good : PySem.W.codeIn K cd13 "_law_good" = true)
    (k__law_good : PySem.W.keepIn K (.ref a__law_good) = true)
    (aF_law : PySem.W.nsIn K mainGlobals "law" = some (some (.ref a_law)))
    (l_law : K.lookup a_law = some ⟨oc14, od14, .func (PySem.W.fnOf "law" "law" (defArgs s_law) (defBody s_law) (defScope s_law) .none kV14 dc14 pm14 an14 cd14 ct14), sl14⟩)
    (c_law : PySem.W.codeIn K cd14 "law" = true)
    (k_law : PySem.W.keepIn K (.ref a_law) = true)
    : Txt K mg where
  C_PackError := C_PackError
  m_PackError := PySem.W.mg_of X G aC_PackError
  cf_PackError := ⟨ic_PackError, tc_PackError, bc_PackError⟩
  C_NoNumber := C_NoNumber
  m_NoNumber := PySem.W.mg_of X G aC_NoNumber
  cf_NoNumber := ⟨ic_NoNumber, tc_NoNumber, bc_NoNumber⟩
  C_NoCode := C_NoCode
  m_NoCode := PySem.W.mg_of X G aC_NoCode
  cf_NoCode := ⟨ic_NoCode, tc_NoCode, bc_NoCode⟩
  C_NoPlace := C_NoPlace
  m_NoPlace := PySem.W.mg_of X G aC_NoPlace
  cf_NoPlace := ⟨ic_NoPlace, tc_NoPlace, bc_NoPlace⟩
  C_Broken := C_Broken
  m_Broken := PySem.W.mg_of X G aC_Broken
  cf_Broken := ⟨ic_Broken, tc_Broken, bc_Broken⟩
  C_NoText := C_NoText
  m_NoText := PySem.W.mg_of X G aC_NoText
  cf_NoText := ⟨ic_NoText, tc_NoText, bc_NoText⟩
  C_NoName := C_NoName
  m_NoName := PySem.W.mg_of X G aC_NoName
  cf_NoName := ⟨ic_NoName, tc_NoName, bc_NoName⟩
  C_NoRow := C_NoRow
  m_NoRow := PySem.W.mg_of X G aC_NoRow
  cf_NoRow := ⟨ic_NoRow, tc_NoRow, bc_NoRow⟩
  x_Broken := x_Broken
  kc_Broken := kc_Broken
  tab := ⟨row_cls ⟨hg_Broken, hk_Broken, bc_Broken, hd_Broken, ha_Broken, hn, ht, hm_Broken⟩ ⟨ic_PackError, tc_PackError, bc_PackError⟩ se_Broken su_0,
    ⟨row_cls ⟨hg_Broken, hk_Broken, bc_Broken, hd_Broken, ha_Broken, hn, ht, hm_Broken⟩ ⟨ic_Broken, tc_Broken, bc_Broken⟩ se_Broken su_1,
    ⟨row_ty ⟨hg_Broken, hk_Broken, bc_Broken, hd_Broken, ha_Broken, hn, ht, hm_Broken⟩ (by decide +kernel) su_2,
    ⟨row_cls ⟨hg_Broken, hk_Broken, bc_Broken, hd_Broken, ha_Broken, hn, ht, hm_Broken⟩ ⟨ic_NoCode, tc_NoCode, bc_NoCode⟩ se_Broken su_3,
    ⟨row_cls ⟨hg_Broken, hk_Broken, bc_Broken, hd_Broken, ha_Broken, hn, ht, hm_Broken⟩ ⟨ic_NoName, tc_NoName, bc_NoName⟩ se_Broken su_4,
    ⟨row_cls ⟨hg_Broken, hk_Broken, bc_Broken, hd_Broken, ha_Broken, hn, ht, hm_Broken⟩ ⟨ic_NoNumber, tc_NoNumber, bc_NoNumber⟩ se_Broken su_5,
    ⟨row_cls ⟨hg_Broken, hk_Broken, bc_Broken, hd_Broken, ha_Broken, hn, ht, hm_Broken⟩ ⟨ic_NoPlace, tc_NoPlace, bc_NoPlace⟩ se_Broken su_6,
    ⟨row_cls ⟨hg_Broken, hk_Broken, bc_Broken, hd_Broken, ha_Broken, hn, ht, hm_Broken⟩ ⟨ic_NoRow, tc_NoRow, bc_NoRow⟩ se_Broken su_7,
    ⟨row_cls ⟨hg_Broken, hk_Broken, bc_Broken, hd_Broken, ha_Broken, hn, ht, hm_Broken⟩ ⟨ic_NoText, tc_NoText, bc_NoText⟩ se_Broken su_8,
    trivial⟩⟩⟩⟩⟩⟩⟩⟩⟩
  n_len := PySem.W.mg_none_of X G z_len
  n_min := PySem.W.mg_none_of X G z_min
  n_range := PySem.W.mg_none_of X G z_range
  n_sum := PySem.W.mg_none_of X G z_sum
  n_isinstance := PySem.W.mg_none_of X G z_isinstance
  n_int := PySem.W.mg_none_of X G z_int
  n_bool := PySem.W.mg_none_of X G z_bool
  n_enumerate := PySem.W.mg_none_of X G z_enumerate
  n_tuple := PySem.W.mg_none_of X G z_tuple
  n_all := PySem.W.mg_none_of X G z_all
  n_list := PySem.W.mg_none_of X G z_list
  n_reversed := PySem.W.mg_none_of X G z_reversed
  n_ValueError := PySem.W.mg_none_of X G z_ValueError
  t_FIRST := tk_FIRST
  g_FIRST := PySem.W.mg_of X G z_FIRST
  t_MOST_SIGNS := tk_MOST_SIGNS
  g_MOST_SIGNS := PySem.W.mg_of X G z_MOST_SIGNS
  a__law_cell_at := a__law_cell_at
  fd__law_cell_at := _
  F__law_cell_at := fun_mk (st := s__law_cell_at) l__law_cell_at c__law_cell_at k__law_cell_at
  m__law_cell_at := PySem.W.mg_of X G aF__law_cell_at
  k__law_cell_at := k__law_cell_at
  b__law_cell_at := (fun_mk (st := s__law_cell_at) l__law_cell_at c__law_cell_at k__law_cell_at).binds fun _ _ _ _ _ _ us hl => match us, hl with | [_, _], _ => rfl
  a__law_symbol := a__law_symbol
  fd__law_symbol := _
  F__law_symbol := fun_mk (st := s__law_symbol) l__law_symbol c__law_symbol k__law_symbol
  m__law_symbol := PySem.W.mg_of X G aF__law_symbol
  k__law_symbol := k__law_symbol
  b__law_symbol := (fun_mk (st := s__law_symbol) l__law_symbol c__law_symbol k__law_symbol).binds fun _ _ _ _ _ _ us hl => match us, hl with | [_, _, _], _ => rfl
  a__law_stir := a__law_stir
  fd__law_stir := _
  F__law_stir := fun_mk (st := s__law_stir) l__law_stir c__law_stir k__law_stir
  m__law_stir := PySem.W.mg_of X G aF__law_stir
  k__law_stir := k__law_stir
  b__law_stir := (fun_mk (st := s__law_stir) l__law_stir c__law_stir k__law_stir).binds fun _ _ _ _ _ _ us hl => match us, hl with | [_, _], _ => rfl
  a__law_size := a__law_size
  fd__law_size := _
  F__law_size := fun_mk (st := s__law_size) l__law_size c__law_size k__law_size
  m__law_size := PySem.W.mg_of X G aF__law_size
  k__law_size := k__law_size
  b__law_size := (fun_mk (st := s__law_size) l__law_size c__law_size k__law_size).binds fun _ _ _ _ _ _ us hl => match us, hl with | [_, _], _ => rfl
  a__law_grammar := a__law_grammar
  fd__law_grammar := _
  F__law_grammar := fun_mk (st := s__law_grammar) l__law_grammar c__law_grammar k__law_grammar
  m__law_grammar := PySem.W.mg_of X G aF__law_grammar
  k__law_grammar := k__law_grammar
  b__law_grammar := (fun_mk (st := s__law_grammar) l__law_grammar c__law_grammar k__law_grammar).binds fun _ _ _ _ _ _ us hl => match us, hl with | [_, _], _ => rfl
  a__law_put_in := a__law_put_in
  fd__law_put_in := _
  F__law_put_in := fun_mk (st := s__law_put_in) l__law_put_in c__law_put_in k__law_put_in
  m__law_put_in := PySem.W.mg_of X G aF__law_put_in
  k__law_put_in := k__law_put_in
  b__law_put_in := (fun_mk (st := s__law_put_in) l__law_put_in c__law_put_in k__law_put_in).binds fun _ _ _ _ _ _ us hl => match us, hl with | [_, _], _ => rfl
  a_is_symbol := a_is_symbol
  fd_is_symbol := _
  F_is_symbol := fun_mk (st := s_is_symbol) l_is_symbol c_is_symbol k_is_symbol
  m_is_symbol := PySem.W.mg_of X G aF_is_symbol
  k_is_symbol := k_is_symbol
  b_is_symbol := (fun_mk (st := s_is_symbol) l_is_symbol c_is_symbol k_is_symbol).binds fun _ _ _ _ _ _ us hl => match us, hl with | [_, _], _ => rfl
  a_need_grammar := a_need_grammar
  fd_need_grammar := _
  F_need_grammar := fun_mk (st := s_need_grammar) l_need_grammar c_need_grammar k_need_grammar
  m_need_grammar := PySem.W.mg_of X G aF_need_grammar
  k_need_grammar := k_need_grammar
  b_need_grammar := (fun_mk (st := s_need_grammar) l_need_grammar c_need_grammar k_need_grammar).binds fun _ _ _ _ _ _ us hl => match us, hl with | [_, _], _ => rfl
  a_sizes_of := a_sizes_of
  fd_sizes_of := _
  F_sizes_of := fun_mk (st := s_sizes_of) l_sizes_of c_sizes_of k_sizes_of
  m_sizes_of := PySem.W.mg_of X G aF_sizes_of
  k_sizes_of := k_sizes_of
  b_sizes_of := (fun_mk (st := s_sizes_of) l_sizes_of c_sizes_of k_sizes_of).binds fun _ _ _ _ _ _ us hl => match us, hl with | [_], _ => rfl
  a_length_by := a_length_by
  fd_length_by := _
  F_length_by := fun_mk (st := s_length_by) l_length_by c_length_by k_length_by
  m_length_by := PySem.W.mg_of X G aF_length_by
  k_length_by := k_length_by
  b_length_by := (fun_mk (st := s_length_by) l_length_by c_length_by k_length_by).binds fun _ _ _ _ _ _ us hl => match us, hl with | [_, _], _ => rfl
  a_signs_from := a_signs_from
  fd_signs_from := _
  F_signs_from := fun_mk (st := s_signs_from) l_signs_from c_signs_from k_signs_from
  m_signs_from := PySem.W.mg_of X G aF_signs_from
  k_signs_from := k_signs_from
  b_signs_from := (fun_mk (st := s_signs_from) l_signs_from c_signs_from k_signs_from).binds fun _ _ _ _ _ _ us hl => match us, hl with | [_, _, _, _], _ => rfl
  a_grammar_text := a_grammar_text
  fd_grammar_text := _
  F_grammar_text := fun_mk (st := s_grammar_text) l_grammar_text c_grammar_text k_grammar_text
  m_grammar_text := PySem.W.mg_of X G aF_grammar_text
  k_grammar_text := k_grammar_text
  b_grammar_text := (fun_mk (st := s_grammar_text) l_grammar_text c_grammar_text k_grammar_text).binds fun _ _ _ _ _ _ us hl => match us, hl with | [_, _], _ => rfl
  a__law_refused := a__law_refused
  fd__law_refused := _
  F__law_refused := fun_mk (st := s__law_refused) l__law_refused c__law_refused k__law_refused
  m__law_refused := PySem.W.mg_of X G aF__law_refused
  k__law_refused := k__law_refused
  b__law_refused := (fun_mk (st := s__law_refused) l__law_refused c__law_refused k__law_refused).binds fun _ _ _ _ _ _ us hl => match us, hl with | [_, _], _ => rfl
  a__law_good := a__law_good
  fd__law_good := _
  F__law_good := fun_mk (st := s__law_good) l__law_good c__law_good k__law_good
  m__law_good := PySem.W.mg_of X G aF__law_good
  k__law_good := k__law_good
  b__law_good := (fun_mk (st := s__law_good) l__law_good c__law_good k__law_good).binds fun _ _ _ _ _ _ us hl => match us, hl with | [_, _], _ => rfl
  a_law := a_law
  fd_law := _
  F_law := fun_mk (st := s_law) l_law c_law k_law
  m_law := PySem.W.mg_of X G aF_law
  k_law := k_law
  b_law := (fun_mk (st := s_law) l_law c_law k_law).binds fun _ _ _ _ _ _ us hl => match us, hl with | [_], _ => rfl
end K37

namespace K37
open PySem PySem.Spec PyProof.Rows L2 VL
theorem all_mk {P : Program} {w : World} {K : PySem.W.Frag} {h : Heap} {mg : Str → Option Value} {fa C_PackError C_NoNumber C_NoCode C_NoPlace C_Broken C_NoText C_NoName C_NoRow a__law_cell_at a__law_symbol a__law_stir a__law_size a__law_grammar a__law_put_in a_is_symbol a_need_grammar a_sizes_of a_length_by a_signs_from a_grammar_text a__law_refused a__law_good a_law : Addr} (X : K.In h) (G : h.Ns mainGlobals mg) (hfa : mg "law" = some (.ref fa))
    {od0 an0 od1 an1 od2 an2 od3 an3 od4 an4 od5 an5 od6 an6 od7 an7 od8 an8 od9 an9 od10 an10 od11 an11 od12 an12 od13 an13 od14 an14 : Option Addr} {sl0 sl1 sl2 sl3 sl4 sl5 sl6 sl7 sl8 sl9 sl10 sl11 sl12 sl13 sl14 : Array (Option Value)} {tk_FIRST tk_MOST_SIGNS : Tok} {oc0 kV0 dc0 pm0 cd0 ct0 oc1 kV1 dc1 pm1 cd1 ct1 oc2 kV2 dc2 pm2 cd2 ct2 oc3 kV3 dc3 pm3 cd3 ct3 oc4 kV4 dc4 pm4 cd4 ct4 oc5 kV5 dc5 pm5 cd5 ct5 oc6 kV6 dc6 pm6 cd6 ct6 oc7 kV7 dc7 pm7 cd7 ct7 oc8 kV8 dc8 pm8 cd8 ct8 oc9 kV9 dc9 pm9 cd9 ct9 oc10 kV10 dc10 pm10 cd10 ct10 oc11 kV11 dc11 pm11 cd11 ct11 oc12 kV12 dc12 pm12 cd12 ct12 oc13 kV13 dc13 pm13 cd13 ct13 oc14 kV14 dc14 pm14 cd14 ct14 : Value}
    (aC_PackError : PySem.W.nsIn K mainGlobals "PackError" = some (some (.ref C_PackError)))
    (ic_PackError : PySem.W.isClsIn K C_PackError = true)
    (tc_PackError : PySem.W.typeIn K (.ref C_PackError) = some (.type "type"))
    (bc_PackError : PySem.W.subIn K (.ref C_PackError) (.type "BaseException") = some true)
    (aC_NoNumber : PySem.W.nsIn K mainGlobals "NoNumber" = some (some (.ref C_NoNumber)))
    (ic_NoNumber : PySem.W.isClsIn K C_NoNumber = true)
    (tc_NoNumber : PySem.W.typeIn K (.ref C_NoNumber) = some (.type "type"))
    (bc_NoNumber : PySem.W.subIn K (.ref C_NoNumber) (.type "BaseException") = some true)
    (aC_NoCode : PySem.W.nsIn K mainGlobals "NoCode" = some (some (.ref C_NoCode)))
    (ic_NoCode : PySem.W.isClsIn K C_NoCode = true)
    (tc_NoCode : PySem.W.typeIn K (.ref C_NoCode) = some (.type "type"))
    (bc_NoCode : PySem.W.subIn K (.ref C_NoCode) (.type "BaseException") = some true)
    (aC_NoPlace : PySem.W.nsIn K mainGlobals "NoPlace" = some (some (.ref C_NoPlace)))
    (ic_NoPlace : PySem.W.isClsIn K C_NoPlace = true)
    (tc_NoPlace : PySem.W.typeIn K (.ref C_NoPlace) = some (.type "type"))
    (bc_NoPlace : PySem.W.subIn K (.ref C_NoPlace) (.type "BaseException") = some true)
    (aC_Broken : PySem.W.nsIn K mainGlobals "Broken" = some (some (.ref C_Broken)))
    (ic_Broken : PySem.W.isClsIn K C_Broken = true)
    (tc_Broken : PySem.W.typeIn K (.ref C_Broken) = some (.type "type"))
    (bc_Broken : PySem.W.subIn K (.ref C_Broken) (.type "BaseException") = some true)
    (aC_NoText : PySem.W.nsIn K mainGlobals "NoText" = some (some (.ref C_NoText)))
    (ic_NoText : PySem.W.isClsIn K C_NoText = true)
    (tc_NoText : PySem.W.typeIn K (.ref C_NoText) = some (.type "type"))
    (bc_NoText : PySem.W.subIn K (.ref C_NoText) (.type "BaseException") = some true)
    (aC_NoName : PySem.W.nsIn K mainGlobals "NoName" = some (some (.ref C_NoName)))
    (ic_NoName : PySem.W.isClsIn K C_NoName = true)
    (tc_NoName : PySem.W.typeIn K (.ref C_NoName) = some (.type "type"))
    (bc_NoName : PySem.W.subIn K (.ref C_NoName) (.type "BaseException") = some true)
    (aC_NoRow : PySem.W.nsIn K mainGlobals "NoRow" = some (some (.ref C_NoRow)))
    (ic_NoRow : PySem.W.isClsIn K C_NoRow = true)
    (tc_NoRow : PySem.W.typeIn K (.ref C_NoRow) = some (.type "type"))
    (bc_NoRow : PySem.W.subIn K (.ref C_NoRow) (.type "BaseException") = some true)
    (x_Broken : PySem.W.excIn K C_Broken [.type "ValueError", .type "Exception", .type "BaseException", .type "object"] "ValueError.__new__" = true)
    (kc_Broken : PySem.W.keepIn K (.ref C_Broken) = true)
    (hg_Broken : PySem.W.findIn K (.ref C_Broken) "__getattribute__" = some (some (.builtin "BaseException.__getattribute__")))
    (hk_Broken : PySem.W.findIn K (.ref C_Broken) "__getattr__" = some none)
    (hd_Broken : PySem.W.hasDictIn K C_Broken = true)
    (ha_Broken : PySem.W.findIn K (.ref C_Broken) "__class__" = some (some (.builtin "object.__class__")))
    (hm_Broken : PySem.W.mroIn K C_Broken (.type "object") = some true)
    (se_Broken : PySem.W.subIn K (.ref C_Broken) (.ref C_Broken) = some true)
    (hn : PySem.W.specialIn K (.builtin "object.__class__") "__get__" = some (some (.builtin "getset_descriptor.__get__")))
    (ht : PySem.W.takesIn K (.builtin "object.__class__") = some true)
    (su_0 : PySem.W.subIn K (.ref C_Broken) (.ref C_PackError) = some true)
    (su_1 : PySem.W.subIn K (.ref C_Broken) (.ref C_Broken) = some true)
    (su_2 : PySem.W.subIn K (.ref C_Broken) (.type "ValueError") = some true)
    (su_3 : PySem.W.subIn K (.ref C_Broken) (.ref C_NoCode) = some false)
    (su_4 : PySem.W.subIn K (.ref C_Broken) (.ref C_NoName) = some false)
    (su_5 : PySem.W.subIn K (.ref C_Broken) (.ref C_NoNumber) = some false)
    (su_6 : PySem.W.subIn K (.ref C_Broken) (.ref C_NoPlace) = some false)
    (su_7 : PySem.W.subIn K (.ref C_Broken) (.ref C_NoRow) = some false)
    (su_8 : PySem.W.subIn K (.ref C_Broken) (.ref C_NoText) = some false)
    (z_len : PySem.W.nsIn K mainGlobals "len" = some none)
    (z_min : PySem.W.nsIn K mainGlobals "min" = some none)
    (z_range : PySem.W.nsIn K mainGlobals "range" = some none)
    (z_sum : PySem.W.nsIn K mainGlobals "sum" = some none)
    (z_isinstance : PySem.W.nsIn K mainGlobals "isinstance" = some none)
    (z_int : PySem.W.nsIn K mainGlobals "int" = some none)
    (z_bool : PySem.W.nsIn K mainGlobals "bool" = some none)
    (z_enumerate : PySem.W.nsIn K mainGlobals "enumerate" = some none)
    (z_tuple : PySem.W.nsIn K mainGlobals "tuple" = some none)
    (z_all : PySem.W.nsIn K mainGlobals "all" = some none)
    (z_list : PySem.W.nsIn K mainGlobals "list" = some none)
    (z_reversed : PySem.W.nsIn K mainGlobals "reversed" = some none)
    (z_ValueError : PySem.W.nsIn K mainGlobals "ValueError" = some none)
    (z_FIRST : PySem.W.nsIn K mainGlobals "FIRST" = some (some (.int 256 tk_FIRST)))
    (z_MOST_SIGNS : PySem.W.nsIn K mainGlobals "MOST_SIGNS" = some (some (.int 400 tk_MOST_SIGNS)))
    (aF__law_cell_at : PySem.W.nsIn K mainGlobals "_law_cell_at" = some (some (.ref a__law_cell_at)))
    (l__law_cell_at : K.lookup a__law_cell_at = some ⟨oc0, od0, .func (PySem.W.fnOf "_law_cell_at" "_law_cell_at" (defArgs s__law_cell_at) (defBody s__law_cell_at) (defScope s__law_cell_at) .none kV0 dc0 pm0 an0 cd0 ct0), sl0⟩)
    (c__law_cell_at : PySem.W.codeIn K cd0 "_law_cell_at" = true)
    (k__law_cell_at : PySem.W.keepIn K (.ref a__law_cell_at) = true)
    (aF__law_symbol : PySem.W.nsIn K mainGlobals "_law_symbol" = some (some (.ref a__law_symbol)))
    (l__law_symbol : K.lookup a__law_symbol = some ⟨oc1, od1, .func (PySem.W.fnOf "_law_symbol" "_law_symbol" (defArgs s__law_symbol) (defBody s__law_symbol) (defScope s__law_symbol) .none kV1 dc1 pm1 an1 cd1 ct1), sl1⟩)
    (c__law_symbol : PySem.W.codeIn K cd1 "_law_symbol" = true)
    (k__law_symbol : PySem.W.keepIn K (.ref a__law_symbol) = true)
    (aF__law_stir : PySem.W.nsIn K mainGlobals "_law_stir" = some (some (.ref a__law_stir)))
    (l__law_stir : K.lookup a__law_stir = some ⟨oc2, od2, .func (PySem.W.fnOf "_law_stir" "_law_stir" (defArgs s__law_stir) (defBody s__law_stir) (defScope s__law_stir) .none kV2 dc2 pm2 an2 cd2 ct2), sl2⟩)
    (c__law_stir : PySem.W.codeIn K cd2 "_law_stir" = true)
    (k__law_stir : PySem.W.keepIn K (.ref a__law_stir) = true)
    (aF__law_size : PySem.W.nsIn K mainGlobals "_law_size" = some (some (.ref a__law_size)))
    (l__law_size : K.lookup a__law_size = some ⟨oc3, od3, .func (PySem.W.fnOf "_law_size" "_law_size" (defArgs s__law_size) (defBody s__law_size) (defScope s__law_size) .none kV3 dc3 pm3 an3 cd3 ct3), sl3⟩)
    (c__law_size : PySem.W.codeIn K cd3 "_law_size" = true)
    (k__law_size : PySem.W.keepIn K (.ref a__law_size) = true)
    (aF__law_grammar : PySem.W.nsIn K mainGlobals "_law_grammar" = some (some (.ref a__law_grammar)))
    (l__law_grammar : K.lookup a__law_grammar = some ⟨oc4, od4, .func (PySem.W.fnOf "_law_grammar" "_law_grammar" (defArgs s__law_grammar) (defBody s__law_grammar) (defScope s__law_grammar) .none kV4 dc4 pm4 an4 cd4 ct4), sl4⟩)
    (c__law_grammar : PySem.W.codeIn K cd4 "_law_grammar" = true)
    (k__law_grammar : PySem.W.keepIn K (.ref a__law_grammar) = true)
    (aF__law_put_in : PySem.W.nsIn K mainGlobals "_law_put_in" = some (some (.ref a__law_put_in)))
    (l__law_put_in : K.lookup a__law_put_in = some ⟨oc5, od5, .func (PySem.W.fnOf "_law_put_in" "_law_put_in" (defArgs s__law_put_in) (defBody s__law_put_in) (defScope s__law_put_in) .none kV5 dc5 pm5 an5 cd5 ct5), sl5⟩)
    (c__law_put_in : PySem.W.codeIn K cd5 "_law_put_in" = true)
    (k__law_put_in : PySem.W.keepIn K (.ref a__law_put_in) = true)
    (aF_is_symbol : PySem.W.nsIn K mainGlobals "is_symbol" = some (some (.ref a_is_symbol)))
    (l_is_symbol : K.lookup a_is_symbol = some ⟨oc6, od6, .func (PySem.W.fnOf "is_symbol" "is_symbol" (defArgs s_is_symbol) (defBody s_is_symbol) (defScope s_is_symbol) .none kV6 dc6 pm6 an6 cd6 ct6), sl6⟩)
    (c_is_symbol : PySem.W.codeIn K cd6 "is_symbol" = true)
    (k_is_symbol : PySem.W.keepIn K (.ref a_is_symbol) = true)
    (aF_need_grammar : PySem.W.nsIn K mainGlobals "need_grammar" = some (some (.ref a_need_grammar)))
    (l_need_grammar : K.lookup a_need_grammar = some ⟨oc7, od7, .func (PySem.W.fnOf "need_grammar" "need_grammar" (defArgs s_need_grammar) (defBody s_need_grammar) (defScope s_need_grammar) .none kV7 dc7 pm7 an7 cd7 ct7), sl7⟩)
    (c_need_grammar : PySem.W.codeIn K cd7 "need_grammar" = true)
    (k_need_grammar : PySem.W.keepIn K (.ref a_need_grammar) = true)
    (aF_sizes_of : PySem.W.nsIn K mainGlobals "sizes_of" = some (some (.ref a_sizes_of)))
    (l_sizes_of : K.lookup a_sizes_of = some ⟨oc8, od8, .func (PySem.W.fnOf "sizes_of" "sizes_of" (defArgs s_sizes_of) (defBody s_sizes_of) (defScope s_sizes_of) .none kV8 dc8 pm8 an8 cd8 ct8), sl8⟩)
    (c_sizes_of : PySem.W.codeIn K cd8 "sizes_of" = true)
    (k_sizes_of : PySem.W.keepIn K (.ref a_sizes_of) = true)
    (aF_length_by : PySem.W.nsIn K mainGlobals "length_by" = some (some (.ref a_length_by)))
    (l_length_by : K.lookup a_length_by = some ⟨oc9, od9, .func (PySem.W.fnOf "length_by" "length_by" (defArgs s_length_by) (defBody s_length_by) (defScope s_length_by) .none kV9 dc9 pm9 an9 cd9 ct9), sl9⟩)
    (c_length_by : PySem.W.codeIn K cd9 "length_by" = true)
    (k_length_by : PySem.W.keepIn K (.ref a_length_by) = true)
    (aF_signs_from : PySem.W.nsIn K mainGlobals "signs_from" = some (some (.ref a_signs_from)))
    (l_signs_from : K.lookup a_signs_from = some ⟨oc10, od10, .func (PySem.W.fnOf "signs_from" "signs_from" (defArgs s_signs_from) (defBody s_signs_from) (defScope s_signs_from) .none kV10 dc10 pm10 an10 cd10 ct10), sl10⟩)
    (c_signs_from : PySem.W.codeIn K cd10 "signs_from" = true)
    (k_signs_from : PySem.W.keepIn K (.ref a_signs_from) = true)
    (aF_grammar_text : PySem.W.nsIn K mainGlobals "grammar_text" = some (some (.ref a_grammar_text)))
    (l_grammar_text : K.lookup a_grammar_text = some ⟨oc11, od11, .func (PySem.W.fnOf "grammar_text" "grammar_text" (defArgs s_grammar_text) (defBody s_grammar_text) (defScope s_grammar_text) .none kV11 dc11 pm11 an11 cd11 ct11), sl11⟩)
    (c_grammar_text : PySem.W.codeIn K cd11 "grammar_text" = true)
    (k_grammar_text : PySem.W.keepIn K (.ref a_grammar_text) = true)
    (aF__law_refused : PySem.W.nsIn K mainGlobals "_law_refused" = some (some (.ref a__law_refused)))
    (l__law_refused : K.lookup a__law_refused = some ⟨oc12, od12, .func (PySem.W.fnOf "_law_refused" "_law_refused" (defArgs s__law_refused) (defBody s__law_refused) (defScope s__law_refused) .none kV12 dc12 pm12 an12 cd12 ct12), sl12⟩)
    (c__law_refused : PySem.W.codeIn K cd12 "_law_refused" = true)
    (k__law_refused : PySem.W.keepIn K (.ref a__law_refused) = true)
    (aF__law_good : PySem.W.nsIn K mainGlobals "_law_good" = some (some (.ref a__law_good)))
    (l__law_good : K.lookup a__law_good = some ⟨oc13, od13, .func (PySem.W.fnOf "_law_good" "_law_good" (defArgs s__law_good) (defBody s__law_good) (defScope s__law_good) .none kV13 dc13 pm13 an13 cd13 ct13), sl13⟩)
    (c__law_good : PySem.W.codeIn K cd13 "_law_good" = true)
    (k__law_good : PySem.W.keepIn K (.ref a__law_good) = true)
    (aF_law : PySem.W.nsIn K mainGlobals "law" = some (some (.ref a_law)))
    (l_law : K.lookup a_law = some ⟨oc14, od14, .func (PySem.W.fnOf "law" "law" (defArgs s_law) (defBody s_law) (defScope s_law) .none kV14 dc14 pm14 an14 cd14 ct14), sl14⟩)
    (c_law : PySem.W.codeIn K cd14 "law" = true)
    (k_law : PySem.W.keepIn K (.ref a_law) = true)
    : ∃ fd : FuncData, (∀ (s : Shared) (u : Value), BindsTo s fd ⟨[u], []⟩ [("script", u)]) ∧ ∀ base : Heap, K.In base → base.Ns mainGlobals mg → FnOk P w K mg base (L2.CX P w) 6 fa fd ["script"] (spLaw K) := by
  have T : Txt K mg := txt_mk X G aC_PackError ic_PackError tc_PackError bc_PackError aC_NoNumber ic_NoNumber tc_NoNumber bc_NoNumber aC_NoCode ic_NoCode tc_NoCode bc_NoCode aC_NoPlace ic_NoPlace tc_NoPlace bc_NoPlace aC_Broken ic_Broken tc_Broken bc_Broken aC_NoText ic_NoText tc_NoText bc_NoText aC_NoName ic_NoName tc_NoName bc_NoName aC_NoRow ic_NoRow tc_NoRow bc_NoRow x_Broken kc_Broken hg_Broken hk_Broken hd_Broken ha_Broken hm_Broken se_Broken hn ht su_0 su_1 su_2 su_3 su_4 su_5 su_6 su_7 su_8 z_len z_min z_range z_sum z_isinstance z_int z_bool z_enumerate z_tuple z_all z_list z_reversed z_ValueError z_FIRST z_MOST_SIGNS aF__law_cell_at l__law_cell_at c__law_cell_at k__law_cell_at aF__law_symbol l__law_symbol c__law_symbol k__law_symbol aF__law_stir l__law_stir c__law_stir k__law_stir aF__law_size l__law_size c__law_size k__law_size aF__law_grammar l__law_grammar c__law_grammar k__law_grammar aF__law_put_in l__law_put_in c__law_put_in k__law_put_in aF_is_symbol l_is_symbol c_is_symbol k_is_symbol aF_need_grammar l_need_grammar c_need_grammar k_need_grammar aF_sizes_of l_sizes_of c_sizes_of k_sizes_of aF_length_by l_length_by c_length_by k_length_by aF_signs_from l_signs_from c_signs_from k_signs_from aF_grammar_text l_grammar_text c_grammar_text k_grammar_text aF__law_refused l__law_refused c__law_refused k__law_refused aF__law_good l__law_good c__law_good k__law_good aF_law l_law c_law k_law
  have e := hfa.symm.trans (PySem.W.mg_of X G aF_law)
  cases e
  exact ⟨PySem.W.fnOf "law" "law" (defArgs s_law) (defBody s_law) (defScope s_law) .none kV14 dc14 pm14 an14 cd14 ct14, fun s u => .of_eq rfl, fun base _ _ => (ok_law (txt_mk X G aC_PackError ic_PackError tc_PackError bc_PackError aC_NoNumber ic_NoNumber tc_NoNumber bc_NoNumber aC_NoCode ic_NoCode tc_NoCode bc_NoCode aC_NoPlace ic_NoPlace tc_NoPlace bc_NoPlace aC_Broken ic_Broken tc_Broken bc_Broken aC_NoText ic_NoText tc_NoText bc_NoText aC_NoName ic_NoName tc_NoName bc_NoName aC_NoRow ic_NoRow tc_NoRow bc_NoRow x_Broken kc_Broken hg_Broken hk_Broken hd_Broken ha_Broken hm_Broken se_Broken hn ht su_0 su_1 su_2 su_3 su_4 su_5 su_6 su_7 su_8 z_len z_min z_range z_sum z_isinstance z_int z_bool z_enumerate z_tuple z_all z_list z_reversed z_ValueError z_FIRST z_MOST_SIGNS aF__law_cell_at l__law_cell_at c__law_cell_at k__law_cell_at aF__law_symbol l__law_symbol c__law_symbol k__law_symbol aF__law_stir l__law_stir c__law_stir k__law_stir aF__law_size l__law_size c__law_size k__law_size aF__law_grammar l__law_grammar c__law_grammar k__law_grammar aF__law_put_in l__law_put_in c__law_put_in k__law_put_in aF_is_symbol l_is_symbol c_is_symbol k_is_symbol aF_need_grammar l_need_grammar c_need_grammar k_need_grammar aF_sizes_of l_sizes_of c_sizes_of k_sizes_of aF_length_by l_length_by c_length_by k_length_by aF_signs_from l_signs_from c_signs_from k_signs_from aF_grammar_text l_grammar_text c_grammar_text k_grammar_text aF__law_refused l__law_refused c__law_refused k__law_refused aF__law_good l__law_good c__law_good k__law_good aF_law l_law c_law k_law)).imp fun vs H Q E q => law_imp (G := (txt_mk X G aC_PackError ic_PackError tc_PackError bc_PackError aC_NoNumber ic_NoNumber tc_NoNumber bc_NoNumber aC_NoCode ic_NoCode tc_NoCode bc_NoCode aC_NoPlace ic_NoPlace tc_NoPlace bc_NoPlace aC_Broken ic_Broken tc_Broken bc_Broken aC_NoText ic_NoText tc_NoText bc_NoText aC_NoName ic_NoName tc_NoName bc_NoName aC_NoRow ic_NoRow tc_NoRow bc_NoRow x_Broken kc_Broken hg_Broken hk_Broken hd_Broken ha_Broken hm_Broken se_Broken hn ht su_0 su_1 su_2 su_3 su_4 su_5 su_6 su_7 su_8 z_len z_min z_range z_sum z_isinstance z_int z_bool z_enumerate z_tuple z_all z_list z_reversed z_ValueError z_FIRST z_MOST_SIGNS aF__law_cell_at l__law_cell_at c__law_cell_at k__law_cell_at aF__law_symbol l__law_symbol c__law_symbol k__law_symbol aF__law_stir l__law_stir c__law_stir k__law_stir aF__law_size l__law_size c__law_size k__law_size aF__law_grammar l__law_grammar c__law_grammar k__law_grammar aF__law_put_in l__law_put_in c__law_put_in k__law_put_in aF_is_symbol l_is_symbol c_is_symbol k_is_symbol aF_need_grammar l_need_grammar c_need_grammar k_need_grammar aF_sizes_of l_sizes_of c_sizes_of k_sizes_of aF_length_by l_length_by c_length_by k_length_by aF_signs_from l_signs_from c_signs_from k_signs_from aF_grammar_text l_grammar_text c_grammar_text k_grammar_text aF__law_refused l__law_refused c__law_refused k__law_refused aF__law_good l__law_good c__law_good k__law_good aF_law l_law c_law k_law).G) rfl law_plain q⟩
end K37
open PySem PySem.W PyProof.Rows
theorem PySem.Challenge.cw_packhall_k37_grammars_put_in_holds : PySem.Challenge.rw_packhall_k37_grammars_put_in.Holds := by
  w_on; o_law; k_head; (case hw => w_witness2)
  k_fill
  refine VL.walk_lawV (k := 6) (l := PySem.Challenge.rw_packhall_k37_grammars_put_in) rfl rfl ⟨rfl, by decide, by decide⟩ (fun w h Y => PySem.W.kIn_of Y) ?F
  case F =>
    intro w mg fa h KX G hmg
    refine' K37.all_mk KX G hmg ?aC_PackError ?ic_PackError ?tc_PackError ?bc_PackError ?aC_NoNumber ?ic_NoNumber ?tc_NoNumber ?bc_NoNumber ?aC_NoCode ?ic_NoCode ?tc_NoCode ?bc_NoCode ?aC_NoPlace ?ic_NoPlace ?tc_NoPlace ?bc_NoPlace ?aC_Broken ?ic_Broken ?tc_Broken ?bc_Broken ?aC_NoText ?ic_NoText ?tc_NoText ?bc_NoText ?aC_NoName ?ic_NoName ?tc_NoName ?bc_NoName ?aC_NoRow ?ic_NoRow ?tc_NoRow ?bc_NoRow ?x_Broken ?kc_Broken ?hg_Broken ?hk_Broken ?hd_Broken ?ha_Broken ?hm_Broken ?se_Broken ?hn ?ht ?su_0 ?su_1 ?su_2 ?su_3 ?su_4 ?su_5 ?su_6 ?su_7 ?su_8 ?z_len ?z_min ?z_range ?z_sum ?z_isinstance ?z_int ?z_bool ?z_enumerate ?z_tuple ?z_all ?z_list ?z_reversed ?z_ValueError ?z_FIRST ?z_MOST_SIGNS ?aF__law_cell_at ?l__law_cell_at ?c__law_cell_at ?k__law_cell_at ?aF__law_symbol ?l__law_symbol ?c__law_symbol ?k__law_symbol ?aF__law_stir ?l__law_stir ?c__law_stir ?k__law_stir ?aF__law_size ?l__law_size ?c__law_size ?k__law_size ?aF__law_grammar ?l__law_grammar ?c__law_grammar ?k__law_grammar ?aF__law_put_in ?l__law_put_in ?c__law_put_in ?k__law_put_in ?aF_is_symbol ?l_is_symbol ?c_is_symbol ?k_is_symbol ?aF_need_grammar ?l_need_grammar ?c_need_grammar ?k_need_grammar ?aF_sizes_of ?l_sizes_of ?c_sizes_of ?k_sizes_of ?aF_length_by ?l_length_by ?c_length_by ?k_length_by ?aF_signs_from ?l_signs_from ?c_signs_from ?k_signs_from ?aF_grammar_text ?l_grammar_text ?c_grammar_text ?k_grammar_text ?aF__law_refused ?l__law_refused ?c__law_refused ?k__law_refused ?aF__law_good ?l__law_good ?c__law_good ?k__law_good ?aF_law ?l_law ?c_law ?k_law
    (case aC_PackError => k_is)
    (case ic_PackError => k_is)
    (case tc_PackError => k_is)
    (case bc_PackError => k_is)
    (case aC_NoNumber => k_is)
    (case ic_NoNumber => k_is)
    (case tc_NoNumber => k_is)
    (case bc_NoNumber => k_is)
    (case aC_NoCode => k_is)
    (case ic_NoCode => k_is)
    (case tc_NoCode => k_is)
    (case bc_NoCode => k_is)
    (case aC_NoPlace => k_is)
    (case ic_NoPlace => k_is)
    (case tc_NoPlace => k_is)
    (case bc_NoPlace => k_is)
    (case aC_Broken => k_is)
    (case ic_Broken => k_is)
    (case tc_Broken => k_is)
    (case bc_Broken => k_is)
    (case aC_NoText => k_is)
    (case ic_NoText => k_is)
    (case tc_NoText => k_is)
    (case bc_NoText => k_is)
    (case aC_NoName => k_is)
    (case ic_NoName => k_is)
    (case tc_NoName => k_is)
    (case bc_NoName => k_is)
    (case aC_NoRow => k_is)
    (case ic_NoRow => k_is)
    (case tc_NoRow => k_is)
    (case bc_NoRow => k_is)
    (case x_Broken => k_exc)
    (case kc_Broken => k_is)
    (case hg_Broken => k_is)
    (case hk_Broken => k_is)
    (case hd_Broken => k_is)
    (case ha_Broken => k_is)
    (case hm_Broken => k_is)
    (case se_Broken => first | rfl | k_is)
    (case hn => k_is)
    (case ht => k_is)
    (case su_0 => first | rfl | k_is)
    (case su_1 => first | rfl | k_is)
    (case su_2 => k_is)
    (case su_3 => first | rfl | k_is)
    (case su_4 => first | rfl | k_is)
    (case su_5 => first | rfl | k_is)
    (case su_6 => first | rfl | k_is)
    (case su_7 => first | rfl | k_is)
    (case su_8 => first | rfl | k_is)
    (case z_len => k_is)
    (case z_min => k_is)
    (case z_range => k_is)
    (case z_sum => k_is)
    (case z_isinstance => k_is)
    (case z_int => k_is)
    (case z_bool => k_is)
    (case z_enumerate => k_is)
    (case z_tuple => k_is)
    (case z_all => k_is)
    (case z_list => k_is)
    (case z_reversed => k_is)
    (case z_ValueError => k_is)
    (case z_FIRST => k_is)
    (case z_MOST_SIGNS => k_is)
    (case aF__law_cell_at => k_is)
    (case l__law_cell_at => k_is)
    (case c__law_cell_at => k_is)
    (case k__law_cell_at => k_is)
    (case aF__law_symbol => k_is)
    (case l__law_symbol => k_is)
    (case c__law_symbol => k_is)
    (case k__law_symbol => k_is)
    (case aF__law_stir => k_is)
    (case l__law_stir => k_is)
    (case c__law_stir => k_is)
    (case k__law_stir => k_is)
    (case aF__law_size => k_is)
    (case l__law_size => k_is)
    (case c__law_size => k_is)
    (case k__law_size => k_is)
    (case aF__law_grammar => k_is)
    (case l__law_grammar => k_is)
    (case c__law_grammar => k_is)
    (case k__law_grammar => k_is)
    (case aF__law_put_in => k_is)
    (case l__law_put_in => k_is)
    (case c__law_put_in => k_is)
    (case k__law_put_in => k_is)
    (case aF_is_symbol => k_is)
    (case l_is_symbol => k_is)
    (case c_is_symbol => k_is)
    (case k_is_symbol => k_is)
    (case aF_need_grammar => k_is)
    (case l_need_grammar => k_is)
    (case c_need_grammar => k_is)
    (case k_need_grammar => k_is)
    (case aF_sizes_of => k_is)
    (case l_sizes_of => k_is)
    (case c_sizes_of => k_is)
    (case k_sizes_of => k_is)
    (case aF_length_by => k_is)
    (case l_length_by => k_is)
    (case c_length_by => k_is)
    (case k_length_by => k_is)
    (case aF_signs_from => k_is)
    (case l_signs_from => k_is)
    (case c_signs_from => k_is)
    (case k_signs_from => k_is)
    (case aF_grammar_text => k_is)
    (case l_grammar_text => k_is)
    (case c_grammar_text => k_is)
    (case k_grammar_text => k_is)
    (case aF__law_refused => k_is)
    (case l__law_refused => k_is)
    (case c__law_refused => k_is)
    (case k__law_refused => k_is)
    (case aF__law_good => k_is)
    (case l__law_good => k_is)
    (case c__law_good => k_is)
    (case k__law_good => k_is)
    (case aF_law => k_is)
    (case l_law => k_is)
    (case c_law => k_is)
    (case k_law => k_is)
#print axioms PySem.Challenge.cw_packhall_k37_grammars_put_in_holds

