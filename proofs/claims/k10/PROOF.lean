import PyProof.Rows.All
import Wide.All
import OpenK.AllK
import Wide.FinOn
import HandS.ForMost
import HandS.ForExc
import HandS.ExcIs
import HandS.Lambda
import HandS.EndTab
import HandS.Wide
import HandS.WideBits
import HandS.Deep
import HandS.TupAny
import HandS.IsInst
import HandS.Ends
import HandS.Style
import HandS.EndBits
import HandS.Conv
import HandS.SetFor
import HandS.SortInts
import HandS.More
import HandS.NoneIn
import HandS.DictTup
import HandS.SortRule
import HandS.NamedTupSort
import KE.LtSeq
import HandS.Rev
import HandS.Strs
import HandS.ExcOwn
import HandS.SortKw
import KE.SortKeyHeap
import HandS.Dict
import HandS.TupLe
import PySem.Challenge.RW_packhall_k10_coded_and_decoded
set_option Elab.async false
set_option linter.all false
set_option maxRecDepth 100000
set_option maxHeartbeats 4000000
namespace VL
open PySem PySem.Spec PyProof.Rows L2

inductive Kd where
  | lst | tup | rd | dK (ks : List Key) | dT (ks : List (List Key)) | ins (c : Nat) (fs : List Str)
def isR : Kd → Bool
  | .rd => true
  | _ => false
inductive D where
  | any | non | bl (b : Bool) | int (i : Int) | str (s : Str) | exc (c : Nat) | ty (n : String) | cls (c : Nat)
  | node (k : Kd) (o : Bool) (xs : List D)

inductive Bs where
  | sl (i : Nat) | tm (j : Nat) | fo
  deriving DecidableEq
structure Loc where
  b : Bs
  p : List Nat
  deriving DecidableEq
def Loc.sub (l : Loc) (i : Nat) : Loc := ⟨l.b, l.p ++ [i]⟩
def Loc.app (l : Loc) (q : List Nat) : Loc := ⟨l.b, l.p ++ q⟩
theorem Loc.sub_app (l : Loc) (i : Nat) (q : List Nat) : (l.sub i).app q = l.app (i :: q) := by
  unfold Loc.sub Loc.app; simp
theorem Loc.app_nil (l : Loc) : l.app [] = l := by
  unfold Loc.app; simp
abbrev Ow := Addr → Option Loc

def ExT (cls : Value) (a : Addr) : HO := .ext fun h => ∃ (oe : Obj) (vs : Array Value), h.get? a = some oe ∧ Zc cls none oe ∧ oe.data = .fields vs
def isTbl : HO → Bool
  | .tbl _ => true
  | _ => false
def Kt (x : Option HO) (o : HO) : Prop := x = some o ∨ (isTbl o = true ∧ ∃ ps, x = some (.tbl ps))
instance {x : Option HO} {o : HO} : Coe (x = some o) (Kt x o) := ⟨.inl⟩
theorem Kt.get {x : Option HO} {o : HO} (h : Kt x o) (n : isTbl o = false) : x = some o := h.elim id fun z => by rw [n] at z; cases z.1
theorem Kt.bind {x y : Option HO} {o : HO} (h : Kt x o) (f : ∀ u, x = some u → Kt y u) : Kt y o := by
  rcases h with h | ⟨h1, ps, h2⟩
  · exact f o h
  · rcases f _ h2 with z | ⟨_, z⟩
    · exact .inr ⟨h1, _, z⟩
    · exact .inr ⟨h1, z⟩
theorem Kt.no {o : HO} (h : Kt none o) : False := by
  rcases h with h | ⟨_, _, h⟩ <;> cases h
theorem Kt.on {x : Option HO} {o : HO} (h : Kt x o) (e : x = none) : False := by rw [e] at h; exact h.no
def OwnO : Option HO → Prop
  | some (.lst _) => True
  | some (.dK _) => True
  | some (.dT _) => True
  | some (.ins _ _ _) => True
  | _ => False
theorem OwnO.nt {o : HO} (h : OwnO (some o)) : isTbl o = false := by
  cases o <;> first | rfl | exact h.elim
def OwnAt (k : Kd) (o : Bool) (l : Loc) (x : Option Loc) : Prop := match k with
  | .rd => True
  | _ => x = if o = true then some l else none
theorem OwnAt.ofR {k : Kd} {o : Bool} {l : Loc} {x : Option Loc} (h : isR k = true) : OwnAt k o l x := by
  cases k <;> first | exact trivial | cases h
theorem OwnAt.cases {k : Kd} {o : Bool} {l : Loc} {x : Option Loc} (h : OwnAt k o l x) : isR k = true ∨ x = if o = true then some l else none := by
  cases k <;> first | exact .inl rfl | exact .inr h
theorem OwnAt.mk {k : Kd} {o : Bool} {l : Loc} {x : Option Loc} (h : x = if o = true then some l else none) : OwnAt k o l x := by
  cases k <;> first | exact h | exact trivial
structure GX where
  ad : Nat → Addr
  K : PySem.W.Frag
  T : List (Addr × Str)
instance : CoeFun GX (fun _ => Nat → Addr) := ⟨GX.ad⟩
def Holds (G : GX) (H : Hp) (a : Addr) : Kd → List V → Prop
  | .lst, vs => H a = some (.lst vs)
  | .tup, vs => H a = some (.tup vs)
  | .rd, vs => (∃ o, H a = some (.frz o (.lst vs))) ∨ ∃ (o : Obj) (its : Array Value) (n : Nat), G.K.lookup a = some o ∧ o.cls = .type "list" ∧ o.dict = none ∧ o.data = .seq its n ∧ its.size ≤ sizeLine ∧ Vals vs its.toList
  | .dK ks, vs => H a = some (.dK (ks.zip vs)) ∧ ks.length = vs.length
  | .dT ks, vs => H a = some (.dT (ks.zip vs)) ∧ ks.length = vs.length
  | .ins c fs, vs => (∃ dx, H a = some (.ins (G c) dx (fs.zip vs))) ∧ fs.length = vs.length
theorem Holds.there {G : GX} {H : Hp} {a : Addr} {k : Kd} {vs : List V} (h : Holds G H a k vs) (n : isR k ≠ true) : ∃ o, H a = some o ∧ isTbl o = false := by
  cases k with
  | lst => exact ⟨_, h, rfl⟩
  | tup => exact ⟨_, h, rfl⟩
  | dK ks => exact ⟨_, h.1, rfl⟩
  | dT ks => exact ⟨_, h.1, rfl⟩
  | ins c fs => obtain ⟨⟨dx, h⟩, _⟩ := h; exact ⟨_, h, rfl⟩
  | _ => exact absurd rfl n
theorem Holds.seq {G : GX} {H : Hp} {a : Addr} {vs : List V} (h : Holds G H a .rd vs) : SqL G.K H a vs := by
  rcases h with ⟨o, h⟩ | h
  · exact .inl (.inr ⟨o, h⟩)
  · exact .inr h
theorem Holds.keep {G : GX} {H H' : Hp} {a : Addr} {k : Kd} {vs : List V} (h : Holds G H a k vs) (e : ∀ o, H a = some o → Kt (H' a) o) : Holds G H' a k vs := by
  cases k with
  | lst => exact (e _ h).get rfl
  | tup => exact (e _ h).get rfl
  | rd =>
    rcases h with ⟨o, h⟩ | h
    · exact .inl ⟨o, (e _ h).get rfl⟩
    · exact .inr h
  | dK ks => exact ⟨(e _ h.1).get rfl, h.2⟩
  | dT ks => exact ⟨(e _ h.1).get rfl, h.2⟩
  | ins c fs => obtain ⟨⟨dx, h⟩, z⟩ := h; exact ⟨⟨dx, (e _ h).get rfl⟩, z⟩
theorem Holds.keepR {G : GX} {H H' : Hp} {a : Addr} {k : Kd} {vs : List V} (hk : isR k = true) (h : Holds G H a k vs) (e : ∀ a o, H a = some o → ¬ OwnO (some o) → Kt (H' a) o) : Holds G H' a k vs := by
  cases k with
  | rd =>
    rcases h with ⟨o, h⟩ | h
    · exact .inl ⟨o, (e _ _ h (fun z => z)).get rfl⟩
    · exact .inr h
  | _ => cases hk
mutual
def Rep (G : GX) (ow : Ow) (H : Hp) : D → Loc → V → Prop
  | .any, _, _ => True
  | .non, _, v => v = .non
  | .bl b, _, v => v = .bl b
  | .int i, _, v => v = .int i
  | .str s, _, v => v = .str s
  | .exc c, _, v => ∃ a, v = .ref a ∧ H a = some (ExT (.ref (G c)) a)
  | .ty n, _, v => v = .ty n
  | .cls c, _, v => v = .ref (G c)
  | .node k o xs, l, v => ∃ a vs, v = .ref a ∧ Holds G H a k vs ∧ OwnAt k o l (ow a) ∧ Reps G ow H xs l 0 vs
def Reps (G : GX) (ow : Ow) (H : Hp) : List D → Loc → Nat → List V → Prop
  | [], _, _, vs => vs = []
  | d :: ds, l, i, vs => ∃ v ws, vs = v :: ws ∧ Rep G ow H d (l.sub i) v ∧ Reps G ow H ds l (i + 1) ws
end

mutual
def frz : D → D
  | .any => .any
  | .non => .non
  | .bl b => .bl b
  | .int i => .int i
  | .str s => .str s
  | .exc c => .exc c
  | .ty n => .ty n
  | .cls c => .cls c
  | .node k _ xs => .node k false (frzs xs)
def frzs : List D → List D
  | [] => []
  | d :: ds => frz d :: frzs ds
end
theorem frzs_map : ∀ xs : List D, frzs xs = xs.map frz
  | [] => by simp [frzs]
  | d :: ds => by simp [frzs, frzs_map ds]
mutual
theorem frz_frz : ∀ d : D, frz (frz d) = frz d
  | .any => rfl
  | .non => rfl
  | .bl _ => rfl
  | .int _ => rfl
  | .str _ => rfl
  | .exc _ => rfl
  | .ty _ => rfl
  | .cls _ => rfl
  | .node k o xs => by simp only [frz, frzs_frzs xs]
theorem frzs_frzs : ∀ ds : List D, frzs (frzs ds) = frzs ds
  | [] => by simp only [frzs]
  | d :: ds => by simp only [frzs, frz_frz d, frzs_frzs ds]
end
def frzB : D → D
  | .node k o xs => .node k o (frzs xs)
  | d => d

section
variable {G : GX} {ow ow' : Ow} {H H' : Hp}
mutual
/-- the one rule of change: objects that the tree leans on stay, and who owns them is told anew -/
theorem Rep.mono : ∀ (d : D) {l l' : Loc} {v : V}, (∀ a o, H a = some o → (ow a = none ∨ ∃ q, ow a = some (l.app q)) → Kt (H' a) o) → (∀ a o, H a = some o → ¬ OwnO (some o) → Kt (H' a) o) → (∀ a o, H a = some o → ow a = none → ow' a = none) →
    (∀ a o q, H a = some o → ow a = some (l.app q) → ow' a = some (l'.app q)) → Rep G ow H d l v → Rep G ow' H' d l' v
  | .any, _, _, _, _, _, _, _, _ => trivial
  | .non, _, _, _, _, _, _, _, h => h
  | .bl _, _, _, _, _, _, _, _, h => h
  | .int _, _, _, _, _, _, _, _, h => h
  | .str _, _, _, _, _, _, _, _, h => h
  | .ty _, _, _, _, _, _, _, _, h => h
  | .cls _, _, _, _, _, _, _, _, h => h
  | .exc _, _, _, _, _, hE, _, _, h => by
    obtain ⟨a, e, h⟩ := h
    exact ⟨a, e, (hE a _ h (fun z => z)).get rfl⟩
  | .node k o xs, l, l', v, hA, hE, hB, hC, h => by
    obtain ⟨a, vs, e, h1, h2, h3⟩ := h
    by_cases hk : isR k = true
    · exact ⟨a, vs, e, h1.keepR hk hE, .ofR hk, Reps.mono xs hA hE hB hC h3⟩
    have h2 := h2.cases.resolve_left hk
    obtain ⟨ob, hob, _⟩ := h1.there hk
    refine ⟨a, vs, e, h1.keep fun o' z => hA a o' z ?_, .mk ?_, Reps.mono xs hA hE hB hC h3⟩
    · cases o with
      | true => exact .inr ⟨[], by rw [Loc.app_nil]; simpa using h2⟩
      | false => exact .inl (by simpa using h2)
    · cases o with
      | true =>
        have z := hC a ob [] hob (by rw [Loc.app_nil]; simpa using h2)
        rw [Loc.app_nil] at z
        simpa using z
      | false => simpa using hB a ob hob (by simpa using h2)
theorem Reps.mono : ∀ (ds : List D) {l l' : Loc} {i : Nat} {vs : List V}, (∀ a o, H a = some o → (ow a = none ∨ ∃ q, ow a = some (l.app q)) → Kt (H' a) o) → (∀ a o, H a = some o → ¬ OwnO (some o) → Kt (H' a) o) → (∀ a o, H a = some o → ow a = none → ow' a = none) →
    (∀ a o q, H a = some o → ow a = some (l.app q) → ow' a = some (l'.app q)) → Reps G ow H ds l i vs → Reps G ow' H' ds l' i vs
  | [], _, _, _, _, _, _, _, _, h => h
  | d :: ds, l, l', i, vs, hA, hE, hB, hC, h => by
    obtain ⟨v, ws, e, h1, h2⟩ := h
    refine ⟨v, ws, e, Rep.mono d (fun a o z q => hA a o z ?_) hE hB (fun a o q z r => ?_) h1, Reps.mono ds hA hE hB hC h2⟩
    · rcases q with q | ⟨q, r⟩
      · exact .inl q
      · exact .inr ⟨i :: q, by rw [r, Loc.sub_app]⟩
    · rw [Loc.sub_app] at r ⊢
      exact hC a o (i :: q) z r
end
mutual
/-- frozen: all that it owned is nobody's -/
theorem Rep.frz : ∀ (d : D) {l l' : Loc} {v : V}, (∀ a o, H a = some o → (ow a = none ∨ ∃ q, ow a = some (l.app q)) → Kt (H' a) o ∧ ow' a = none) → (∀ a o, H a = some o → ¬ OwnO (some o) → Kt (H' a) o) →
    Rep G ow H d l v → Rep G ow' H' (VL.frz d) l' v
  | .any, _, _, _, _, _, _ => trivial
  | .non, _, _, _, _, _, h => h
  | .bl _, _, _, _, _, _, h => h
  | .int _, _, _, _, _, _, h => h
  | .str _, _, _, _, _, _, h => h
  | .ty _, _, _, _, _, _, h => h
  | .cls _, _, _, _, _, _, h => h
  | .exc _, _, _, _, _, hE, h => by
    obtain ⟨a, e, h⟩ := h
    exact ⟨a, e, (hE a _ h (fun z => z)).get rfl⟩
  | .node k o xs, l, l', v, hA, hE, h => by
    obtain ⟨a, vs, e, h1, h2, h3⟩ := h
    by_cases hk : isR k = true
    · exact ⟨a, vs, e, h1.keepR hk hE, .ofR hk, Reps.frz xs hA hE h3⟩
    have h2 := h2.cases.resolve_left hk
    obtain ⟨ob, hob, _⟩ := h1.there hk
    have own : ow a = none ∨ ∃ q, ow a = some (l.app q) := by
      cases o with
      | true => exact .inr ⟨[], by rw [Loc.app_nil]; simpa using h2⟩
      | false => exact .inl (by simpa using h2)
    show ∃ a vs, v = .ref a ∧ Holds G H' a k vs ∧ OwnAt k false l' (ow' a) ∧ Reps G ow' H' (VL.frzs xs) l' 0 vs
    exact ⟨a, vs, e, h1.keep fun o' z => (hA a o' z own).1, .mk (by simpa using (hA a ob hob own).2), Reps.frz xs hA hE h3⟩
theorem Reps.frz : ∀ (ds : List D) {l l' : Loc} {i j : Nat} {vs : List V}, (∀ a o, H a = some o → (ow a = none ∨ ∃ q, ow a = some (l.app q)) → Kt (H' a) o ∧ ow' a = none) → (∀ a o, H a = some o → ¬ OwnO (some o) → Kt (H' a) o) →
    Reps G ow H ds l i vs → Reps G ow' H' (VL.frzs ds) l' j vs
  | [], _, _, _, _, _, _, _, h => h
  | d :: ds, l, l', i, j, vs, hA, hE, h => by
    obtain ⟨v, ws, e, h1, h2⟩ := h
    show ∃ v ws, vs = v :: ws ∧ Rep G ow' H' (VL.frz d) (l'.sub j) v ∧ Reps G ow' H' (VL.frzs ds) l' (j + 1) ws
    refine ⟨v, ws, e, Rep.frz d (fun a o z q => hA a o z ?_) hE h1, Reps.frz ds hA hE h2⟩
    rcases q with q | ⟨q, r⟩
    · exact .inl q
    · exact .inr ⟨i :: q, by rw [r, Loc.sub_app]⟩
end
end

theorem Reps.length {G : GX} {ow : Ow} {H : Hp} : ∀ {ds : List D} {l : Loc} {i : Nat} {vs : List V}, Reps G ow H ds l i vs → ds.length = vs.length
  | [], _, _, _, h => by
    have e : _ = [] := h
    subst e; rfl
  | d :: ds, l, i, vs, h => by
    obtain ⟨v, ws, e, _, h2⟩ := h
    subst e
    simp [Reps.length h2]
theorem Reps.get {G : GX} {ow : Ow} {H : Hp} : ∀ {ds : List D} {l : Loc} {i : Nat} {vs : List V}, Reps G ow H ds l i vs → ∀ (j : Nat) (d : D), ds[j]? = some d → ∃ v, vs[j]? = some v ∧ Rep G ow H d (l.sub (i + j)) v
  | [], _, _, _, _, j, d, e => by simp at e
  | d :: ds, l, i, vs, h, 0, d', e => by
    obtain ⟨v, ws, ev, h1, _⟩ := h
    subst ev
    simp at e; subst e
    exact ⟨v, rfl, h1⟩
  | d :: ds, l, i, vs, h, j + 1, d', e => by
    obtain ⟨v, ws, ev, _, h2⟩ := h
    subst ev
    obtain ⟨u, e1, e2⟩ := Reps.get h2 j d' (by simpa using e)
    refine ⟨u, by simpa using e1, ?_⟩
    rw [show i + (j + 1) = i + 1 + j by omega]
    exact e2
theorem Reps.of_get {G : GX} {ow : Ow} {H : Hp} : ∀ {ds : List D} {l : Loc} {i : Nat} {vs : List V}, ds.length = vs.length → (∀ (j : Nat) (d : D) (v : V), ds[j]? = some d → vs[j]? = some v → Rep G ow H d (l.sub (i + j)) v) → Reps G ow H ds l i vs
  | [], _, _, vs, hl, _ => by
    have : vs = [] := by simpa using hl.symm
    exact this
  | d :: ds, l, i, [], hl, _ => by simp at hl
  | d :: ds, l, i, v :: vs, hl, h => by
    refine ⟨v, vs, rfl, h 0 d v rfl rfl, Reps.of_get (by simpa using hl) fun j d' v' e1 e2 => ?_⟩
    have z := h (j + 1) d' v' (by simpa using e1) (by simpa using e2)
    rw [show i + 1 + j = i + (j + 1) by omega]
    exact z
end VL

namespace VL
open PySem PySem.Spec PyProof.Rows L2

structure Fc where
  H0 : Hp
  io : Addr → Prop
  fo : Addr → Prop
  pin : List (Nat × V)
abbrev Rho := List (Option D)
theorem tabs_upd {T : List (Addr × Str)} {H : Hp} {a : Addr} {ho : HO} (t : LamX.Tabs T H) (h : H a = none ∨ OwnO (H a)) : LamX.Tabs T (upd H a ho) := fun p hp => by
  have ne : ∀ (b : Addr) (o : HO), H b = some o → ¬ OwnO (some o) → upd H a ho b = some o := fun b o e n => by
    rw [upd_ne]
    · exact e
    · intro z
      subst z
      rcases h with h | h
      · rw [h] at e; cases e
      · rw [e] at h; exact n h
  obtain ⟨ps, h1, h2, h3⟩ := t p hp
  refine ⟨ps, ne _ _ h1 (fun z => z), h2, fun pos cv hc => ?_⟩
  obtain ⟨c, e1, e2⟩ := h3 pos cv hc
  exact ⟨c, e1, ne _ _ e2 (fun z => z)⟩
theorem tabs_none {T : List (Addr × Str)} {H : Hp} {a : Addr} {ho : HO} (t : LamX.Tabs T H) (h : H a = none) : LamX.Tabs T (upd H a ho) := tabs_upd t (.inl h)
theorem tabs_own {T : List (Addr × Str)} {H : Hp} {a : Addr} {ho o : HO} (t : LamX.Tabs T H) (h : H a = some o) (n : OwnO (some o)) : LamX.Tabs T (upd H a ho) := tabs_upd t (.inr (by rw [h]; exact n))
structure StW (G : GX) (C : Fc) (ow : Ow) (r : Rho) (T : List (D × V)) (s : L2.St) (H : Hp) : Prop where
  len : r.length = s.length
  sl : ∀ (i : Nat) (d : D), r[i]? = some (some d) → ∃ v, s[i]? = some (some v) ∧ Rep G ow H d ⟨.sl i, []⟩ v
  tm : ∀ (j : Nat) (d : D) (v : V), T[j]? = some (d, v) → Rep G ow H d ⟨.tm j, []⟩ v
  old : ∀ a o, ¬ C.io a → C.H0 a = some o → Kt (H a) o
  own : ∀ a l, ow a = some l → l.b = .fo ∨ C.H0 a = none ∨ C.io a
  fo : ∀ a, C.fo a → ow a = some ⟨.fo, []⟩
  mu : ∀ a l, ow a = some l → OwnO (H a)
  pin : ∀ p ∈ C.pin, s[p.1]? = some (some p.2)
  tabs : LamX.Tabs G.T H
def StOk (G : GX) (C : Fc) (r : Rho) (T : List (D × V)) (s : L2.St) (H : Hp) : Prop := ∃ ow, StW G C ow r T s H
def Ext (H H' : Hp) : Prop := ∀ a o, H a = some o → Kt (H' a) o
theorem Ext.refl {H : Hp} : Ext H H := fun _ _ h => h
theorem Ext.trans {H H' H'' : Hp} (h : Ext H H') (h' : Ext H' H'') : Ext H H'' := fun a o e => (h a o e).bind fun u e => h' a u e
theorem Ext.new {H : Hp} {p : Addr} {o : HO} (h : H p = none) : Ext H (upd H p o) := fun a u e => by
  rw [upd_ne (ne_of_none e h)]; exact .inl e

def atom : D → Bool
  | .node _ _ _ => false
  | _ => true
theorem frz_atom {d : D} (h : atom d = true) : frz d = d := by
  cases d with
  | node k o xs => cases h
  | _ => rfl

section
variable {G : GX} {C : Fc} {ow ow' : Ow} {r : Rho} {T T1 T2 : List (D × V)} {s : L2.St} {H H' : Hp}
mutual
/-- .. the tree frozen: only unowned cells count -/
theorem Rep.moveF : ∀ (d : D) {l l' : Loc} {v : V}, VL.frz d = d → (∀ a o, H a = some o → ow a = none → Kt (H' a) o ∧ ow' a = none) → (∀ a o, H a = some o → ¬ OwnO (some o) → Kt (H' a) o) → Rep G ow H d l v → Rep G ow' H' d l' v
  | .any, _, _, _, _, _, _, _ => trivial
  | .non, _, _, _, _, _, _, h => h
  | .bl _, _, _, _, _, _, _, h => h
  | .int _, _, _, _, _, _, _, h => h
  | .str _, _, _, _, _, _, _, h => h
  | .ty _, _, _, _, _, _, _, h => h
  | .cls _, _, _, _, _, _, _, h => h
  | .exc _, _, _, _, _, _, hE, h => by
    obtain ⟨a, e, h⟩ := h
    exact ⟨a, e, (hE a _ h (fun z => z)).get rfl⟩
  | .node k o xs, l, l', v, e, hA, hE, h => by
    have e' : D.node k false (VL.frzs xs) = .node k o xs := e
    injection e' with _ e1 e2
    subst e1
    obtain ⟨a, vs, ev, h1, h2, h3⟩ := h
    by_cases hk : isR k = true
    · exact ⟨a, vs, ev, h1.keepR hk hE, .ofR hk, Reps.moveF xs e2 hA hE h3⟩
    have h2 := h2.cases.resolve_left hk
    obtain ⟨ob, hob, _⟩ := h1.there hk
    have n : ow a = none := by simpa using h2
    exact ⟨a, vs, ev, h1.keep fun o' z => (hA a o' z n).1, .mk (by simpa using (hA a ob hob n).2), Reps.moveF xs e2 hA hE h3⟩
theorem Reps.moveF : ∀ (ds : List D) {l l' : Loc} {i j : Nat} {vs : List V}, VL.frzs ds = ds → (∀ a o, H a = some o → ow a = none → Kt (H' a) o ∧ ow' a = none) → (∀ a o, H a = some o → ¬ OwnO (some o) → Kt (H' a) o) → Reps G ow H ds l i vs → Reps G ow' H' ds l' j vs
  | [], _, _, _, _, _, _, _, _, h => h
  | d :: ds, l, l', i, j, vs, e, hA, hE, h => by
    have e' : VL.frz d :: VL.frzs ds = d :: ds := e
    injection e' with e1 e2
    obtain ⟨v, ws, ev, h1, h2⟩ := h
    exact ⟨v, ws, ev, Rep.moveF d e1 hA hE h1, Reps.moveF ds e2 hA hE h2⟩
end

theorem StW.ext (S : StW G C ow r T s H) (e : Ext H H') (et : LamX.Tabs G.T H') : StW G C ow r T s H' where
  len := S.len
  sl := fun i d q => by
    obtain ⟨v, h1, h2⟩ := S.sl i d q
    exact ⟨v, h1, h2.mono d (fun a o z _ => e a o z) (fun a o z _ => e a o z) (fun _ _ _ z => z) fun _ _ _ _ z => z⟩
  tm := fun j d v q => (S.tm j d v q).mono d (fun a o z _ => e a o z) (fun a o z _ => e a o z) (fun _ _ _ z => z) fun _ _ _ _ z => z
  old := fun a o n q => (S.old a o n q).bind fun u q => e a u q
  own := S.own
  fo := S.fo
  mu := fun a l q => by
    have m := S.mu a l q
    cases z : H a with
    | none => rw [z] at m; exact m.elim
    | some o => rw [z] at m; rw [(e a o z).get m.nt]; exact m
  pin := S.pin
  tabs := et
theorem StOk.ext (S : StOk G C r T s H) (e : Ext H H') (et : LamX.Tabs G.T H') : StOk G C r T s H' := let ⟨ow, W⟩ := S; ⟨ow, W.ext e et⟩
theorem StOk.new {a : Addr} {ho : HO} (S : StOk G C r T s H) (hn : H a = none) : StOk G C r T s (upd H a ho) := S.ext (Ext.new hn) (let ⟨_, W⟩ := S; tabs_none W.tabs hn)
theorem StW.drop (S : StW G C ow r (T ++ T2) s H) : StW G C ow r T s H :=
  ⟨S.len, S.sl, fun j d v q => S.tm j d v (by
    have hj : j < T.length := (List.getElem?_eq_some_iff.mp q).1
    rw [List.getElem?_append_left hj]; exact q), S.old, S.own, S.fo, S.mu, S.pin, S.tabs⟩
theorem StOk.drop (S : StOk G C r (T ++ T2) s H) : StOk G C r T s H := let ⟨ow, W⟩ := S; ⟨ow, W.drop⟩
theorem StW.last {d : D} {v : V} (S : StW G C ow r (T ++ [(d, v)]) s H) : Rep G ow H d ⟨.tm T.length, []⟩ v := S.tm T.length d v (by simp)
theorem StW.push {d : D} {v : V} (S : StW G C ow r T s H) (h : Rep G ow H d ⟨.tm T.length, []⟩ v) : StW G C ow r (T ++ [(d, v)]) s H :=
  ⟨S.len, S.sl, fun j d' v' q => by
    by_cases hj : j < T.length
    · rw [List.getElem?_append_left hj] at q
      exact S.tm j d' v' q
    · rw [List.getElem?_append_right (by omega)] at q
      have e : j = T.length := by
        have := (List.getElem?_eq_some_iff.mp q).1
        simp at this; omega
      subst e
      simp at q
      obtain ⟨e1, e2⟩ := q
      subst e1; subst e2
      exact h, S.old, S.own, S.fo, S.mu, S.pin, S.tabs⟩
theorem Rep.of_atom {d : D} {l l' : Loc} {v : V} (a : atom d = true) (h : Rep G ow H d l v) : Rep G ow' H d l' v := by
  cases d with
  | node k o xs => cases a
  | _ => exact h
theorem StOk.pushA {d : D} {v : V} (S : StOk G C r T s H) (a : atom d = true) (h : ∀ ow l, Rep G ow H d l v) : StOk G C r (T ++ [(d, v)]) s H := let ⟨ow, W⟩ := S; ⟨ow, W.push (h _ _)⟩
theorem StOk.pushI (i : Int) (S : StOk G C r T s H) : StOk G C r (T ++ [(.int i, .int i)]) s H := S.pushA rfl fun _ _ => rfl
theorem StOk.pushB (b : Bool) (S : StOk G C r T s H) : StOk G C r (T ++ [(.bl b, .bl b)]) s H := S.pushA rfl fun _ _ => rfl
theorem StOk.pushN (S : StOk G C r T s H) : StOk G C r (T ++ [(.non, .non)]) s H := S.pushA rfl fun _ _ => rfl
def free (ow : Ow) (b : Bs) : Ow := fun a => match ow a with
  | some l => if l.b = b then none else some l
  | none => none
theorem free_none {b : Bs} {a : Addr} (h : ow a = none) : free ow b a = none := by unfold free; rw [h]
theorem free_at {b : Bs} {a : Addr} {l : Loc} (h : ow a = some l) (e : l.b = b) : free ow b a = none := by unfold free; rw [h]; simp [e]
theorem free_else {b : Bs} {a : Addr} {l : Loc} (h : ow a = some l) (e : l.b ≠ b) : free ow b a = some l := by unfold free; rw [h]; simp [e]
theorem of_free {b : Bs} {a : Addr} {l : Loc} (h : free ow b a = some l) : ow a = some l ∧ l.b ≠ b := by
  unfold free at h
  split at h
  · rename_i l' e
    split at h
    · cases h
    · rename_i n
      cases h
      exact ⟨e, n⟩
  · cases h
theorem app_b (l : Loc) (q : List Nat) : (l.app q).b = l.b := rfl
theorem Rep.free {d : D} {l : Loc} {v : V} {b : Bs} (h : Rep G ow H d l v) (n : l.b ≠ b) : Rep G (VL.free ow b) H d l v :=
  h.mono d (fun _ _ z _ => z) (fun _ _ z _ => z) (fun _ _ _ z => free_none z) fun a o q _ z => free_else z (by rw [app_b]; exact n)
theorem Rep.freeze {d : D} {l l' : Loc} {v : V} (h : Rep G ow H d l v) : Rep G (VL.free ow l.b) H (VL.frz d) l' v :=
  Rep.frz d (fun a o z q => ⟨z, by
    rcases q with q | ⟨q, e⟩
    · exact free_none q
    · exact free_at e (app_b l q)⟩) (fun _ _ z _ => z) h
theorem StW.frzSl {j : Nat} {d : D} (S : StW G C ow r T s H) (e : r[j]? = some (some d)) : StW G C (free ow (.sl j)) (r.set j (some (frz d))) T s H where
  len := by simpa using S.len
  sl := fun i d' q => by
    by_cases hi : i = j
    · subst hi
      have hlt : i < r.length := (List.getElem?_eq_some_iff.mp e).1
      rw [List.getElem?_set_self hlt] at q
      cases q
      obtain ⟨v, h1, h2⟩ := S.sl i d e
      exact ⟨v, h1, h2.freeze⟩
    · rw [List.getElem?_set_ne (Ne.symm hi)] at q
      obtain ⟨v, h1, h2⟩ := S.sl i d' q
      exact ⟨v, h1, h2.free (fun z => hi (by injection z))⟩
  tm := fun k d' v q => (S.tm k d' v q).free (fun z => nomatch z)
  old := S.old
  own := fun a l q => S.own a l (of_free q).1
  fo := fun a q => free_else (S.fo a q) (fun z => nomatch z)
  mu := fun a l q => S.mu a l (of_free q).1
  pin := S.pin
  tabs := S.tabs
theorem StW.copy {j : Nat} {d : D} {v : V} (S : StW G C ow r T s H) (e : r[j]? = some (some d)) (f : frz d = d) (hv : s[j]? = some (some v)) : StW G C ow r (T ++ [(d, v)]) s H := by
  obtain ⟨v', h1, h2⟩ := S.sl j d e
  rw [hv] at h1
  cases h1
  exact S.push (Rep.moveF d f (fun a o z q => ⟨z, q⟩) (fun _ _ z _ => z) h2)
theorem StW.frzTm {d : D} {v : V} (S : StW G C ow r (T1 ++ (d, v) :: T2) s H) : StW G C (VL.free ow (.tm T1.length)) r (T1 ++ (frz d, v) :: T2) s H where
  len := S.len
  sl := fun i d' q => by
    obtain ⟨v', h1, h2⟩ := S.sl i d' q
    exact ⟨v', h1, h2.free (fun z => nomatch z)⟩
  tm := fun k d' v' q => by
    by_cases hk : k = T1.length
    · subst hk
      have z : (T1 ++ (frz d, v) :: T2)[T1.length]? = some (frz d, v) := by simp
      rw [z] at q
      cases q
      exact Rep.freeze (l := ⟨.tm T1.length, []⟩) (S.tm T1.length d v (by simp))
    · refine (S.tm k d' v' ?_).free (fun z => hk (by injection z))
      by_cases hlt : k < T1.length
      · rw [List.getElem?_append_left hlt] at q ⊢; exact q
      · rw [List.getElem?_append_right (by omega)] at q ⊢
        obtain ⟨m, hm⟩ : ∃ m, k - T1.length = m + 1 := ⟨k - T1.length - 1, by omega⟩
        rw [hm] at q ⊢
        simpa using q
  old := S.old
  own := fun a l q => S.own a l (of_free q).1
  fo := fun a q => free_else (S.fo a q) (fun z => nomatch z)
  mu := fun a l q => S.mu a l (of_free q).1
  pin := S.pin
  tabs := S.tabs

def moved (ow : Ow) (b : Bs) (l : Loc) : Ow := fun a => match ow a with
  | some m => if m.b = b then some (l.app m.p) else some m
  | none => none
theorem moved_none {b : Bs} {l : Loc} {a : Addr} (h : ow a = none) : moved ow b l a = none := by unfold moved; rw [h]
theorem moved_at {b : Bs} {l m : Loc} {a : Addr} (h : ow a = some m) (e : m.b = b) : moved ow b l a = some (l.app m.p) := by unfold moved; rw [h]; simp [e]
theorem moved_else {b : Bs} {l m : Loc} {a : Addr} (h : ow a = some m) (e : m.b ≠ b) : moved ow b l a = some m := by unfold moved; rw [h]; simp [e]
theorem moved_some {b : Bs} {l m : Loc} {a : Addr} (h : moved ow b l a = some m) : ∃ m', ow a = some m' ∧ (m.b = l.b ∨ m.b = m'.b) := by
  unfold moved at h
  split at h
  · rename_i m' e
    refine ⟨m', e, ?_⟩
    split at h
    · cases h; exact .inl rfl
    · cases h; exact .inr rfl
  · cases h
theorem Rep.moved {d : D} {b : Bs} {l : Loc} {v : V} (h : Rep G ow H d ⟨b, []⟩ v) : Rep G (VL.moved ow b l) H d l v :=
  h.mono d (fun _ _ z _ => z) (fun _ _ z _ => z) (fun _ _ _ z => moved_none z) fun a o q _ z => by
    refine (moved_at z rfl).trans ?_
    simp [Loc.app]
theorem Rep.unmoved {d : D} {b : Bs} {l m : Loc} {v : V} (h : Rep G ow H d m v) (n : m.b ≠ b) : Rep G (VL.moved ow b l) H d m v :=
  h.mono d (fun _ _ z _ => z) (fun _ _ z _ => z) (fun _ _ _ z => moved_none z) fun a o q _ z => moved_else z (by rw [app_b]; exact n)
theorem StW.set {i : Nat} {d : D} {v : V} (S : StW G C ow r (T ++ [(d, v)]) s H) (hp : ∀ p ∈ C.pin, p.1 ≠ i) : StW G C (VL.moved (free ow (.sl i)) (.tm T.length) ⟨.sl i, []⟩) (r.set i (some d)) T (s.set i (some v)) H where
  len := by simpa using S.len
  sl := fun j d' q => by
    by_cases hj : j = i
    · subst hj
      have hlt : j < r.length := by
        have := (List.getElem?_eq_some_iff.mp q).1
        simpa using this
      rw [List.getElem?_set_self hlt] at q
      cases q
      refine ⟨v, by rw [List.getElem?_set_self (by rw [← S.len]; exact hlt)], ?_⟩
      exact Rep.moved (Rep.free (b := .sl j) S.last (fun z => nomatch z))
    · rw [List.getElem?_set_ne (Ne.symm hj)] at q
      obtain ⟨v', h1, h2⟩ := S.sl j d' q
      refine ⟨v', by rw [List.getElem?_set_ne (Ne.symm hj)]; exact h1, ?_⟩
      exact Rep.unmoved (Rep.free (b := .sl i) h2 (fun z => hj (by injection z))) (fun z => nomatch z)
  tm := fun k d' v' q => by
    have hk : k < T.length := (List.getElem?_eq_some_iff.mp q).1
    have z := S.tm k d' v' (by rw [List.getElem?_append_left hk]; exact q)
    exact Rep.unmoved (b := .tm T.length) (Rep.free (b := .sl i) z (fun z => nomatch z)) (fun z => by injection z with z; omega)
  old := S.old
  own := fun a l q => by
    obtain ⟨m, z, e⟩ := moved_some q
    rcases S.own a m (of_free z).1 with h | h
    · unfold VL.moved at q
      rw [z] at q
      have n : m.b ≠ .tm T.length := by rw [h]; exact fun z => nomatch z
      simp only [if_neg n] at q
      cases q
      exact .inl h
    · exact .inr h
  fo := fun a q => moved_else (free_else (S.fo a q) (fun z => nomatch z)) (fun z => nomatch z)
  mu := fun a l q => by
    obtain ⟨m, z, _⟩ := moved_some q
    exact S.mu a m (of_free z).1
  pin := fun p hm => by
    rw [List.getElem?_set_ne (Ne.symm (hp p hm))]
    exact S.pin p hm
  tabs := S.tabs
theorem StOk.set {i : Nat} {d : D} {v : V} (S : StOk G C r (T ++ [(d, v)]) s H) (hp : ∀ p ∈ C.pin, p.1 ≠ i) : StOk G C (r.set i (some d)) T (s.set i (some v)) H := let ⟨ow, W⟩ := S; ⟨_, W.set hp⟩
theorem StOk.wipe1 {i : Nat} {x : Option V} (S : StOk G C r T s H) (hp : ∀ p ∈ C.pin, p.1 ≠ i) : StOk G C (r.set i none) T (s.set i x) H := by
  obtain ⟨ow, W⟩ := S
  refine ⟨ow, by simpa using W.len, fun j d q => ?_, W.tm, W.old, W.own, W.fo, W.mu, fun p hm => ?_, W.tabs⟩
  · by_cases hj : j = i
    · subst hj
      have hlt : j < r.length := by
        have := (List.getElem?_eq_some_iff.mp q).1
        simpa using this
      rw [List.getElem?_set_self hlt] at q
      cases q
    · rw [List.getElem?_set_ne (Ne.symm hj)] at q
      obtain ⟨v, h1, h2⟩ := W.sl j d q
      exact ⟨v, by rw [List.getElem?_set_ne (Ne.symm hj)]; exact h1, h2⟩
  · rw [List.getElem?_set_ne (Ne.symm (hp p hm))]
    exact W.pin p hm

def laid (ow : Ow) (n : Nat) (a : Addr) (o : Bool) : Ow := fun b => if b = a then (if o = true then some ⟨.tm n, []⟩ else none) else match ow b with
  | some ⟨.tm j, p⟩ => if n ≤ j then some ⟨.tm n, (j - n) :: p⟩ else some ⟨.tm j, p⟩
  | x => x
theorem laid_none {n : Nat} {a b : Addr} {o : Bool} (h : ow b = none) (e : b ≠ a) : laid ow n a o b = none := by unfold laid; rw [if_neg e, h]
theorem laid_sl {n i : Nat} {a b : Addr} {o : Bool} {p : List Nat} (h : ow b = some ⟨.sl i, p⟩) (e : b ≠ a) : laid ow n a o b = some ⟨.sl i, p⟩ := by unfold laid; rw [if_neg e, h]
theorem laid_lo {n j : Nat} {a b : Addr} {o : Bool} {p : List Nat} (h : ow b = some ⟨.tm j, p⟩) (e : b ≠ a) (l : j < n) : laid ow n a o b = some ⟨.tm j, p⟩ := by
  unfold laid; rw [if_neg e, h]; exact if_neg (by omega)
theorem laid_hi {n j : Nat} {a b : Addr} {o : Bool} {p : List Nat} (h : ow b = some ⟨.tm j, p⟩) (e : b ≠ a) (l : n ≤ j) : laid ow n a o b = some ⟨.tm n, (j - n) :: p⟩ := by
  unfold laid; rw [if_neg e, h]; exact if_pos l
theorem StW.alloc {k : Kd} {o : Bool} {ho : HO} {ds : List D} {vs : List V} {a : Addr} (S : StW G C ow r (T ++ ds.zip vs) s H) (hl : ds.length = vs.length) (hn : H a = none) (hh : Holds G (upd H a ho) a k vs) (hm : o = true → OwnO (some ho)) :
    StW G C (laid ow T.length a o) r (T ++ [(.node k o ds, .ref a)]) s (upd H a ho) where
  len := S.len
  sl := fun i d q => by
    obtain ⟨v, h1, h2⟩ := S.sl i d q
    refine ⟨v, h1, Rep.mono (l := ⟨.sl i, []⟩) d (fun b o z _ => Ext.new hn b o z) (fun b o z _ => Ext.new hn b o z) (fun b o z e => laid_none e (ne_of_none z hn)) (fun b o q z e => laid_sl (p := [] ++ q) e (ne_of_none z hn)) h2⟩
  tm := fun j d v q => by
    by_cases hj : j < T.length
    · rw [List.getElem?_append_left hj] at q
      have z := S.tm j d v (by rw [List.getElem?_append_left hj]; exact q)
      exact Rep.mono (l := ⟨.tm j, []⟩) d (fun b o z _ => Ext.new hn b o z) (fun b o z _ => Ext.new hn b o z) (fun b o z e => laid_none e (ne_of_none z hn)) (fun b o q z e => laid_lo (p := [] ++ q) e (ne_of_none z hn) hj) z
    · rw [List.getElem?_append_right (by omega)] at q
      have e : j = T.length := by
        have := (List.getElem?_eq_some_iff.mp q).1
        simp at this; omega
      subst e
      simp at q
      obtain ⟨e1, e2⟩ := q
      subst e1; subst e2
      refine ⟨a, vs, rfl, hh, .mk ?_, Reps.of_get hl fun i d v e1 e2 => ?_⟩
      · unfold laid; rw [if_pos rfl]
      · have z := S.tm (T.length + i) d v (by
          rw [List.getElem?_append_right (by omega), Nat.add_sub_cancel_left]
          exact List.getElem?_zip_eq_some.mpr ⟨e1, e2⟩)
        refine Rep.mono (l := ⟨.tm (T.length + i), []⟩) d (fun b o z _ => Ext.new hn b o z) (fun b o z _ => Ext.new hn b o z) (fun b o z e => laid_none e (ne_of_none z hn)) (fun b o q z e => ?_) z
        rw [laid_hi (p := q) (by simpa [Loc.app] using e) (ne_of_none z hn) (by omega)]
        simp [Loc.app, Loc.sub]
  old := fun b u n q => (S.old b u n q).bind fun u q => Ext.new hn b u q
  own := fun b l q => by
    by_cases hb : b = a
    · subst hb
      cases e : C.H0 b with
      | none => exact .inr (.inl rfl)
      | some u =>
        by_cases hi : C.io b
        · exact .inr (.inr hi)
        · exact ((S.old b u hi e).on hn).elim
    · cases e : ow b with
      | none => rw [laid_none e hb] at q; cases q
      | some m =>
        obtain ⟨mb, mp⟩ := m
        cases mb with
        | fo =>
          unfold laid at q
          rw [if_neg hb, e] at q
          cases q
          exact .inl rfl
        | sl i => exact (S.own b _ e).elim (fun z => nomatch z) .inr
        | tm i => exact (S.own b _ e).elim (fun z => nomatch z) .inr
  fo := fun b q => by
    have z := S.fo b q
    have hb : b ≠ a := fun x => by
      have m := S.mu b _ z
      rw [x, hn] at m
      exact m
    unfold laid
    rw [if_neg hb, z]
  mu := fun b l q => by
    by_cases hb : b = a
    · subst hb
      rw [upd_same]
      apply hm
      unfold laid at q
      rw [if_pos rfl] at q
      cases o with
      | true => rfl
      | false => cases q
    · rw [upd_ne hb]
      cases e : ow b with
      | none => rw [laid_none e hb] at q; cases q
      | some m => exact S.mu b m e
  pin := S.pin
  tabs := tabs_none S.tabs hn
theorem StOk.alloc {k : Kd} {ho : HO} {ds : List D} {vs : List V} {a : Addr} (o : Bool) (S : StOk G C r (T ++ ds.zip vs) s H) (hl : ds.length = vs.length) (hn : H a = none) (hh : Holds G (upd H a ho) a k vs) (hm : o = true → OwnO (some ho)) :
    StOk G C r (T ++ [(.node k o ds, .ref a)]) s (upd H a ho) := let ⟨ow, W⟩ := S; ⟨_, W.alloc hl hn hh hm⟩
theorem holds_lst {a : Addr} {vs : List V} : Holds G (upd H a (.lst vs)) a .lst vs := upd_same
theorem holds_tup {a : Addr} {vs : List V} : Holds G (upd H a (.tup vs)) a .tup vs := upd_same
end
end VL

namespace VL
open PySem PySem.Spec PyProof.Rows L2

inductive R where
  | val (d : D) | loc (i : Nat)
inductive EO where
  | ok (x : R) (r : Rho) | exc (c : Nat) (r : Rho) | bad
abbrev Ev := Rho → EO
def opd (r : Rho) : R → Option D
  | .val d => some d
  | .loc i => match r[i]? with
    | some (some d) => some d
    | _ => none
def touch (r : Rho) : R → Rho
  | .val _ => r
  | .loc i => match r[i]? with
    | some (some d) => r.set i (some (frzB d))
    | _ => r
def settle (r : Rho) : R → Rho
  | .val _ => r
  | .loc i => match r[i]? with
    | some (some d) => r.set i (some (frz d))
    | _ => r
def pushR : R → V → List (D × V)
  | .val d, v => [(d, v)]
  | .loc _, _ => []
def LocOk (s : L2.St) (v : V) : R → Prop
  | .val _ => True
  | .loc i => s[i]? = some (some v)
def Post (G : GX) (C : Fc) (r : Rho) (T : List (D × V)) (s : L2.St) (H : Hp) (x : R) (v : V) : Prop := StOk G C r (T ++ pushR x v) s H ∧ LocOk s v x
def tV (G : GX) (C : Fc) (W : WX) (f : Ev) : TE := fun s H Q => ∃ r T, StOk G C r T s H ∧ match f r with
  | .ok x r' => ∀ v H', Post G C r' T s H' x v → Q v H'
  | .exc c r' => ∀ H', StOk G C r' T s H' → W (.ref (G c)) none s H'
  | .bad => False
abbrev VE (X : Cx) (G : GX) (C : Fc) (W : WX) (e : Expr) (f : Ev) : Prop := PE X e (tV G C W f)
theorem PE.imp {X : Cx} {e : Expr} {t t' : TE} (h : PE X e t) (i : ∀ s H Q, t' s H Q → t s H Q) : PE X e t' := ⟨fun pins s σ H Q I w => h.run pins s σ H Q I (i _ _ _ w)⟩

section
variable {G : GX} {C : Fc} {ow ow' : Ow} {r : Rho} {T T1 T2 : List (D × V)} {s : L2.St} {H H' : Hp}
theorem Post.any {x : R} {v : V} (P : Post G C r T s H x v) : StOk G C r T s H := P.1.drop
theorem opd_loc {i : Nat} {d : D} (e : opd r (.loc i) = some d) : r[i]? = some (some d) := by
  have e' : (match r[i]? with | some (some d) => some d | _ => none) = some d := e
  cases q : r[i]? with
  | none => rw [q] at e'; cases e'
  | some x =>
    cases x with
    | none => rw [q] at e'; cases e'
    | some d' => rw [q] at e'; cases e'; rfl
theorem touch_loc {i : Nat} {d : D} (q : r[i]? = some (some d)) : touch r (.loc i) = r.set i (some (frzB d)) := by
  show (match r[i]? with | some (some d) => r.set i (some (frzB d)) | _ => r) = _
  rw [q]
theorem settle_loc {i : Nat} {d : D} (q : r[i]? = some (some d)) : settle r (.loc i) = r.set i (some (frz d)) := by
  show (match r[i]? with | some (some d) => r.set i (some (frz d)) | _ => r) = _
  rw [q]
def base (n : Nat) : R → Loc
  | .val _ => ⟨.tm n, []⟩
  | .loc i => ⟨.sl i, []⟩
theorem opd_rep {x : R} {v : V} {d : D} (S : StW G C ow r (T ++ (pushR x v ++ T2)) s H) (h : LocOk s v x) (e : opd r x = some d) : Rep G ow H d (base T.length x) v := by
  cases x with
  | val d' =>
    cases e
    exact S.tm T.length d v (by simp [pushR])
  | loc i =>
    obtain ⟨v', h1, h2⟩ := S.sl i d (opd_loc e)
    have h' : s[i]? = some (some v) := h
    rw [h'] at h1
    cases h1
    exact h2

def freeU (ow : Ow) (b : Bs) : Ow := fun a => match ow a with
  | some l => if l.b = b ∧ l.p ≠ [] then none else some l
  | none => none
theorem freeU_none {b : Bs} {a : Addr} (h : ow a = none) : freeU ow b a = none := by unfold freeU; rw [h]
theorem freeU_at {b : Bs} {a : Addr} {l : Loc} (h : ow a = some l) (e : l.b = b) (p : l.p ≠ []) : freeU ow b a = none := by unfold freeU; rw [h]; simp [e, p]
theorem freeU_top {b : Bs} {a : Addr} (h : ow a = some ⟨b, []⟩) : freeU ow b a = some ⟨b, []⟩ := by unfold freeU; rw [h]; simp
theorem freeU_else {b : Bs} {a : Addr} {l : Loc} (h : ow a = some l) (e : l.b ≠ b) : freeU ow b a = some l := by unfold freeU; rw [h]; simp [e]
theorem of_freeU {b : Bs} {a : Addr} {l : Loc} (h : freeU ow b a = some l) : ow a = some l := by
  unfold freeU at h
  split at h
  · rename_i l' e
    split at h
    · cases h
    · cases h
      exact e
  · cases h
theorem Rep.freeU {d : D} {l : Loc} {v : V} {b : Bs} (h : Rep G ow H d l v) (n : l.b ≠ b) : Rep G (VL.freeU ow b) H d l v :=
  h.mono d (fun _ _ z _ => z) (fun _ _ z _ => z) (fun _ _ _ z => freeU_none z) fun a o q _ z => freeU_else z (by rw [app_b]; exact n)
theorem Reps.freeU {ds : List D} {l : Loc} {i : Nat} {vs : List V} {b : Bs} (h : Reps G ow H ds l i vs) (n : l.b ≠ b) : Reps G (VL.freeU ow b) H ds l i vs :=
  h.mono ds (fun _ _ z _ => z) (fun _ _ z _ => z) (fun _ _ _ z => freeU_none z) fun a o q _ z => freeU_else z (by rw [app_b]; exact n)
theorem Reps.under {xs : List D} {b : Bs} {i j : Nat} {l' : Loc} {vs : List V} (h : Reps G ow H xs ⟨b, []⟩ i vs) : Reps G (VL.freeU ow b) H (VL.frzs xs) l' j vs := by
  have go : ∀ (xs : List D) (i j : Nat) (vs : List V), Reps G ow H xs ⟨b, []⟩ i vs → Reps G (VL.freeU ow b) H (VL.frzs xs) l' j vs := by
    intro xs
    induction xs with
    | nil => intro i j vs h; exact h
    | cons d ds ih =>
      intro i j vs h
      obtain ⟨v, ws, e, h1, h2⟩ := h
      refine ⟨v, ws, e, ?_, ih (i + 1) (j + 1) ws h2⟩
      refine Rep.frz (l := Loc.sub ⟨b, []⟩ i) d (fun a o z q => ⟨z, ?_⟩) (fun _ _ z _ => z) h1
      rcases q with q | ⟨q, e⟩
      · exact freeU_none q
      · exact freeU_at e rfl (by simp [Loc.sub, Loc.app])
  exact go xs i j vs h
theorem StW.under {i : Nat} {k : Kd} {o : Bool} {xs : List D} (S : StW G C ow r T s H) (e : r[i]? = some (some (.node k o xs))) : StW G C (VL.freeU ow (.sl i)) (r.set i (some (.node k o (frzs xs)))) T s H where
  len := by simpa using S.len
  sl := fun j d' q => by
    by_cases hi : j = i
    · subst hi
      have hlt : j < r.length := (List.getElem?_eq_some_iff.mp e).1
      rw [List.getElem?_set_self hlt] at q
      cases q
      obtain ⟨v, h1, a, vs, ev, h2, h3, h4⟩ := S.sl j _ e
      refine ⟨v, h1, a, vs, ev, h2, ?_, h4.under⟩
      rcases h3.cases with hk | h3
      · exact .ofR hk
      refine .mk ?_
      cases o with
      | true => exact freeU_top (by simpa using h3)
      | false => exact freeU_none (by simpa using h3)
    · rw [List.getElem?_set_ne (Ne.symm hi)] at q
      obtain ⟨v, h1, h2⟩ := S.sl j d' q
      exact ⟨v, h1, h2.freeU (fun z => hi (by injection z))⟩
  tm := fun k d' v q => (S.tm k d' v q).freeU (fun z => nomatch z)
  old := S.old
  own := fun a l q => S.own a l (of_freeU q)
  fo := fun a q => freeU_else (S.fo a q) (fun z => nomatch z)
  mu := fun a l q => S.mu a l (of_freeU q)
  pin := S.pin
  tabs := S.tabs
theorem StW.pushFs : ∀ {ds : List D} {T : List (D × V)} {l : Loc} {i : Nat} {vs : List V}, StW G C ow r T s H → frzs ds = ds → Reps G ow H ds l i vs → StW G C ow r (T ++ ds.zip vs) s H
  | [], T, _, _, _, S, _, _ => by simpa using S
  | d :: ds, T, l, i, vs, S, e, h => by
    obtain ⟨v, ws, ev, h1, h2⟩ := h
    have e' : frz d :: frzs ds = d :: ds := e
    injection e' with e1 e2
    subst ev
    have S1 := S.push (d := d) (v := v) (Rep.moveF d e1 (fun a o z q => ⟨z, q⟩) (fun _ _ z _ => z) h1)
    have S2 := StW.pushFs S1 e2 h2
    simpa using S2
theorem Reps.app {ds es : List D} {l : Loc} {vs ws : List V} (e1 : VL.frzs ds = ds) (e2 : VL.frzs es = es) (h1 : Reps G ow H ds l 0 vs) (h2 : Reps G ow H es l 0 ws) : Reps G ow H (ds ++ es) l 0 (vs ++ ws) := by
  refine Reps.of_get (by rw [List.length_append, List.length_append, h1.length, h2.length]) fun j d v q1 q2 => ?_
  by_cases hj : j < ds.length
  · rw [List.getElem?_append_left hj] at q1
    rw [List.getElem?_append_left (by rw [← h1.length]; exact hj)] at q2
    obtain ⟨v', z1, z2⟩ := h1.get j d q1
    rw [q2] at z1; cases z1
    exact z2
  · rw [List.getElem?_append_right (by omega)] at q1
    rw [List.getElem?_append_right (by rw [← h1.length]; omega)] at q2
    rw [← h1.length] at q2
    obtain ⟨v', z1, z2⟩ := h2.get (j - ds.length) d q1
    rw [q2] at z1; cases z1
    have f : VL.frz d = d := by
      have := congrArg (·[j - ds.length]?) e2
      simp only [frzs_map, List.getElem?_map, q1, Option.map_some] at this
      exact Option.some.inj this
    exact Rep.moveF d f (fun a o z q => ⟨z, q⟩) (fun _ _ z _ => z) z2
theorem StW.parts {x : R} {v : V} {k : Kd} {o : Bool} {xs : List D} (S : StW G C ow r (T ++ pushR x v) s H) (hl : LocOk s v x) (e : opd r x = some (.node k o xs)) :
    ∃ ow' a vs, StW G C ow' (touch r x) T s H ∧ v = .ref a ∧ Holds G H a k vs ∧ (∀ l, Reps G ow' H (frzs xs) l 0 vs) ∧ (∀ b, ow b = none → ow' b = none) := by
  cases x with
  | val d' =>
    cases e
    obtain ⟨a, vs, ev, h1, h2, h3⟩ := S.last
    have S' := (show StW G C ow r (T ++ (D.node k o xs, v) :: []) s H from S).frzTm
    refine ⟨_, a, vs, S'.drop, ev, h1, fun l => ?_, fun b z => free_none z⟩
    exact Reps.frz (l := ⟨.tm T.length, []⟩) xs (fun b u z q => ⟨z, by
      rcases q with q | ⟨q, e⟩
      · exact free_none q
      · exact free_at e rfl⟩) (fun _ _ z _ => z) h3
  | loc i =>
    have q := opd_loc e
    obtain ⟨v', h1, a, vs, ev, h2, h3, h4⟩ := S.sl i _ q
    have h' : s[i]? = some (some v) := hl
    rw [h'] at h1
    cases h1
    have S' := S.under q
    refine ⟨_, a, vs, ?_, ev, h2, fun l => h4.under, fun b z => freeU_none z⟩
    rw [touch_loc q]
    exact S'.drop
end
end VL

namespace VL
open PySem PySem.Spec PyProof.Rows L2

def EO.bd (x : EO) (k : R → Rho → EO) : EO := match x with
  | .ok y r => k y r
  | .exc c r => .exc c r
  | .bad => .bad
@[simp] theorem bd_ok (y : R) (r : Rho) (k : R → Rho → EO) : (EO.ok y r).bd k = k y r := rfl
@[simp] theorem bd_exc (c : Nat) (r : Rho) (k : R → Rho → EO) : (EO.exc c r).bd k = .exc c r := rfl
@[simp] theorem bd_bad (k : R → Rho → EO) : EO.bad.bd k = .bad := rfl
def Goes (G : GX) (C : Fc) (W : WX) (T : List (D × V)) (s : L2.St) (Q : VK) (o : EO) : Prop := match o with
  | .ok x r' => ∀ v H', Post G C r' T s H' x v → Q v H'
  | .exc c r' => ∀ H', StOk G C r' T s H' → W (.ref (G c)) none s H'
  | .bad => False
section
variable {X : Cx} {G : GX} {C : Fc} {W : WX} {ow ow' : Ow} {r : Rho} {T T1 T2 : List (D × V)} {s : L2.St} {H H' : Hp} {fa fb fc : Ev}
theorem Goes.more {Q : VK} {o : EO} (h : Goes G C W T s Q o) : Goes G C W (T ++ T2) s (fun v H' => ∀ x r', o = .ok x r' → Post G C r' T s H' x v → Q v H') o := by
  cases o with
  | ok x r' => exact fun v H' _ y r'' e P => h v H' (by cases e; exact P)
  | exc c r' => exact fun H' S => h H' S.drop
  | bad => exact h
theorem one {k : R → Rho → EO} {Q : VK} {K : V → Hp → Prop} (S : StOk G C r T s H) (h : Goes G C W T s Q ((fa r).bd k))
    (hk : ∀ x v r1 H1, Post G C r1 T s H1 x v → Goes G C W T s Q (k x r1) → K v H1) : tV G C W fa s H K := by
  refine ⟨r, T, S, ?_⟩
  cases e : fa r with
  | ok x r1 =>
    rw [e] at h
    exact fun v H1 P => hk x v r1 H1 P h
  | exc c r1 => rw [e] at h; exact h
  | bad => rw [e] at h; exact h
theorem two {k : R → R → Rho → EO} {Q : VK} {K : V → V → Hp → Prop} (S : StOk G C r T s H) (h : Goes G C W T s Q ((fa r).bd fun x r1 => (fb r1).bd (k x)))
    (hk : ∀ x y v u r2 H2, StOk G C r2 (T ++ (pushR x v ++ pushR y u)) s H2 → LocOk s v x → LocOk s u y → Goes G C W T s Q (k x y r2) → K v u H2) :
    tV G C W fa s H fun v H1 => tV G C W fb s H1 fun u H2 => K v u H2 := by
  refine one S h fun x v r1 H1 P h1 => ?_
  refine ⟨r1, T ++ pushR x v, P.1, ?_⟩
  cases e : fb r1 with
  | ok y r2 =>
    rw [e] at h1
    exact fun u H2 P2 => hk x y v u r2 H2 (by rw [← List.append_assoc]; exact P2.1) P.2 P2.2 h1
  | exc c r2 => rw [e] at h1; exact fun H' S' => h1 H' S'.drop
  | bad => rw [e] at h1; exact h1

def cVar (i : Nat) : Ev := fun r => match r[i]? with
  | some (some d) => if atom d = true then .ok (.val d) r else .ok (.loc i) r
  | _ => .bad
theorem ve_var {i : Nat} {x : Str} {pos : Pos} (hN : X.N[i]? = some x) (hv : Vis X.env.scope x) (hd : (x == ("__debug__" : Str)) = false := by decide) (hcd : (x == ("__classdict__" : Str)) = false := by decide) : VE X G C W (.Name x pos) (cVar i) := by
  refine PE.imp (pe_var hN hv hd hcd) fun s H Q h => ?_
  obtain ⟨r, T, S, g⟩ := h
  unfold cVar at g
  cases q : r[i]? with
  | none => rw [q] at g; exact g.elim
  | some o =>
    cases o with
    | none => rw [q] at g; exact g.elim
    | some d =>
      rw [q] at g
      obtain ⟨ow, S⟩ := S
      obtain ⟨v, h1, h2⟩ := S.sl i d q
      refine ⟨v, h1, ?_⟩
      by_cases a : atom d = true
      · simp only [a, if_true] at g
        exact g v H ⟨⟨ow, S.push (h2.of_atom a)⟩, trivial⟩
      · simp only [a, if_false] at g
        exact g v H ⟨⟨ow, by simpa [pushR] using S⟩, h1⟩
def cC (d : D) : Ev := fun r => .ok (.val d) r
theorem ve_c {e : Expr} {v : V} {d : D} (h : PE X e (tC v)) (a : atom d = true) (hr : ∀ ow H l, Rep G ow H d l v) : VE X G C W e (cC d) := by
  refine PE.imp h fun s H Q h => ?_
  obtain ⟨r, T, S, g⟩ := h
  exact g v H ⟨S.pushA a fun ow l => hr ow H l, trivial⟩
theorem ve_int {i j pos} : VE X G C W (.Constant (.int i) j pos) (cC (.int i)) := ve_c pe_int rfl fun _ _ _ => rfl
theorem ve_bl {b j pos} : VE X G C W (.Constant (.bool b) j pos) (cC (.bl b)) := ve_c pe_bl rfl fun _ _ _ => rfl
theorem ve_non {j pos} : VE X G C W (.Constant .none j pos) (cC .non) := ve_c pe_non rfl fun _ _ _ => rfl
theorem ve_str {x j pos} : VE X G C W (.Constant (.str x) j pos) (cC (.str x)) := ve_c pe_str rfl fun _ _ _ => rfl
theorem ve_gint {x : Str} {i : Int} {t : Tok} {pos : Pos} (hg : Gl X x) (hm : X.mg x = some (.int i t)) (hd : (x == ("__debug__" : Str)) = false := by decide) : VE X G C W (.Name x pos) (cC (.int i)) :=
  ve_c (pe_glob (v := .int i) hg hm ⟨t, rfl⟩ hd) rfl fun _ _ _ => rfl
abbrev G2 := R → R → Rho → EO
def OpS (X : Cx) (f : Value → Value → Sem Value) (g : G2) : Prop := ∃ rr, OpR X f rr ∧ ∀ (G : GX) (C : Fc) (W : WX) (r : Rho) (T : List (D × V)) (s : L2.St) (H : Hp) (x y : R) (v u : V) (Q : VK),
  StOk G C r (T ++ (pushR x v ++ pushR y u)) s H → LocOk s v x → LocOk s u y → Goes G C W T s Q (g x y r) → rr v u H Q
def cBin (g : G2) (fa fb : Ev) : Ev := fun r => (fa r).bd fun x r1 => (fb r1).bd fun y r2 => g x y r2
theorem ve_bin {op : Operator} {g : G2} {a b : Expr} {pos : Pos} (ho : OpS X (binaryOp op) g) (ha : VE X G C W a fa) (hb : VE X G C W b fb) : VE X G C W (.BinOp a op b pos) (cBin g fa fb) := by
  obtain ⟨rr, h1, h2⟩ := ho
  refine PE.imp (pe_op h1 ha hb) fun s H Q h => ?_
  obtain ⟨r, T, S, g⟩ := h
  exact two S g fun x y v u r2 H2 S2 lx ly g2 => h2 G C W r2 T s H2 x y v u Q S2 lx ly g2
theorem ve_cmp {op : CmpOp} {g : G2} {a b : Expr} {pos : Pos} (ho : OpS X (compareOp op) g) (ha : VE X G C W a fa) (hb : VE X G C W b fb) (hm : behindInMarks op b = false) : VE X G C W (.Compare a [op] [b] pos) (cBin g fa fb) := by
  obtain ⟨rr, h1, h2⟩ := ho
  refine PE.imp (pe_cmpR h1 ha hb hm) fun s H Q h => ?_
  obtain ⟨r, T, S, g⟩ := h
  exact two S g fun x y v u r2 H2 S2 lx ly g2 => h2 G C W r2 T s H2 x y v u Q S2 lx ly g2

def g2 (f : D → D → Option D) : G2 := fun x y r => match opd r x, opd r y with
  | some d, some e => (match f d e with
    | some z => if atom z = true then .ok (.val z) r else .bad
    | none => .bad)
  | _, _ => .bad
theorem OpS.scal {f : Value → Value → Sem Value} {rr : R2} {g : D → D → Option D} (h : OpR X f rr)
    (hr : ∀ (G : GX) (ow : Ow) (H : Hp) (d e z : D) (l m : Loc) (v u : V) (Q : VK), Rep G ow H d l v → Rep G ow H e m u → g d e = some z → (∀ w, (∀ ow l, Rep G ow H z l w) → Q w H) → rr v u H Q) : OpS X f (g2 g) := by
  refine ⟨rr, h, fun G C W r T s H x y v u Q S lx ly q => ?_⟩
  obtain ⟨ow, S⟩ := S
  unfold g2 at q
  cases e1 : opd r x with
  | none => rw [e1] at q; exact q.elim
  | some d =>
    cases e2 : opd r y with
    | none => rw [e1, e2] at q; exact q.elim
    | some e =>
      rw [e1, e2] at q
      cases e3 : g d e with
      | none => simp only [e3] at q; exact q.elim
      | some z =>
        simp only [e3] at q
        by_cases a : atom z = true
        · rw [if_pos a] at q
          refine hr G ow H d e z _ _ v u Q (opd_rep S lx e1) (opd_rep (T := T ++ pushR x v) (T2 := []) (by rw [List.append_nil, List.append_assoc]; exact S) ly e2) e3 fun w hw => ?_
          exact q w H ⟨StOk.pushA ⟨ow, S.drop⟩ a hw, trivial⟩
        · rw [if_neg a] at q
          exact q.elim
theorem rep_int {ow : Ow} {i : Int} {l : Loc} {v : V} (h : Rep G ow H (.int i) l v) : v = .int i := h
theorem rep_bl {ow : Ow} {b : Bool} {l : Loc} {v : V} (h : Rep G ow H (.bl b) l v) : v = .bl b := h
theorem rep_str {ow : Ow} {b : Str} {l : Loc} {v : V} (h : Rep G ow H (.str b) l v) : v = .str b := h
theorem rep_non {ow : Ow} {l : Loc} {v : V} (h : Rep G ow H .non l v) : v = .non := h
def fI (ok : Int → Int → Bool) (g : Int → Int → D) : D → D → Option D
  | .int i, .int j => if ok i j = true then some (g i j) else none
  | _, _ => none
@[simp] theorem fI_int (ok : Int → Int → Bool) (g : Int → Int → D) (i j : Int) : fI ok g (.int i) (.int j) = if ok i j = true then some (g i j) else none := rfl
theorem OpS.ints {f : Value → Value → Sem Value} {P : Int → Int → Prop} {ok : Int → Int → Bool} {g : Int → Int → V} {gd : Int → Int → D} (h : OpR X f (rI P g)) (hp : ∀ i j, ok i j = true → P i j)
    (hg : ∀ G ow H l i j, Rep G ow H (gd i j) l (g i j)) : OpS X f (g2 (fI ok gd)) := by
  refine OpS.scal h fun G ow H d e z l m v u Q h1 h2 e3 q => ?_
  cases d with
  | int i =>
    cases e with
    | int j =>
      rw [fI_int] at e3
      by_cases a : ok i j = true
      · rw [if_pos a] at e3
        cases e3
        exact ⟨i, j, h1, h2, hp i j a, q _ fun _ _ => hg _ _ _ _ i j⟩
      · rw [if_neg a] at e3; cases e3
    | _ => cases e3
  | _ => cases e <;> cases e3
theorem rI_of0 {f : Value → Value → Sem Value} {g : Int → Int → V} (h : OpR X f (rI0 g)) : OpR X f (rI (fun _ _ => True) g) := by
  intro pins s σ H x y v u Q I rx ry q
  obtain ⟨i, j, e1, e2, _, q⟩ := q
  exact h pins s σ H x y v u Q I rx ry ⟨i, j, e1, e2, q⟩
def yes2 : Int → Int → Bool := fun _ _ => true
@[simp] theorem yes2_eq (i j : Int) : yes2 i j = true := rfl
def gLt : G2 := g2 (fI yes2 fun i j => .bl (decide (i < j)))
def gLe : G2 := g2 (fI yes2 fun i j => .bl (decide (i ≤ j)))
def gGt : G2 := g2 (fI yes2 fun i j => .bl (decide (j < i)))
def gGe : G2 := g2 (fI yes2 fun i j => .bl (decide (j ≤ i)))
theorem os_lt : OpS X (compareOp .Lt) gLt := .ints (rI_of0 op_lt) (fun _ _ _ => trivial) fun _ _ _ _ _ _ => rfl
theorem os_le : OpS X (compareOp .LtE) gLe := .ints (rI_of0 op_le) (fun _ _ _ => trivial) fun _ _ _ _ _ _ => rfl
theorem os_gt : OpS X (compareOp .Gt) gGt := .ints (rI_of0 op_gt) (fun _ _ _ => trivial) fun _ _ _ _ _ _ => rfl
theorem os_ge : OpS X (compareOp .GtE) gGe := .ints (rI_of0 op_ge) (fun _ _ _ => trivial) fun _ _ _ _ _ _ => rfl
def gSub : G2 := g2 (fI yes2 fun i j => .int (i - j))
theorem os_sub : OpS X (binaryOp .Sub) gSub := .ints (rI_of0 op_sub) (fun _ _ _ => trivial) fun _ _ _ _ _ _ => rfl
def divOk (_ j : Int) : Bool := decide (0 < j) && (decide (j.natAbs < 1073741824) || decide (j.natAbs.log2 < 9000))
theorem op_fdivA : OpR X (binaryOp .FloorDiv) (rI (fun i j => CDiv i j ∨ CDivW i j) fun i j => .int (i / j)) := by
  intro pins s σ H x y v u Q I rx ry q
  obtain ⟨i, j, e1, e2, c | c, q⟩ := q
  · exact op_fdiv pins s σ H x y v u Q I rx ry ⟨i, j, e1, e2, c, q⟩
  · exact op_fdivW pins s σ H x y v u Q I rx ry ⟨i, j, e1, e2, c, q⟩
theorem divOk_of {i j : Int} (h : divOk i j = true) : CDiv i j ∨ CDivW i j := by
  unfold divOk at h
  simp only [Bool.and_eq_true, Bool.or_eq_true, decide_eq_true_eq] at h
  rcases h with ⟨h0, h | h⟩
  · exact .inl ⟨h0, by omega⟩
  · exact .inr ⟨h0, h⟩
def gDiv : G2 := g2 (fI divOk fun i j => .int (i / j))
theorem os_div : OpS X (binaryOp .FloorDiv) gDiv := .ints op_fdivA (fun _ _ h => divOk_of h) fun _ _ _ _ _ _ => rfl
def posOk (_ j : Int) : Bool := decide (0 < j)
def gMod : G2 := g2 (fI posOk fun i j => .int (i % j))
theorem os_mod : OpS X (binaryOp .Mod) gMod := .ints op_mod (fun _ _ h => of_decide_eq_true h) fun _ _ _ _ _ _ => rfl
def powOk (i j : Int) : Bool := decide (0 ≤ j) && decide (j.natAbs ≤ 1000000) && decide (i.natAbs < 2 ^ 64)
theorem powOk_of {i j : Int} (h : powOk i j = true) : CPow i j := by
  unfold powOk at h
  simp only [Bool.and_eq_true, decide_eq_true_eq] at h
  exact ⟨h.1.1, by have := h.1.2; omega, h.2⟩
def gPow : G2 := g2 (fI powOk fun i j => .int (i ^ j.toNat))
theorem os_pow : OpS X (binaryOp .Pow) gPow := .ints op_pow (fun _ _ h => powOk_of h) fun _ _ _ _ _ _ => rfl
def mulOk (i j : Int) : Bool := decide (i.natAbs < 2 ^ 64) || decide (j.natAbs < 2 ^ 64) || decide ((Builtin.Int.intBits i : Int) + (Builtin.Int.intBits j : Int) ≤ 134217728)
theorem mulOk_of {i j : Int} (h : mulOk i j = true) : IntMulOk i j := by
  unfold mulOk at h
  simp only [Bool.or_eq_true, decide_eq_true_eq] at h
  rcases h with (h | h) | h
  · exact CMul.ok (.inl ⟨by omega, by omega⟩)
  · exact CMul.ok (.inr ⟨by omega, by omega⟩)
  · exact CMulX.ok h
theorem op_mulA : OpR X (binaryOp .Mult) (rI IntMulOk fun i j => .int (i * j)) := opI fun _ _ _ _ _ _ _ hc q => mul_int q hc

theorem StW.made {ds : List D} {vs : List V} {l : Loc} {i : Nat} {Q : VK} (S : StW G C ow r T s H) (e : frzs ds = ds) (h : Reps G ow H ds l i vs) (hq : ∀ v H', Post G C r T s H' (.val (.node .lst true ds)) v → Q v H') :
    ∀ p, H p = none → Q (.ref p) (upd H p (.lst vs)) := fun p hp =>
  hq _ _ ⟨StOk.alloc true ⟨ow, S.pushFs e h⟩ h.length hp holds_lst (fun _ => trivial), trivial⟩
theorem touch_opd {x y : R} {k : Kd} {o : Bool} {xs : List D} (e : opd r x = some (.node k o xs)) : opd (touch r y) x = some (.node k o xs) ∨ opd (touch r y) x = some (.node k o (frzs xs)) := by
  cases x with
  | val d => exact .inl e
  | loc i =>
    have q := opd_loc e
    cases y with
    | val d => exact .inl e
    | loc j =>
      by_cases hij : j = i
      · subst hij
        refine .inr ?_
        have hlt : j < r.length := (List.getElem?_eq_some_iff.mp q).1
        rw [touch_loc q]
        show (match (r.set j (some (frzB (.node k o xs))))[j]? with | some (some d) => some d | _ => none) = _
        rw [List.getElem?_set_self hlt]
        rfl
      · refine .inl ?_
        cases q' : r[j]? with
        | none =>
          have : touch r (.loc j) = r := by show (match r[j]? with | some (some d) => r.set j (some (frzB d)) | _ => r) = _; rw [q']
          rw [this]; exact e
        | some o' =>
          cases o' with
          | none =>
            have : touch r (.loc j) = r := by show (match r[j]? with | some (some d) => r.set j (some (frzB d)) | _ => r) = _; rw [q']
            rw [this]; exact e
          | some d' =>
            rw [touch_loc q']
            show (match (r.set j (some (frzB d')))[i]? with | some (some d) => some d | _ => none) = _
            rw [List.getElem?_set_ne hij, q]
theorem StW.parts2 {x y : R} {v u : V} {k k' : Kd} {o o' : Bool} {xs ys : List D} (S : StW G C ow r (T ++ (pushR x v ++ pushR y u)) s H) (lx : LocOk s v x) (ly : LocOk s u y) (e1 : opd r x = some (.node k o xs)) (e2 : opd r y = some (.node k' o' ys)) :
    ∃ ow' a b vs us, StW G C ow' (touch (touch r y) x) T s H ∧ v = .ref a ∧ u = .ref b ∧ Holds G H a k vs ∧ Holds G H b k' us ∧ (∀ l, Reps G ow' H (frzs xs) l 0 vs) ∧ (∀ l, Reps G ow' H (frzs ys) l 0 us) := by
  obtain ⟨ow1, b, us, S1, eu, hb, ry, n1⟩ := StW.parts (T := T ++ pushR x v) (by rw [List.append_assoc]; exact S) ly e2
  have go : ∀ xs', opd (touch r y) x = some (.node k o xs') → frzs xs' = frzs xs →
      ∃ ow' a b vs us, StW G C ow' (touch (touch r y) x) T s H ∧ v = .ref a ∧ u = .ref b ∧ Holds G H a k vs ∧ Holds G H b k' us ∧ (∀ l, Reps G ow' H (frzs xs) l 0 vs) ∧ (∀ l, Reps G ow' H (frzs ys) l 0 us) := fun xs' e' ef => by
    obtain ⟨ow2, a, vs, S2, ev, ha, rx, n2⟩ := S1.parts lx e'
    refine ⟨ow2, a, b, vs, us, S2, ev, eu, ha, hb, fun l => by rw [← ef]; exact rx l, fun l => ?_⟩
    exact Reps.moveF _ (frzs_frzs ys) (fun c ob z q => ⟨z, n2 c q⟩) (fun _ _ z _ => z) (ry l)
  rcases touch_opd (y := y) e1 with e' | e'
  · exact go xs e' rfl
  · exact go _ e' (frzs_frzs xs)
@[irreducible] def gAdd : G2 := fun x y r => match opd r x, opd r y with
  | some (.int i), some (.int j) => .ok (.val (.int (i + j))) r
  | some (.int i), some (.bl k) => .ok (.val (.int (i + b2i k))) r
  | some (.str a), some (.str b) => if a.length + b.length ≤ 16777216 then .ok (.val (.str (a ++ b))) r else .bad
  | some (.node .lst _ xs), some (.node .lst _ ys) => if xs.length + ys.length ≤ 16777216 then .ok (.val (.node .lst true (frzs xs ++ frzs ys))) (touch (touch r y) x) else .bad
  | _, _ => .bad
theorem frzs_append (xs ys : List D) : frzs (xs ++ ys) = frzs xs ++ frzs ys := by simp [frzs_map]
theorem frzs_length (xs : List D) : (frzs xs).length = xs.length := by simp [frzs_map]
theorem goes_val {z : D} {Q : VK} (h : Goes G C W T s Q (.ok (.val z) r)) (S : StOk G C r T s H) (a : atom z = true) {w : V} (hw : ∀ ow l, Rep G ow H z l w) : Q w H := h w H ⟨S.pushA a hw, trivial⟩
theorem os_add_of {f : Value → Value → Sem Value} (h1 : OpR X f (rI0 fun i j => .int (i + j))) (h2 : OpR X f (fun x y H Q => ∃ i k, x = .int i ∧ y = .bl k ∧ Q (.int (i + b2i k)) H))
    (h3 : OpR X f (fun x y H Q => ∃ i j, x = .str i ∧ y = .str j ∧ i.length + j.length ≤ sizeLine ∧ Q (.str (i ++ j)) H)) (h4 : OpR X f rCat) : OpS X f gAdd := by
  refine ⟨_, h1.or (h2.or (h3.or h4)), fun G C W r T s H x y v u Q S lx ly q => ?_⟩
  obtain ⟨ow, S⟩ := S
  unfold gAdd at q
  split at q
  · rename_i i j e1 e2
    have a1 := opd_rep S lx e1
    have a2 := opd_rep (T := T ++ pushR x v) (T2 := []) (by rw [List.append_nil, List.append_assoc]; exact S) ly e2
    exact .inl ⟨i, j, a1, a2, goes_val q ⟨ow, S.drop⟩ rfl fun _ _ => rfl⟩
  · rename_i i k e1 e2
    have a1 := opd_rep S lx e1
    have a2 := opd_rep (T := T ++ pushR x v) (T2 := []) (by rw [List.append_nil, List.append_assoc]; exact S) ly e2
    exact .inr (.inl ⟨i, k, a1, a2, goes_val q ⟨ow, S.drop⟩ rfl fun _ _ => rfl⟩)
  · rename_i i j e1 e2
    have a1 := opd_rep S lx e1
    have a2 := opd_rep (T := T ++ pushR x v) (T2 := []) (by rw [List.append_nil, List.append_assoc]; exact S) ly e2
    split at q
    · rename_i hz
      exact .inr (.inr (.inl ⟨i, j, a1, a2, by rw [sizeLine_eq]; exact hz, goes_val q ⟨ow, S.drop⟩ rfl fun _ _ => rfl⟩))
    · exact q.elim
  · rename_i o1 xs o2 ys e1 e2
    split at q
    · rename_i hz
      obtain ⟨ow', a, b, vs, us, S', ev, eu, ha, hb, rx, ry⟩ := S.parts2 lx ly e1 e2
      subst ev; subst eu
      have l1 := (rx ⟨.fo, []⟩).length
      have l2 := (ry ⟨.fo, []⟩).length
      rw [frzs_length] at l1 l2
      refine .inr (.inr (.inr ⟨a, b, vs, us, rfl, rfl, ha, hb, by rw [sizeLine_eq, ← l1, ← l2]; exact hz, ?_⟩))
      exact S'.made (l := ⟨.fo, []⟩) (i := 0) (by rw [frzs_append, frzs_frzs, frzs_frzs]) (Reps.app (frzs_frzs xs) (frzs_frzs ys) (rx _) (ry _)) q
    · exact q.elim
  · exact q.elim
theorem os_add : OpS X (binaryOp .Add) gAdd := os_add_of op_add op_add_ib op_add_str op_cat
end
end VL

namespace VL
open PySem PySem.Spec PyProof.Rows L2

theorem reps_flat {G : GX} {ow : Ow} {H : Hp} {ds : List D} {l : Loc} {vs : List V} (e : frzs ds = ds) (h : Reps G ow H ds l 0 vs) : ∀ k : Nat, Reps G ow H (List.replicate k ds).flatten l 0 (List.replicate k vs).flatten ∧ frzs (List.replicate k ds).flatten = (List.replicate k ds).flatten
  | 0 => ⟨rfl, rfl⟩
  | k + 1 => by
    obtain ⟨i1, i2⟩ := reps_flat e h k
    rw [List.replicate_succ, List.replicate_succ, List.flatten_cons, List.flatten_cons]
    exact ⟨Reps.app e i2 h i1, by rw [frzs_append, e, i2]⟩
section
variable {X : Cx} {G : GX} {C : Fc} {W : WX} {ow ow' : Ow} {r : Rho} {T T1 T2 : List (D × V)} {s : L2.St} {H H' : Hp} {fa fb fc : Ev}
@[irreducible] def gMul : G2 := fun x y r => match opd r x, opd r y with
  | some (.int i), some (.int j) => if mulOk i j = true then .ok (.val (.int (i * j))) r else .bad
  | some (.node .lst _ xs), some (.int k) => if k.natAbs < 2 ^ 63 ∧ xs.length * k.toNat ≤ 16777216 then .ok (.val (.node .lst true (List.replicate k.toNat (frzs xs)).flatten)) (touch r x) else .bad
  | _, _ => .bad
theorem os_mul : OpS X (binaryOp .Mult) gMul := by
  refine ⟨_, op_mulA.or op_rep, fun G C W r T s H x y v u Q S lx ly q => ?_⟩
  obtain ⟨ow, S⟩ := S
  unfold gMul at q
  split at q
  · rename_i i j e1 e2
    split at q
    · rename_i hm
      have a1 := opd_rep S lx e1
      have a2 := opd_rep (T := T ++ pushR x v) (T2 := []) (by rw [List.append_nil, List.append_assoc]; exact S) ly e2
      exact .inl ⟨i, j, a1, a2, mulOk_of hm, goes_val q ⟨ow, S.drop⟩ rfl fun _ _ => rfl⟩
    · exact q.elim
  · rename_i o xs k e1 e2
    split at q
    · rename_i hz
      obtain ⟨h12, h3⟩ := hz
      have h1 : -(2 ^ 63) ≤ k := by omega
      have h2 : k < 2 ^ 63 := by omega
      have a2 := opd_rep (T := T ++ pushR x v) (T2 := []) (by rw [List.append_nil, List.append_assoc]; exact S) ly e2
      obtain ⟨ow', a, vs, S', ev, ha, rx, _⟩ := StW.parts (T := T) (StW.drop (T := T ++ pushR x v) (T2 := pushR y u) (by rw [List.append_assoc]; exact S)) lx e1
      subst ev
      have l1 := (rx ⟨.fo, []⟩).length
      rw [frzs_length] at l1
      obtain ⟨r1, r2⟩ := reps_flat (frzs_frzs xs) (rx ⟨.fo, []⟩) k.toNat
      refine .inr ⟨a, k, vs, rfl, a2, ha, h1, h2, by rw [sizeLine_eq, ← l1]; exact h3, ?_⟩
      exact S'.made (l := ⟨.fo, []⟩) (i := 0) r2 r1 q
    · exact q.elim
  · exact q.elim

mutual
def toPy : D → PyData
  | .non => .none
  | .bl b => .bool b
  | .int i => .int i
  | .str s => .str s
  | .node .lst _ xs => .list (toPys xs)
  | .node .tup _ xs => .tuple (toPys xs)
  | _ => .dict []
def toPys : List D → List PyData
  | [] => []
  | d :: ds => toPy d :: toPys ds
end
def eqOk (d : D) : Bool := SeqAt.shaped (toPy d)
mutual
theorem dp_of {K : PySem.W.Frag} : ∀ (d : D) {l : Loc} {v : V}, (toPy d).canLay0 = true → Rep G ow H d l v → Dp K H v (toPy d)
  | .non, _, _, _, h => by
    have e := rep_non h
    subst e; exact .non
  | .bl b, _, _, _, h => by
    have e := rep_bl h
    subst e; exact .bl b
  | .int i, _, _, _, h => by
    have e := rep_int h
    subst e; exact .int i
  | .str x, _, _, _, h => by
    have e := rep_str h
    subst e; exact .str x
  | .any, _, _, c, _ => by simp [toPy, PyData.canLay0] at c
  | .exc _, _, _, c, _ => by simp [toPy, PyData.canLay0] at c
  | .ty _, _, _, c, _ => by simp [toPy, PyData.canLay0] at c
  | .cls _, _, _, c, _ => by simp [toPy, PyData.canLay0] at c
  | .node k o xs, l, v, c, h => by
    obtain ⟨a, vs, e, h1, h2, h3⟩ := h
    subst e
    cases k with
    | lst =>
      have c' : PyData.canLayAll0 (toPys xs) = true := by simpa [toPy, PyData.canLay0] using c
      have z := dps_of (K := K) xs c' h3
      simp only [toPy]
      exact .lst (SqL.of h1) z
    | rd => simp [toPy, PyData.canLay0] at c
    | tup =>
      have c' : PyData.canLayAll0 (toPys xs) = true := by simpa [toPy, PyData.canLay0] using c
      have z := dps_of (K := K) xs c' h3
      simp only [toPy]
      exact .tup (SqT.of h1) z
    | dK ks => simp [toPy, PyData.canLay0] at c
    | dT ks => simp [toPy, PyData.canLay0] at c
    | ins c' fs => simp [toPy, PyData.canLay0] at c
theorem dps_of {K : PySem.W.Frag} : ∀ (ds : List D) {l : Loc} {i : Nat} {vs : List V}, PyData.canLayAll0 (toPys ds) = true → Reps G ow H ds l i vs → DpAll K H vs (toPys ds)
  | [], _, _, vs, _, h => by
    have e : vs = [] := h
    subst e
    simp only [toPys]
    exact .nil
  | d :: ds, l, i, vs, c, h => by
    obtain ⟨v, ws, e, h1, h2⟩ := h
    subst e
    have c' : (toPy d).canLay0 = true ∧ PyData.canLayAll0 (toPys ds) = true := by simpa [toPys, PyData.canLayAll0] using c
    simp only [toPys]
    exact .cons (dp_of d c'.1 h1) (dps_of ds c'.2 h2)
end
def eqD (d e : D) : Option D := if (eqOk d && eqOk e) = true then some (.bl (PyData.eqv (toPy d) (toPy e))) else none
def neD (d e : D) : Option D := if (eqOk d && eqOk e) = true then some (.bl (!PyData.eqv (toPy d) (toPy e))) else none
def gEq : G2 := g2 eqD
def gNe : G2 := g2 neD
theorem os_eq (hu : X.A.units + 64 < cLine) : OpS X (compareOp .Eq) gEq := by
  refine OpS.scal (op_eqD hu) fun G ow H d e z l m v u Q h1 h2 e3 q => ?_
  unfold eqD at e3
  split at e3
  · rename_i c
    rw [Bool.and_eq_true] at c
    cases e3
    exact ⟨_, _, dp_of d (SeqAt.canLay_of_shaped c.1) h1, dp_of e (SeqAt.canLay_of_shaped c.2) h2, c.1, c.2, q _ fun _ _ => rfl⟩
  · cases e3
theorem os_ne (hu : X.A.units + 64 < cLine) : OpS X (compareOp .NotEq) gNe := by
  refine OpS.scal (op_neD hu) fun G ow H d e z l m v u Q h1 h2 e3 q => ?_
  unfold neD at e3
  split at e3
  · rename_i c
    rw [Bool.and_eq_true] at c
    cases e3
    exact ⟨_, _, dp_of d (SeqAt.canLay_of_shaped c.1) h1, dp_of e (SeqAt.canLay_of_shaped c.2) h2, c.1, c.2, q _ fun _ _ => rfl⟩
  · cases e3
def isN : D → D → Option D
  | d, .non => (match d with
    | .any => none
    | .non => some (.bl true)
    | _ => some (.bl false))
  | _, _ => none
theorem rep_isnon {d : D} {l : Loc} {v : V} (h : Rep G ow H d l v) (n : d ≠ .any) : decide (v = .non) = (match d with | .non => true | _ => false) := by
  cases d with
  | any => exact absurd rfl n
  | non =>
    have e := rep_non h
    subst e
    rfl
  | bl b => have e := rep_bl h; subst e; rfl
  | int b => have e := rep_int h; subst e; rfl
  | str b => have e := rep_str h; subst e; rfl
  | exc c => obtain ⟨a, e, _⟩ := h; subst e; rfl
  | ty m => have e : v = .ty m := h; subst e; rfl
  | cls c => have e : v = .ref (G c) := h; subst e; rfl
  | node k o xs => obtain ⟨a, vs, e, _⟩ := h; subst e; rfl
def gIs : G2 := g2 isN
theorem os_is : OpS X (compareOp .Is) gIs := by
  refine OpS.scal op_isN fun G ow H d e z l m v u Q h1 h2 e3 q => ?_
  cases e with
  | non =>
    refine ⟨rep_non h2, ?_⟩
    cases d with
    | any => cases e3
    | _ => cases e3; rw [rep_isnon h1 (fun z => nomatch z)]; exact q _ fun _ _ => rfl
  | _ => cases e3
def flatD : D → Bool
  | .non => true
  | .bl _ => true
  | .int _ => true
  | .str _ => true
  | _ => false
def inD (d e : D) : Option Bool := match e with
  | .node .lst _ xs => if (eqOk d && eqOk e) = true then some (xs.any fun z => PyData.eqv (toPy z) (toPy d)) else none
  | .node .tup _ xs => if (flatD d && xs.all flatD) = true then some (xs.any fun z => PyData.eqv (toPy z) (toPy d)) else none
  | .str b => (match d with
    | .str a => some (!(Builtin.Str.occurrences b a 0 b.length 1).isEmpty)
    | _ => none)
  | _ => none
def gIn : G2 := g2 fun d e => (inD d e).map .bl
def tVT (G : GX) (C : Fc) (W : WX) (f : Ev) : TT := fun s H Q => ∃ r T, StOk G C r T s H ∧ match f r with
  | .ok (.val (.bl b)) r' => ∀ H', StOk G C r' T s H' → Q b H'
  | .exc c r' => ∀ H', StOk G C r' T s H' → W (.ref (G c)) none s H'
  | _ => False
abbrev VT (X : Cx) (G : GX) (C : Fc) (W : WX) (e : Expr) (f : Ev) : Prop := PT X e (tVT G C W f)
theorem PT.imp {e : Expr} {t t' : TT} (h : PT X e t) (i : ∀ s H Q, t' s H Q → t s H Q) : PT X e t' := ⟨fun pins s σ H Q I w => h.run pins s σ H Q I (i _ _ _ w)⟩
theorem PW.imp {e : Expr} {t t' : TT} (h : PW X e t) (i : ∀ s H Q, t' s H Q → t s H Q) : PW X e t' := ⟨fun wh pins s σ H Q I w => h.run wh pins s σ H Q I (i _ _ _ w)⟩
theorem tV_bl {f : Ev} {Q : Bool → Hp → Prop} (h : tVT G C W f s H Q) : tV G C W f s H fun v H' => ∃ k, v = .bl k ∧ Q k H' := by
  obtain ⟨r, T, S, h⟩ := h
  refine ⟨r, T, S, ?_⟩
  split at h
  · rename_i b r' e
    rw [e]
    exact fun v H' P => ⟨b, by
      obtain ⟨ow, S'⟩ := P.1
      exact S'.last, h H' P.any⟩
  · rename_i c r' e
    rw [e]
    exact h
  · exact h.elim
theorem vt_cmp {op : CmpOp} {g : G2} {a b : Expr} {pos : Pos} (ho : OpS X (compareOp op) g) (ha : VE X G C W a fa) (hb : VE X G C W b fb) (hm : behindInMarks op b = false) : VT X G C W (.Compare a [op] [b] pos) (cBin g fa fb) := by
  obtain ⟨rr, h1, h2⟩ := ho
  refine PT.imp (pt_cmpR h1 ha hb hm) fun s H Q h => ?_
  have z := tV_bl h
  obtain ⟨r, T, S, gg⟩ := z
  exact two S gg fun x y v u r2 H2 S2 lx ly g2 => h2 G C W r2 T s H2 x y v u _ S2 lx ly g2
def truthD : D → Option Bool
  | .non => some false
  | .bl b => some b
  | .int i => some (i != 0)
  | .str x => if x.length ≤ 16777216 then some ((x.length : Int) != 0) else none
  | .node .lst _ xs => some (!xs.isEmpty)
  | .node .tup _ xs => some (!xs.isEmpty)
  | .node (.dK _) _ xs => some (!xs.isEmpty)
  | _ => none
def cTru (fa : Ev) : Ev := fun r => (fa r).bd fun x r1 => match opd r1 x with
  | some d => (match truthD d with
    | some b => .ok (.val (.bl b)) r1
    | none => .bad)
  | none => .bad
theorem vt_val {a : Expr} (ha : VE X G C W a fa) (he : ∀ whole, isTrue a X.env whole = (do let v ← whole; standAt a.pos; holding [v] (truthy v))) : VT X G C W a fa := by
  refine PT.imp (pt_truth ha he) fun s H Q h => ?_
  have z := tV_bl h
  obtain ⟨r, T, S, g⟩ := z
  refine ⟨r, T, S, ?_⟩
  cases e : fa r with
  | ok x r1 =>
    rw [e] at g
    exact fun v H' P => by
      obtain ⟨k, ev, q⟩ := g v H' P
      subst ev
      exact ⟨k, rfl, q⟩
  | exc c r1 => rw [e] at g; exact g
  | bad => rw [e] at g; exact g
def cAnd (fa fb : Ev) : Ev := fun r => (fa r).bd fun x r1 => match x with
  | .val (.bl true) => fb r1
  | .val (.bl false) => .ok (.val (.bl false)) r1
  | _ => .bad
def cOr (fa fb : Ev) : Ev := fun r => (fa r).bd fun x r1 => match x with
  | .val (.bl true) => .ok (.val (.bl true)) r1
  | .val (.bl false) => fb r1
  | _ => .bad
def cNot (fa : Ev) : Ev := fun r => (fa r).bd fun x r1 => match x with
  | .val (.bl b) => .ok (.val (.bl (!b))) r1
  | _ => .bad
abbrev VW (X : Cx) (G : GX) (C : Fc) (W : WX) (e : Expr) (f : Ev) : Prop := PW X e (tVT G C W f)
theorem tVT_or {Q : Bool → Hp → Prop} (h : tVT G C W (cOr fa fb) s H Q) : tOr (tVT G C W fa) (tVT G C W fb) s H Q := by
  obtain ⟨r, T, S, g⟩ := h
  refine ⟨r, T, S, ?_⟩
  unfold cOr at g
  cases e : fa r with
  | ok x r1 =>
    rw [e] at g
    simp only [bd_ok] at g
    split at g
    · rename_i b r' e'
      split at e'
      · cases e'
        exact fun H' S' => (if_pos rfl).mpr (g H' S')
      · exact fun H' S' => (if_neg Bool.false_ne_true).mpr ⟨r1, T, S', by rw [e']; exact g⟩
      · cases e'
    · rename_i c r' e'
      split at e'
      · cases e'
      · exact fun H' S' => (if_neg Bool.false_ne_true).mpr ⟨r1, T, S', by rw [e']; exact g⟩
      · cases e'
    · exact g.elim
  | exc c r1 => rw [e] at g; exact g
  | bad => rw [e] at g; exact g
theorem vw_or1 {a : Expr} {pos : Pos} (ha : VT X G C W a fa) : VW X G C W (.BoolOp .Or [a] pos) fa := pw_or1 ha
theorem vw_or {a b : Expr} {rest : List Expr} {pos : Pos} (ha : VT X G C W a fa) (hb : VW X G C W (.BoolOp .Or (b :: rest) pos) fb) : VW X G C W (.BoolOp .Or (a :: b :: rest) pos) (cOr fa fb) :=
  PW.imp (pw_or ha hb) fun _ _ _ h => tVT_or h
theorem VW.pt {e : Expr} {f : Ev} (h : VW X G C W e f) : VT X G C W e f := L2.PW.pt h
theorem vt_not {a : Expr} {pos : Pos} (ha : VT X G C W a fa) : VT X G C W (.UnaryOp .Not a pos) (cNot fa) := by
  refine PT.imp (pt_not ha) fun s H Q h => ?_
  obtain ⟨r, T, S, g⟩ := h
  refine ⟨r, T, S, ?_⟩
  unfold cNot at g
  cases e : fa r with
  | ok x r1 =>
    rw [e] at g
    simp only [bd_ok] at g
    split at g
    · rename_i b r' e'
      split at e'
      · rename_i k
        cases e'
        exact g
      · cases e'
    · rename_i c r' e'
      split at e' <;> cases e'
    · exact g.elim
  | exc c r1 => rw [e] at g; exact g
  | bad => rw [e] at g; exact g
theorem ve_one {op : BoolOp} {a : Expr} {pos : Pos} (ha : VE X G C W a fa) : VE X G C W (.BoolOp op [a] pos) fa := pe_one ha
theorem ve_and {a b : Expr} {rest : List Expr} {pos : Pos} (ha : VE X G C W a fa) (hb : VE X G C W (.BoolOp .And (b :: rest) pos) fb) : VE X G C W (.BoolOp .And (a :: b :: rest) pos) (cAnd fa fb) := by
  refine PE.imp (pe_and ha hb) fun s H Q h => ?_
  obtain ⟨r, T, S, g⟩ := h
  refine one S g fun x v r1 H1 P g1 => ?_
  split at g1
  · obtain ⟨ow, S'⟩ := P.1
    have e := rep_bl S'.last
    subst e
    exact ⟨true, rfl, (if_pos rfl).mpr ⟨r1, T, P.any, g1⟩⟩
  · obtain ⟨ow, S'⟩ := P.1
    have e := rep_bl S'.last
    subst e
    exact ⟨false, rfl, (if_neg Bool.false_ne_true).mpr (g1 _ _ ⟨P.any.pushB false, trivial⟩)⟩
  · exact g1.elim
theorem ve_or {a b : Expr} {rest : List Expr} {pos : Pos} (ha : VE X G C W a fa) (hb : VE X G C W (.BoolOp .Or (b :: rest) pos) fb) : VE X G C W (.BoolOp .Or (a :: b :: rest) pos) (cOr fa fb) := by
  refine PE.imp (pe_or ha hb) fun s H Q h => ?_
  obtain ⟨r, T, S, g⟩ := h
  refine one S g fun x v r1 H1 P g1 => ?_
  split at g1
  · obtain ⟨ow, S'⟩ := P.1
    have e := rep_bl S'.last
    subst e
    exact ⟨true, rfl, (if_pos rfl).mpr (g1 _ _ ⟨P.any.pushB true, trivial⟩)⟩
  · obtain ⟨ow, S'⟩ := P.1
    have e := rep_bl S'.last
    subst e
    exact ⟨false, rfl, (if_neg Bool.false_ne_true).mpr ⟨r1, T, P.any, g1⟩⟩
  · exact g1.elim
def cNeg (fa : Ev) : Ev := fun r => (fa r).bd fun x r1 => match x with
  | .val (.int i) => .ok (.val (.int (-i))) r1
  | _ => .bad
theorem ve_neg {a : Expr} {pos : Pos} (ha : VE X G C W a fa) : VE X G C W (.UnaryOp .USub a pos) (cNeg fa) := by
  refine PE.imp (pe_un un_neg ha) fun s H Q h => ?_
  obtain ⟨r, T, S, g⟩ := h
  refine one S g fun x v r1 H1 P g1 => ?_
  split at g1
  · rename_i i
    obtain ⟨ow, S'⟩ := P.1
    have e := rep_int S'.last
    subst e
    exact ⟨i, rfl, g1 _ _ ⟨P.any.pushI _, trivial⟩⟩
  · exact g1.elim
end
end VL

namespace VL
open PySem PySem.Spec PyProof.Rows L2
section
variable {X : Cx} {G : GX} {C : Fc} {W : WX} {ow ow' : Ow} {r : Rho} {T T1 T2 : List (D × V)} {s : L2.St} {H H' : Hp} {fa fb fc : Ev}
theorem oneX {k : R → Rho → EO} {Q : VK} {K : V → Hp → Prop} (S : StOk G C r (T ++ T2) s H) (h : Goes G C W T s Q ((fa r).bd k))
    (hk : ∀ x v r1 H1, Post G C r1 (T ++ T2) s H1 x v → Goes G C W T s Q (k x r1) → K v H1) : tV G C W fa s H K := by
  refine ⟨r, T ++ T2, S, ?_⟩
  cases e : fa r with
  | ok x r1 =>
    rw [e] at h
    exact fun v H1 P => hk x v r1 H1 P h
  | exc c r1 => rw [e] at h; exact fun H' S' => h H' S'.drop
  | bad => rw [e] at h; exact h
def cSet (fa : Ev) : Ev := fun r => (fa r).bd fun x r1 => match x with
  | .val d => .ok (.val d) r1
  | .loc i => (match opd r1 (.loc i) with
    | some d => .ok (.val (frz d)) (settle r1 (.loc i))
    | none => .bad)
theorem ve_set {e : Expr} (h : VE X G C W e fa) : VE X G C W e (cSet fa) := by
  refine PE.imp h fun s H Q h => ?_
  obtain ⟨r, T, S, g⟩ := h
  refine ⟨r, T, S, ?_⟩
  unfold cSet at g
  cases e : fa r with
  | ok x r1 =>
    rw [e] at g
    simp only [bd_ok] at g
    intro v H' P
    cases x with
    | val d => exact g v H' P
    | loc i =>
      cases e1 : opd r1 (.loc i) with
      | none => simp only [e1] at g
      | some d =>
        simp only [e1] at g
        have q := opd_loc e1
        rw [settle_loc q] at g
        obtain ⟨⟨ow, S'⟩, l⟩ := P
        have S' : StW G C ow r1 T s H' := by simpa [pushR] using S'
        have hlt : i < r1.length := (List.getElem?_eq_some_iff.mp q).1
        have S2 := S'.frzSl q
        exact g v H' ⟨⟨_, S2.copy (j := i) (d := frz d) (by rw [List.getElem?_set_self hlt]) (frz_frz d) l⟩, trivial⟩
  | exc c r1 => rw [e] at g; exact g
  | bad => rw [e] at g; exact g

def pick (r : Rho) (x : R) (d : D) : EO := if atom d = true then .ok (.val d) r else .ok (.val (frz d)) (touch r x)
def gIx : G2 := fun x y r => match opd r x, opd r y with
  | some (.node .lst _ xs), some (.int i) => (match atI xs i with | some d => pick r x d | none => .bad)
  | some (.node .rd _ xs), some (.int i) => (match atI xs i with | some d => pick r x d | none => .bad)
  | some (.node .tup _ xs), some (.int i) => (match atI xs i with | some d => pick r x d | none => .bad)
  | some (.str z), some (.int i) => if z.length ≤ 16777216 then (match atI z.cps.toList i with | some c => .ok (.val (.str ⟨#[c]⟩)) r | none => .bad) else .bad
  | _, _ => .bad
theorem atI_len {α β : Type} {xs : List α} {ys : List β} {i : Int} {d : α} (hl : xs.length = ys.length) (h : atI xs i = some d) : ∃ j : Nat, xs[j]? = some d ∧ ∀ y, ys[j]? = some y → atI ys i = some y := by
  unfold atI at h ⊢
  rw [← hl]
  cases e : ixN xs.length i with
  | none => rw [e] at h; cases h
  | some j =>
    rw [e] at h
    exact ⟨j, h, fun y hy => hy⟩
theorem frzs_get {xs : List D} {j : Nat} {d : D} (h : xs[j]? = some d) : (frzs xs)[j]? = some (frz d) := by
  rw [frzs_map, List.getElem?_map, h]; rfl
theorem pick_ok {x y : R} {v u : V} {k : Kd} {o : Bool} {xs : List D} {i : Int} {d : D} {Q : VK} (S : StW G C ow r (T ++ (pushR x v ++ pushR y u)) s H) (lx : LocOk s v x) (e1 : opd r x = some (.node k o xs)) (ei : atI xs i = some d) (q : Goes G C W T s Q (pick r x d)) :
    ∃ a vs w, v = .ref a ∧ Holds G H a k vs ∧ atI vs i = some w ∧ Q w H := by
  by_cases a : atom d = true
  · obtain ⟨p, vs, ev, h1, h2, h3⟩ := opd_rep S lx e1
    obtain ⟨j, ej, hj⟩ := atI_len h3.length ei
    obtain ⟨w, ew, rw'⟩ := h3.get j d ej
    unfold pick at q
    rw [if_pos a] at q
    exact ⟨p, vs, w, ev, h1, hj w ew, goes_val q ⟨ow, S.drop⟩ a fun _ _ => rw'.of_atom a⟩
  · obtain ⟨ow', p, vs, S', ev, h1, rx, _⟩ := StW.parts (T := T) (StW.drop (T := T ++ pushR x v) (T2 := pushR y u) (by rw [List.append_assoc]; exact S)) lx e1
    have l1 := (rx ⟨.fo, []⟩).length
    rw [frzs_length] at l1
    obtain ⟨j, ej, hj⟩ := atI_len l1 ei
    obtain ⟨w, ew, rw'⟩ := (rx ⟨.fo, []⟩).get j (frz d) (frzs_get ej)
    unfold pick at q
    rw [if_neg a] at q
    exact ⟨p, vs, w, ev, h1, hj w ew, q w H ⟨⟨ow', S'.push (Rep.moveF _ (frz_frz d) (fun a o z q => ⟨z, q⟩) (fun _ _ z _ => z) rw')⟩, trivial⟩⟩
theorem ve_ix {a b : Expr} {pos : Pos} (hK : G.K = X.K) (ha : VE X G C W a fa) (hb : VE X G C W b fb) (hs : PlainIx b) : VE X G C W (.Subscript a b pos) (cBin gIx fa fb) := by
  refine PE.imp (pe_ix ix_seq ha hb hs) fun s H Q h => ?_
  obtain ⟨r, T, S, g⟩ := h
  refine two S g fun x y v u r2 H2 S2 lx ly q => ?_
  obtain ⟨ow, S2⟩ := S2
  have i2 : ∀ i, opd r2 y = some (.int i) → u = .int i := fun i e2 => opd_rep (T := T ++ pushR x v) (T2 := []) (by rw [List.append_nil, List.append_assoc]; exact S2) ly e2
  unfold gIx at q
  split at q
  · rename_i o xs i e1 e2
    split at q
    · rename_i d ei
      obtain ⟨p, vs, w, ev, h1, h2, h3⟩ := pick_ok S2 lx e1 ei q
      subst ev
      exact .inl ⟨p, vs, i, w, rfl, i2 i e2, SqL.of h1, h2, h3⟩
    · exact q.elim
  · rename_i o xs i e1 e2
    split at q
    · rename_i d ei
      obtain ⟨p, vs, w, ev, h1, h2, h3⟩ := pick_ok S2 lx e1 ei q
      subst ev
      exact .inl ⟨p, vs, i, w, rfl, i2 i e2, hK ▸ h1.seq, h2, h3⟩
    · exact q.elim
  · rename_i o xs i e1 e2
    split at q
    · rename_i d ei
      obtain ⟨p, vs, w, ev, h1, h2, h3⟩ := pick_ok S2 lx e1 ei q
      subst ev
      exact .inr (.inl ⟨p, vs, i, w, rfl, i2 i e2, SqT.of h1, h2, h3⟩)
    · exact q.elim
  · rename_i z i e1 e2
    split at q
    · rename_i hz
      split at q
      · rename_i c ec
        have a1 := opd_rep S2 lx e1
        exact .inr (.inr ⟨z, i, c, a1, i2 i e2, by rw [sizeLine_eq]; exact hz, ec, goes_val q ⟨ow, S2.drop⟩ rfl fun _ _ => rfl⟩)
      · exact q.elim
    · exact q.elim
  · exact q.elim

def part (f : Option Ev) (r : Rho) (k : Option Int → Rho → EO) : EO := match f with
  | none => k none r
  | some f => (f r).bd fun y r' => match y with
    | .val (.int i) => k (some i) r'
    | _ => .bad
abbrev VO (X : Cx) (G : GX) (C : Fc) (W : WX) (e : Option Expr) (f : Option Ev) : Prop := ∃ t, PO X e t ∧ ∀ (r : Rho) (T T2 : List (D × V)) (s : L2.St) (H : Hp) (Q : VK) (K : Option Int → Hp → Prop) (k : Option Int → Rho → EO),
  StOk G C r (T ++ T2) s H → Goes G C W T s Q (part f r k) → (∀ i r1 H1, StOk G C r1 (T ++ T2) s H1 → Goes G C W T s Q (k i r1) → K i H1) → t s H K
theorem vo_none : VO X G C W none none := ⟨_, po_none, fun r T T2 s H Q K k S g h => h none r H S g⟩
theorem vo_some {e : Expr} (h : VE X G C W e fa) : VO X G C W (some e) (some fa) := by
  refine ⟨_, po_some h, fun r T T2 s H Q K k S g hk => ?_⟩
  refine oneX (k := fun y r' => match y with | .val (.int i) => k (some i) r' | _ => .bad) S g fun x v r1 H1 P g1 => ?_
  cases x with
  | loc i => exact g1.elim
  | val d =>
    cases d with
    | int i =>
      obtain ⟨ow, S'⟩ := P.1
      exact ⟨i, rep_int S'.last, hk (some i) r1 H1 P.any g1⟩
    | _ => exact g1.elim
def cutD (xs : List D) (lo hi : Option Int) : List D := (xs.drop (HT.sIx xs.length 0 lo)).take (HT.sIx xs.length xs.length hi - HT.sIx xs.length 0 lo)
def gSl (x : R) (lo hi : Option Int) (r : Rho) : EO := match opd r x with
  | some (.node .lst _ xs) => .ok (.val (.node .lst true (cutD (frzs xs) lo hi))) (touch r x)
  | some (.node .rd _ xs) => .ok (.val (.node .lst true (cutD (frzs xs) lo hi))) (touch r x)
  | some (.node .tup _ xs) => .ok (.val (.node .tup false (cutD (frzs xs) lo hi))) (touch r x)
  | _ => .bad
def cSl (fa : Ev) (lo hi : Option Ev) : Ev := fun r => (fa r).bd fun x r1 => part lo r1 fun l r2 => part hi r2 fun h r3 => gSl x l h r3
theorem frzs_take (xs : List D) (n : Nat) : frzs (xs.take n) = (frzs xs).take n := by rw [frzs_map, frzs_map, List.map_take]
theorem frzs_drop (xs : List D) (n : Nat) : frzs (xs.drop n) = (frzs xs).drop n := by rw [frzs_map, frzs_map, List.map_drop]
theorem Reps.cut {ds : List D} {l : Loc} {vs : List V} (e : VL.frzs ds = ds) (h : Reps G ow H ds l 0 vs) (lo hi : Option Int) : Reps G ow H (cutD ds lo hi) l 0 (cutV vs lo hi) ∧ VL.frzs (cutD ds lo hi) = cutD ds lo hi := by
  have hl := h.length
  unfold cutD cutV
  rw [← hl]
  generalize HT.sIx ds.length 0 lo = a
  generalize HT.sIx ds.length ds.length hi - a = b
  refine ⟨Reps.of_get (by simp [hl]) fun j d v q1 q2 => ?_, by rw [frzs_take, frzs_drop, e]⟩
  have hj : j < b := by
    have := (List.getElem?_eq_some_iff.mp q1).1
    simp at this; omega
  rw [List.getElem?_take_of_lt hj, List.getElem?_drop] at q1 q2
  obtain ⟨v', z1, z2⟩ := h.get (a + j) d q1
  rw [q2] at z1
  cases z1
  have f : VL.frz d = d := by
    have := congrArg (·[a + j]?) e
    simp only [frzs_map, List.getElem?_map, q1, Option.map_some] at this
    exact Option.some.inj this
  exact Rep.moveF d f (fun a o z q => ⟨z, q⟩) (fun _ _ z _ => z) z2
theorem StW.madeT {ds : List D} {vs : List V} {l : Loc} {i : Nat} {Q : VK} (S : StW G C ow r T s H) (e : frzs ds = ds) (h : Reps G ow H ds l i vs) (hq : ∀ v H', Post G C r T s H' (.val (.node .tup false ds)) v → Q v H') :
    ∀ p, H p = none → Q (.ref p) (upd H p (.tup vs)) := fun p hp =>
  hq _ _ ⟨StOk.alloc false ⟨ow, S.pushFs e h⟩ h.length hp holds_tup (fun z => nomatch z), trivial⟩
theorem ve_slice {a : Expr} {lo hi : Option Expr} {flo fhi : Option Ev} {p2 pos : Pos} (hK : G.K = X.K) (ha : VE X G C W a fa) (hl : VO X G C W lo flo) (hh : VO X G C W hi fhi) : VE X G C W (.Subscript a (.Slice lo hi none p2) pos) (cSl fa flo fhi) := by
  obtain ⟨tl, l1, l2⟩ := hl
  obtain ⟨th, h1, h2⟩ := hh
  refine PE.imp (pe_slice (sl_list.or sl_tupA) ha l1 h1) fun s H Q h => ?_
  obtain ⟨r, T, S, g⟩ := h
  refine one S g fun x v r1 H1 P g1 => ?_
  refine l2 r1 T (pushR x v) s H1 _ _ _ P.1 g1 fun lo' r2 H2 S2 g2 => ?_
  refine h2 r2 T (pushR x v) s H2 _ _ _ S2 g2 fun hi' r3 H3 S3 g3 => ?_
  obtain ⟨ow, S3⟩ := S3
  unfold gSl at g3
  split at g3
  · rename_i o xs e1
    obtain ⟨ow', p, vs, S', ev, h1, rx, _⟩ := S3.parts P.2 e1
    subst ev
    obtain ⟨c1, c2⟩ := (rx ⟨.fo, []⟩).cut (frzs_frzs xs) lo' hi'
    exact .inl ⟨p, vs, rfl, SqL.of h1, S'.made c2 c1 g3⟩
  · rename_i o xs e1
    obtain ⟨ow', p, vs, S', ev, h1, rx, _⟩ := S3.parts P.2 e1
    subst ev
    obtain ⟨c1, c2⟩ := (rx ⟨.fo, []⟩).cut (frzs_frzs xs) lo' hi'
    exact .inl ⟨p, vs, rfl, hK ▸ h1.seq, S'.made c2 c1 g3⟩
  · rename_i o xs e1
    obtain ⟨ow', p, vs, S', ev, h1, rx, _⟩ := S3.parts P.2 e1
    subst ev
    obtain ⟨c1, c2⟩ := (rx ⟨.fo, []⟩).cut (frzs_frzs xs) lo' hi'
    have l1 := (rx ⟨.fo, []⟩).length
    refine .inr ⟨p, vs, rfl, SqT.of h1, fun hw => ?_, fun _ => S'.madeT c2 c1 g3⟩
    have ec : cutD (frzs xs) lo' hi' = frzs xs := by
      unfold cutD
      rw [l1, hw.1, hw.2, List.drop_zero, Nat.sub_zero, ← l1, List.take_length]
    rw [ec] at g3
    have n : ow' p = none := by
      cases e : ow' p with
      | none => rfl
      | some l =>
        have m := S'.mu p l e
        rw [show H3 p = some (.tup vs) from h1] at m
        exact m.elim
    exact g3 _ _ ⟨⟨ow', S'.push ⟨p, vs, rfl, h1, n, rx _⟩⟩, trivial⟩
  · exact g3.elim
end
end VL

namespace VL
open PySem PySem.Spec PyProof.Rows L2

inductive AO where
  | ok (xs : List R) (r : Rho) | exc (c : Nat) (r : Rho) | bad
abbrev Av := Rho → AO
def pushs : List R → List V → List (D × V)
  | x :: xs, v :: vs => pushR x v ++ pushs xs vs
  | _, _ => []
def LocsOk (s : L2.St) : List R → List V → Prop
  | [], [] => True
  | x :: xs, v :: vs => LocOk s v x ∧ LocsOk s xs vs
  | _, _ => False
def AO.bd (x : AO) (k : List R → Rho → EO) : EO := match x with
  | .ok y r => k y r
  | .exc c r => .exc c r
  | .bad => .bad
@[simp] theorem abd_ok (y : List R) (r : Rho) (k : List R → Rho → EO) : (AO.ok y r).bd k = k y r := rfl
@[simp] theorem abd_exc (c : Nat) (r : Rho) (k : List R → Rho → EO) : (AO.exc c r).bd k = .exc c r := rfl
@[simp] theorem abd_bad (k : List R → Rho → EO) : AO.bad.bd k = .bad := rfl
def cNil : Av := fun r => .ok [] r
def cCons (fa : Ev) (fs : Av) : Av := fun r => match fa r with
  | .ok x r1 => (match fs r1 with
    | .ok xs r2 => .ok (x :: xs) r2
    | .exc c r2 => .exc c r2
    | .bad => .bad)
  | .exc c r1 => .exc c r1
  | .bad => .bad
def opds (r : Rho) : List R → Option (List D)
  | [] => some []
  | x :: xs => match opd r x, opds r xs with
    | some d, some ds => some (d :: ds)
    | _, _ => none
def settles (r : Rho) : List R → Rho
  | [] => r
  | x :: xs => settles (settle r x) xs
section
variable {X : Cx} {G : GX} {C : Fc} {W : WX} {ow ow' : Ow} {r : Rho} {T T1 T2 : List (D × V)} {s : L2.St} {H H' : Hp} {fa fb fc : Ev} {fs : Av}
def tVA (G : GX) (C : Fc) (W : WX) (f : Av) : TA := fun s H Q => ∃ r T, StOk G C r T s H ∧ match f r with
  | .ok xs r' => ∀ vs H', StOk G C r' (T ++ pushs xs vs) s H' → LocsOk s xs vs → Q vs H'
  | .exc c r' => ∀ H', StOk G C r' T s H' → W (.ref (G c)) none s H'
  | .bad => False
abbrev VA (X : Cx) (G : GX) (C : Fc) (W : WX) (es : List Expr) (f : Av) : Prop := PA X es (tVA G C W f)
theorem PA.imp {es : List Expr} {t t' : TA} (h : PA X es t) (i : ∀ s H Q, t' s H Q → t s H Q) : PA X es t' := ⟨fun pos pins s σ H Q I w => h.run pos pins s σ H Q I (i _ _ _ w)⟩
theorem va_nil : VA X G C W [] cNil := by
  refine PA.imp pa_nil fun s H Q h => ?_
  obtain ⟨r, T, S, g⟩ := h
  exact g [] H (by simpa [pushs] using S) trivial
theorem va_cons {e : Expr} {es : List Expr} (he : VE X G C W e fa) (hr : VA X G C W es fs) (hs : starEach (e :: es) X.env = (false, eval e X.env) :: starEach es X.env := by rfl) : VA X G C W (e :: es) (cCons fa fs) := by
  refine PA.imp (pa_cons he hr hs) fun s H Q h => ?_
  obtain ⟨r, T, S, g⟩ := h
  refine ⟨r, T, S, ?_⟩
  unfold cCons at g
  cases e1 : fa r with
  | ok x r1 =>
    rw [e1] at g
    intro v H1 P
    refine ⟨r1, T ++ pushR x v, P.1, ?_⟩
    cases e2 : fs r1 with
    | ok xs r2 =>
      simp only [e2] at g
      intro vs H2 S2 l2
      exact g (v :: vs) H2 (by show StOk G C r2 (T ++ (pushR x v ++ pushs xs vs)) s H2; rw [← List.append_assoc]; exact S2) ⟨P.2, l2⟩
    | exc c r2 => simp only [e2] at g; exact fun H' S' => g H' S'.drop
    | bad => simp only [e2] at g
  | exc c r1 => rw [e1] at g; exact g
  | bad => rw [e1] at g; exact g
theorem many {k : List R → Rho → EO} {Q : VK} {K : List V → Hp → Prop} (S : StOk G C r (T ++ T2) s H) (h : Goes G C W T s Q ((fs r).bd k))
    (hk : ∀ xs vs r1 H1, StOk G C r1 (T ++ T2 ++ pushs xs vs) s H1 → LocsOk s xs vs → Goes G C W T s Q (k xs r1) → K vs H1) : tVA G C W fs s H K := by
  refine ⟨r, T ++ T2, S, ?_⟩
  cases e : fs r with
  | ok xs r1 =>
    rw [e] at h
    exact fun vs H1 S1 l1 => hk xs vs r1 H1 S1 l1 h
  | exc c r1 => rw [e] at h; exact fun H' S' => h H' S'.drop
  | bad => rw [e] at h; exact h

theorem frz_opd_settle {x y : R} {d : D} (e : opd r y = some d) : ∃ d', opd (settle r x) y = some d' ∧ frz d' = frz d := by
  cases y with
  | val z => exact ⟨d, e, rfl⟩
  | loc j =>
    have q := opd_loc e
    cases x with
    | val z => exact ⟨d, e, rfl⟩
    | loc i =>
      by_cases hij : i = j
      · subst hij
        rw [settle_loc q]
        refine ⟨frz d, ?_, frz_frz d⟩
        show (match (r.set i (some (frz d)))[i]? with | some (some d) => some d | _ => none) = _
        rw [List.getElem?_set_self (List.getElem?_eq_some_iff.mp q).1]
      · refine ⟨d, ?_, rfl⟩
        cases q' : r[i]? with
        | none =>
          have z : settle r (.loc i) = r := by show (match r[i]? with | some (some d) => r.set i (some (frz d)) | _ => r) = _; rw [q']
          rw [z]; exact e
        | some o' =>
          cases o' with
          | none =>
            have z : settle r (.loc i) = r := by show (match r[i]? with | some (some d) => r.set i (some (frz d)) | _ => r) = _; rw [q']
            rw [z]; exact e
          | some d' =>
            rw [settle_loc q']
            show (match (r.set i (some (frz d')))[j]? with | some (some d) => some d | _ => none) = _
            rw [List.getElem?_set_ne hij, q]
theorem frzs_opds_settle {x : R} : ∀ {ys : List R} {ds : List D}, opds r ys = some ds → ∃ ds', opds (settle r x) ys = some ds' ∧ frzs ds' = frzs ds
  | [], ds, e => ⟨ds, e, rfl⟩
  | y :: ys, ds, e => by
    unfold opds at e
    cases e1 : opd r y with
    | none => rw [e1] at e; cases e
    | some d =>
      cases e2 : opds r ys with
      | none => rw [e1, e2] at e; cases e
      | some ds' =>
        rw [e1, e2] at e
        cases e
        obtain ⟨d1, h1, h2⟩ := frz_opd_settle (x := x) e1
        obtain ⟨ds1, h3, h4⟩ := frzs_opds_settle (x := x) e2
        refine ⟨d1 :: ds1, by unfold opds; rw [h1, h3], ?_⟩
        show frz d1 :: frzs ds1 = frz d :: frzs ds'
        rw [h2, h4]
theorem StW.settles : ∀ {xs : List R} {vs : List V} {ow : Ow} {r : Rho} {T : List (D × V)} {ds : List D}, StW G C ow r (T ++ pushs xs vs) s H → LocsOk s xs vs → opds r xs = some ds →
    ∃ ow', StW G C ow' (VL.settles r xs) T s H ∧ (∀ l i, Reps G ow' H (frzs ds) l i vs) ∧ (∀ a, ow a = none → ow' a = none) ∧ ∀ a l, ow' a = some l → ow a = some l
  | [], [], ow, r, T, ds, S, _, e => by
    cases e
    exact ⟨ow, by have z : StW G C ow r T s H := by (simpa [pushs] using S)
                  exact z, fun l i => rfl, fun _ h => h, fun _ _ h => h⟩
  | [], _ :: _, _, _, _, _, _, l, _ => l.elim
  | _ :: _, [], _, _, _, _, _, l, _ => l.elim
  | x :: xs, v :: vs, ow, r, T, ds, S, l, e => by
    unfold opds at e
    cases e1 : opd r x with
    | none => rw [e1] at e; cases e
    | some d =>
      cases e2 : opds r xs with
      | none => rw [e1, e2] at e; cases e
      | some ds' =>
        rw [e1, e2] at e
        cases e
        cases x with
        | val d0 =>
          cases e1
          have S1 := StW.frzTm (T1 := T) (T2 := pushs xs vs) (d := d) (v := v) S
          have S2 : StW G C (VL.free ow (.tm T.length)) r ((T ++ [(frz d, v)]) ++ pushs xs vs) s H := by simpa using S1
          obtain ⟨ow', S3, h1, h2, h3⟩ := StW.settles S2 l.2 e2
          refine ⟨ow', S3.drop, fun l' i => ⟨v, vs, rfl, ?_, h1 _ _⟩, fun a q => h2 a (free_none q), fun a m q => (of_free (h3 a m q)).1⟩
          have z := S3.tm T.length (frz d) v (by simp)
          exact Rep.moveF _ (frz_frz d) (fun a o z q => ⟨z, q⟩) (fun _ _ z _ => z) z
        | loc i =>
          have q := opd_loc e1
          have S1 : StW G C ow r (T ++ pushs xs vs) s H := by simpa [pushs, pushR] using S
          have S2 := S1.frzSl q
          have hs : settle r (.loc i) = r.set i (some (frz d)) := settle_loc q
          obtain ⟨ds1, g1, g2⟩ := frzs_opds_settle (x := .loc i) e2
          rw [hs] at g1
          obtain ⟨ow', S3, h1, h2, h3⟩ := StW.settles S2 l.2 g1
          refine ⟨ow', by show StW G C ow' (VL.settles (settle r (.loc i)) xs) T s H; rw [hs]; exact S3, fun l' j => ⟨v, vs, rfl, ?_, ?_⟩, fun a q => h2 a (free_none q), fun a m q => (of_free (h3 a m q)).1⟩
          · obtain ⟨v', z1, z2⟩ := S2.sl i (frz d) (by rw [List.getElem?_set_self (List.getElem?_eq_some_iff.mp q).1])
            have h' : s[i]? = some (some v) := l.1
            rw [h'] at z1
            cases z1
            exact Rep.moveF _ (frz_frz d) (fun a o z q => ⟨z, h2 a q⟩) (fun _ _ z _ => z) z2
          · rw [g2] at h1
            exact h1 _ _
theorem LocsOk.length {s : L2.St} : ∀ {xs : List R} {vs : List V}, LocsOk s xs vs → xs.length = vs.length
  | [], [], _ => rfl
  | [], _ :: _, l => l.elim
  | _ :: _, [], l => l.elim
  | _ :: xs, _ :: vs, l => by simp [LocsOk.length l.2]

def valsR : List R → Option (List D)
  | [] => some []
  | .val d :: xs => (match valsR xs with
    | some ds => some (d :: ds)
    | none => none)
  | .loc _ :: _ => none
theorem pushs_vals : ∀ {xs : List R} {vs : List V} {ds : List D}, LocsOk s xs vs → valsR xs = some ds → pushs xs vs = ds.zip vs ∧ ds.length = vs.length
  | [], [], _, _, e => by cases e; exact ⟨rfl, rfl⟩
  | [], _ :: _, _, l, _ => l.elim
  | _ :: _, [], _, l, _ => l.elim
  | .val d :: xs, v :: vs, ds, l, e => by
    unfold valsR at e
    cases e2 : valsR xs with
    | none => rw [e2] at e; cases e
    | some ds' =>
      rw [e2] at e
      cases e
      obtain ⟨h1, h2⟩ := pushs_vals l.2 e2
      refine ⟨?_, by simp [h2]⟩
      show [(d, v)] ++ pushs xs vs = _
      rw [h1]
      rfl
  | .loc _ :: _, _ :: _, _, _, e => by cases e
def cLst (fs : Av) : Ev := fun r => (fs r).bd fun xs r1 => match valsR xs with
  | some ds => if ds.length ≤ 16777216 then .ok (.val (.node .lst true ds)) r1 else .bad
  | none => .bad
def cTup (fs : Av) : Ev := fun r => (fs r).bd fun xs r1 => match valsR xs with
  | some ds => if ds.length ≤ 16777216 then .ok (.val (.node .tup false ds)) r1 else .bad
  | none => .bad
theorem ve_lst {es : List Expr} {pos : Pos} (h : VA X G C W es fs) : VE X G C W (.List es pos) (cLst fs) := by
  refine PE.imp (pe_lst h) fun s H Q h => ?_
  obtain ⟨r, T, S, g⟩ := h
  refine many (T2 := []) (by simpa using S) g fun xs vs r1 H1 S1 l1 g1 => ?_
  cases e : valsR xs with
  | none => simp only [e] at g1; exact g1.elim
  | some ds =>
    simp only [e] at g1
    split at g1
    · rename_i hz
      obtain ⟨p1, p2⟩ := pushs_vals l1 e
      rw [p1, List.append_nil] at S1
      exact ⟨by rw [← p2, sizeLine_eq]; exact hz, fun p hp => g1 _ _ ⟨StOk.alloc true S1 p2 hp holds_lst (fun _ => trivial), trivial⟩⟩
    · exact g1.elim
theorem ve_tup {es : List Expr} {k : Nat} {pos : Pos} (h : VA X G C W es fs) : VE X G C W (.Tuple es k pos) (cTup fs) := by
  refine PE.imp (pe_tup h) fun s H Q h => ?_
  obtain ⟨r, T, S, g⟩ := h
  refine many (T2 := []) (by simpa using S) g fun xs vs r1 H1 S1 l1 g1 => ?_
  cases e : valsR xs with
  | none => simp only [e] at g1; exact g1.elim
  | some ds =>
    simp only [e] at g1
    split at g1
    · rename_i hz
      obtain ⟨p1, p2⟩ := pushs_vals l1 e
      rw [p1, List.append_nil] at S1
      exact ⟨by rw [← p2, sizeLine_eq]; exact hz, fun p hp => g1 _ _ ⟨StOk.alloc false S1 p2 hp holds_tup (fun z => nomatch z), trivial⟩⟩
    · exact g1.elim

def CallS (X : Cx) (f : Value) (g : List R → Rho → EO) : Prop := ∃ rr, CallR X f rr ∧ ∀ (G : GX) (hG : G.K = X.K) (C : Fc) (W : WX) (r : Rho) (T : List (D × V)) (s : L2.St) (H : Hp) (xs : List R) (vs : List V) (Q : VK),
  StOk G C r (T ++ pushs xs vs) s H → LocsOk s xs vs → Goes G C W T s Q (g xs r) → rr vs H Q
def cB (g : List R → Rho → EO) (fs : Av) : Ev := fun r => (fs r).bd g
section
variable {x : Str} {p pos : Pos} {e : Expr} {es : List Expr} {id TT : String}
theorem ve_callB {g : List R → Rho → EO} (hK : G.K = X.K) (hc : CallS X (.builtin id) g) (hg : Gl X x) (hm : X.mg x = none) (hv : bootBuiltins x = some (.builtin id)) (ha : VA X G C W (e :: es) fs) (hn : x ≠ "__name__" := by decide) (hdb : (x == ("__debug__" : Str)) = false := by decide)
    (he : starEach (e :: es) X.env = (false, eval e X.env) :: starEach es X.env := by rfl) (hpl : (backTo pos (starEach es X.env)).any (·.1) = false := by rfl) : VE X G C W (.Call (.Name x p) (e :: es) [] pos) (cB g fs) := by
  obtain ⟨rr, h1, h2⟩ := hc
  refine PE.imp (pe_callB h1 hg hm hv ha hn hdb he hpl) fun s H Q h => ?_
  obtain ⟨r, T, S, g⟩ := h
  exact many (T2 := []) (by simpa using S) g fun xs vs r1 H1 S1 l1 g1 => h2 G hK C W r1 T s H1 xs vs Q (by simpa using S1) l1 g1
theorem ve_callTy {g : List R → Rho → EO} (hK : G.K = X.K) (hc : CallS X (.type TT) g) (hg : Gl X x) (hm : X.mg x = none) (hv : bootBuiltins x = some (.type TT)) (ha : VA X G C W (e :: es) fs) (hn : x ≠ "__name__" := by decide) (hdb : (x == ("__debug__" : Str)) = false := by decide)
    (he : starEach (e :: es) X.env = (false, eval e X.env) :: starEach es X.env := by rfl) (hpl : (backTo pos (starEach es X.env)).any (·.1) = false := by rfl) : VE X G C W (.Call (.Name x p) (e :: es) [] pos) (cB g fs) := by
  obtain ⟨rr, h1, h2⟩ := hc
  refine PE.imp (pe_callTy h1 hg hm hv ha hn hdb he hpl) fun s H Q h => ?_
  obtain ⟨r, T, S, g⟩ := h
  exact many (T2 := []) (by simpa using S) g fun xs vs r1 H1 S1 l1 g1 => h2 G hK C W r1 T s H1 xs vs Q (by simpa using S1) l1 g1
end
def b1 (f : D → Option D) : List R → Rho → EO := fun xs r => match xs with
  | [x] => (match opd r x with
    | some d => (match f d with
      | some z => if atom z = true then .ok (.val z) r else .bad
      | none => .bad)
    | none => .bad)
  | _ => .bad
theorem one_arg {x : R} {vs : List V} (l : LocsOk s [x] vs) : ∃ v, vs = [v] ∧ LocOk s v x ∧ pushs [x] vs = pushR x v := by
  cases vs with
  | nil => exact l.elim
  | cons v vs =>
    cases vs with
    | nil => exact ⟨v, rfl, l.1, by simp [pushs]⟩
    | cons _ _ => exact l.2.elim
theorem CallS.scal {f : Value} {rr : List V → Hp → VK → Prop} {g : D → Option D} (h : CallR X f rr)
    (hr : ∀ (G : GX) (hG : G.K = X.K) (ow : Ow) (H : Hp) (d z : D) (l : Loc) (v : V) (Q : VK), Rep G ow H d l v → g d = some z → (∀ w, (∀ ow l, Rep G ow H z l w) → Q w H) → rr [v] H Q) : CallS X f (b1 g) := by
  refine ⟨rr, h, fun G hG C W r T s H xs vs Q S l q => ?_⟩
  unfold b1 at q
  split at q
  · rename_i x
    obtain ⟨v, ev, lx, ep⟩ := one_arg l
    rw [ep] at S
    subst ev
    obtain ⟨ow, S⟩ := S
    cases e1 : opd r x with
    | none => simp only [e1] at q; exact q.elim
    | some d =>
      simp only [e1] at q
      cases e2 : g d with
      | none => simp only [e2] at q; exact q.elim
      | some z =>
        simp only [e2] at q
        split at q
        · rename_i a
          refine hr G hG ow H d z _ v Q (opd_rep (T2 := []) (by rw [List.append_nil]; exact S) lx e1) e2 fun w hw => ?_
          exact q w H ⟨StOk.pushA ⟨ow, S.drop⟩ a hw, trivial⟩
        · exact q.elim
  · exact q.elim
def lenD : D → Option D
  | .node .lst _ xs => some (.int xs.length)
  | .node .rd _ xs => some (.int xs.length)
  | .node .tup _ xs => some (.int xs.length)
  | .str z => if z.length ≤ 16777216 then some (.int z.length) else none
  | _ => none
theorem cs_len : CallS X (.builtin "len") (b1 lenD) := by
  refine CallS.scal call_len fun G hG ow H d z l v Q h e q => ?_
  cases d with
  | node k o xs =>
    obtain ⟨a, vs, ev, h1, h2, h3⟩ := h
    subst ev
    have hl := h3.length
    cases k with
    | lst => cases e; exact ⟨_, vs.length, rfl, .inl ⟨vs, SqL.of h1, rfl⟩, by rw [← hl]; exact q _ fun _ _ => rfl⟩
    | rd => cases e; exact ⟨_, vs.length, rfl, .inl ⟨vs, hG ▸ h1.seq, rfl⟩, by rw [← hl]; exact q _ fun _ _ => rfl⟩
    | tup => cases e; exact ⟨_, vs.length, rfl, .inr ⟨vs, SqT.of h1, rfl⟩, by rw [← hl]; exact q _ fun _ _ => rfl⟩
    | _ => cases e
  | str x =>
    have ev := rep_str h
    subst ev
    simp only [lenD] at e
    split at e
    · cases e; exact ⟨_, x.length, rfl, ⟨by rw [sizeLine_eq]; assumption, rfl⟩, q _ fun _ _ => rfl⟩
    · cases e
  | _ => cases e
def gListOf : List R → Rho → EO := fun xs r => match xs with
  | [x] => (match opd r x with
    | some (.node .lst _ xs) => .ok (.val (.node .lst true (frzs xs))) (touch r x)
    | some (.node .rd _ xs) => .ok (.val (.node .lst true (frzs xs))) (touch r x)
    | some (.node .tup _ xs) => .ok (.val (.node .lst true (frzs xs))) (touch r x)
    | _ => .bad)
  | _ => .bad
theorem cs_list : CallS X (.type "list") gListOf := by
  refine ⟨_, call_list_of, fun G hG C W r T s H xs vs Q S l q => ?_⟩
  unfold gListOf at q
  split at q
  · rename_i x
    obtain ⟨v, ev, lx, ep⟩ := one_arg l
    rw [ep] at S
    subst ev
    obtain ⟨ow, S⟩ := S
    split at q
    · rename_i o xs e1
      obtain ⟨ow', p, vs, S', ev, h1, rx, _⟩ := S.parts lx e1
      subst ev
      exact ⟨p, vs, rfl, .inl (SqL.of h1), S'.made (frzs_frzs xs) (rx ⟨.fo, []⟩) q⟩
    · rename_i o xs e1
      obtain ⟨ow', p, vs, S', ev, h1, rx, _⟩ := S.parts lx e1
      subst ev
      exact ⟨p, vs, rfl, .inl (hG ▸ h1.seq), S'.made (frzs_frzs xs) (rx ⟨.fo, []⟩) q⟩
    · rename_i o xs e1
      obtain ⟨ow', p, vs, S', ev, h1, rx, _⟩ := S.parts lx e1
      subst ev
      exact ⟨p, vs, rfl, .inr (SqT.of h1), S'.made (frzs_frzs xs) (rx ⟨.fo, []⟩) q⟩
    · exact q.elim
  · exact q.elim
def b2 (f : Int → Int → Int) : List R → Rho → EO := fun xs r => match xs with
  | [x, y] => (match opd r x, opd r y with
    | some (.int i), some (.int j) => .ok (.val (.int (f i j))) r
    | _, _ => .bad)
  | _ => .bad
theorem cs_int2 {f : Value} {g : Int → Int → Int} (h : CallR X f (fun xs H Q => ∃ i j, xs = [.int i, .int j] ∧ Q (.int (g i j)) H)) : CallS X f (b2 g) := by
  refine ⟨_, h, fun G hG C W r T s H xs vs Q S l q => ?_⟩
  unfold b2 at q
  split at q
  · rename_i x y
    cases vs with
    | nil => exact l.elim
    | cons v vs =>
      cases vs with
      | nil => exact l.2.elim
      | cons u vs =>
        cases vs with
        | cons _ _ => exact l.2.2.elim
        | nil =>
          obtain ⟨ow, S⟩ := S
          have S' : StW G C ow r (T ++ (pushR x v ++ pushR y u)) s H := by simpa [pushs] using S
          split at q
          · rename_i i j e1 e2
            have a1 := opd_rep S' l.1 e1
            have a2 := opd_rep (T := T ++ pushR x v) (T2 := []) (by rw [List.append_nil, List.append_assoc]; exact S') l.2.1 e2
            exact ⟨i, j, by rw [show v = .int i from a1, show u = .int j from a2], goes_val q ⟨ow, S.drop⟩ rfl fun _ _ => rfl⟩
          · exact q.elim
  · exact q.elim
def gMax2 := b2 fun i j => if j > i then j else i
def gMin2 := b2 fun i j => if j < i then j else i
theorem cs_max2 (hc : X.calm = true) : CallS X (.builtin "max") gMax2 := cs_int2 (call_max2 hc)
def intD : D → Option D
  | .int i => some (.int i)
  | .bl k => some (.int (if k then 1 else 0))
  | _ => none
def intsOf : List D → Option (List Int)
  | [] => some []
  | .int i :: ds => (match intsOf ds with
    | some ns => some (i :: ns)
    | none => none)
  | _ :: _ => none
theorem ints_rep : ∀ {ds : List D} {ns : List Int} {l : Loc} {i : Nat} {vs : List V}, intsOf ds = some ns → Reps G ow H ds l i vs → vs = ns.map V.int
  | [], _, _, _, vs, e, h => by
    cases e
    exact h
  | d :: ds, ns, l, i, vs, e, h => by
    obtain ⟨v, ws, ev, h1, h2⟩ := h
    cases d with
    | int n =>
      unfold intsOf at e
      cases e2 : intsOf ds with
      | none => rw [e2] at e; cases e
      | some ns' =>
        rw [e2] at e
        cases e
        rw [ev, rep_int h1, ints_rep e2 h2]
        rfl
    | _ => cases e
theorem intsOf_map (ns : List Int) : intsOf (ns.map D.int) = some ns := by
  induction ns with
  | nil => rfl
  | cons n ns ih => show (match intsOf (ns.map D.int) with | some ms => some (n :: ms) | none => none) = _; rw [ih]
def sumD : D → Option D
  | .node .lst _ xs => (intsOf xs).map fun ns => .int ns.sum
  | .node .rd _ xs => (intsOf xs).map fun ns => .int ns.sum
  | _ => none
theorem cs_sum (hc : X.calm = true) : CallS X (.builtin "sum") (b1 sumD) := by
  refine CallS.scal (cr_sum hc) fun G hG ow H d z l v Q h e q => ?_
  cases d with
  | node k o xs =>
    obtain ⟨a, vs, ev, h1, h2, h3⟩ := h
    cases k with
    | lst =>
      simp only [sumD] at e
      cases e2 : intsOf xs with
      | none => rw [e2] at e; cases e
      | some ns =>
        rw [e2] at e
        cases e
        exact ⟨a, ns, by rw [ev], by rw [← ints_rep e2 h3]; exact SqL.of h1, q _ fun _ _ => rfl⟩
    | rd =>
      simp only [sumD] at e
      cases e2 : intsOf xs with
      | none => rw [e2] at e; cases e
      | some ns =>
        rw [e2] at e
        cases e
        exact ⟨a, ns, by rw [ev], by rw [← ints_rep e2 h3]; exact hG ▸ h1.seq, q _ fun _ _ => rfl⟩
    | _ => cases e
  | _ => cases e
end
end VL

namespace VL
open PySem PySem.Spec PyProof.Rows L2

inductive SO where
  | nx (r : Rho) | rt (x : R) (r : Rho) | bk (r : Rho) | ct (r : Rho) | exc (c : Nat) (r : Rho) | bad
abbrev Sv := Rho → SO
def EO.st (x : EO) (k : R → Rho → SO) : SO := match x with
  | .ok y r => k y r
  | .exc c r => .exc c r
  | .bad => .bad
@[simp] theorem st_ok (y : R) (r : Rho) (k : R → Rho → SO) : (EO.ok y r).st k = k y r := rfl
@[simp] theorem st_exc (c : Nat) (r : Rho) (k : R → Rho → SO) : (EO.exc c r).st k = .exc c r := rfl
@[simp] theorem st_bad (k : R → Rho → SO) : EO.bad.st k = .bad := rfl
def GoesS (G : GX) (C : Fc) (W : WX) (T : List (D × V)) (D : Ends) (o : SO) : Prop := match o with
  | .nx r' => ∀ s' H', StOk G C r' T s' H' → D.nx s' H'
  | .rt x r' => ∀ s' v H', Post G C r' T s' H' x v → D.rt v H'
  | .bk r' => ∀ s' H', StOk G C r' T s' H' → D.bk s' H'
  | .ct r' => ∀ s' H', StOk G C r' T s' H' → D.ct s' H'
  | .exc c r' => ∀ s' H', StOk G C r' T s' H' → W (.ref (G c)) none s' H'
  | .bad => False
def tVS (G : GX) (C : Fc) (W : WX) (f : Sv) : TS := fun D s H => ∃ r T, StOk G C r T s H ∧ GoesS G C W T D (f r)
abbrev VS (X : Cx) (G : GX) (C : Fc) (W : WX) (st : Stmt) (f : Sv) : Prop := PS X st (tVS G C W f)
abbrev VSs (X : Cx) (G : GX) (C : Fc) (W : WX) (st : List Stmt) (f : Sv) : Prop := PSs X st (tVS G C W f)
section
variable {X : Cx} {G : GX} {C : Fc} {W : WX} {ow ow' : Ow} {r : Rho} {T T1 T2 : List (D × V)} {s : L2.St} {H H' : Hp} {fa fb fc : Ev} {f g : Sv}
theorem PS.imp {st : Stmt} {t t' : TS} (h : PS X st t) (i : ∀ D s H, t' D s H → t D s H) : PS X st t' := ⟨fun pins s σ H D I w => h.run pins s σ H D I (i _ _ _ w)⟩
theorem PSs.imp {st : List Stmt} {t t' : TS} (h : PSs X st t) (i : ∀ D s H, t' D s H → t D s H) : PSs X st t' := ⟨fun pins s σ H D I w => h.run pins s σ H D I (i _ _ _ w)⟩
theorem oneS {k : R → Rho → SO} {D : Ends} {K : V → Hp → Prop} (S : StOk G C r T s H) (h : GoesS G C W T D ((fa r).st k))
    (hk : ∀ x v r1 H1, Post G C r1 T s H1 x v → GoesS G C W T D (k x r1) → K v H1) : tV G C W fa s H K := by
  refine ⟨r, T, S, ?_⟩
  cases e : fa r with
  | ok x r1 => rw [e] at h; exact fun v H1 P => hk x v r1 H1 P h
  | exc c r1 => rw [e] at h; exact fun H' S' => h s H' S'
  | bad => rw [e] at h; exact h

def cSkip : Sv := fun r => .nx r
def SO.sq (x : SO) (g : Sv) : SO := match x with
  | .nx r => g r
  | o => o
@[simp] theorem sq_nx (r : Rho) (g : Sv) : (SO.nx r).sq g = g r := rfl
@[simp] theorem sq_rt (x : R) (r : Rho) (g : Sv) : (SO.rt x r).sq g = .rt x r := rfl
@[simp] theorem sq_bk (r : Rho) (g : Sv) : (SO.bk r).sq g = .bk r := rfl
@[simp] theorem sq_ct (r : Rho) (g : Sv) : (SO.ct r).sq g = .ct r := rfl
@[simp] theorem sq_exc (c : Nat) (r : Rho) (g : Sv) : (SO.exc c r).sq g = .exc c r := rfl
@[simp] theorem sq_bad (g : Sv) : SO.bad.sq g = .bad := rfl
def cSeq (f g : Sv) : Sv := fun r => (f r).sq g
theorem vss_nil : VSs X G C W [] cSkip := PSs.imp pss_nil fun D s H ⟨r, T, S, h⟩ => h s H S
theorem vss_cons {st : Stmt} {rest : List Stmt} (h1 : VS X G C W st f) (h2 : VSs X G C W rest g) : VSs X G C W (st :: rest) (cSeq f g) := by
  refine PSs.imp (pss_cons h1 h2) fun D s H h => ?_
  obtain ⟨r, T, S, h⟩ := h
  refine ⟨r, T, S, ?_⟩
  unfold cSeq at h
  cases e : f r with
  | nx r1 => rw [e] at h; exact fun s' H' S' => ⟨r1, T, S', h⟩
  | rt x r1 => rw [e] at h; exact h
  | bk r1 => rw [e] at h; exact h
  | ct r1 => rw [e] at h; exact h
  | exc c r1 => rw [e] at h; exact h
  | bad => rw [e] at h; exact h
theorem vss_one {st : Stmt} (h1 : VS X G C W st f) : VSs X G C W [st] f := pss_one h1
def cBrk : Sv := fun r => .bk r
def cCnt : Sv := fun r => .ct r
def cExpr (fa : Ev) : Sv := fun r => (fa r).st fun _ r1 => .nx r1
theorem vs_expr {e : Expr} {pos : Pos} (he : VE X G C W e fa) (hs : swapsWith e none pos.line X.env = pure false := by rfl) : VS X G C W (.Expr e pos) (cExpr fa) := by
  refine PS.imp (ps_expr he hs) fun D s H h => ?_
  obtain ⟨r, T, S, h⟩ := h
  exact oneS S h fun x v r1 H1 P h1 => h1 s H1 P.any
def cRet (fa : Ev) : Sv := fun r => (fa r).st fun x r1 => .rt x r1
theorem vs_ret {e : Expr} {pos : Pos} (he : VE X G C W e fa) : VS X G C W (.Return (some e) pos) (cRet fa) := by
  refine PS.imp (ps_ret he) fun D s H h => ?_
  obtain ⟨r, T, S, h⟩ := h
  exact oneS S h fun x v r1 H1 P h1 => h1 s v H1 P
def cIfS (ft : Ev) (f g : Sv) : Sv := fun r => (ft r).st fun x r1 => match x with
  | .val (.bl true) => f r1
  | .val (.bl false) => g r1
  | _ => .bad
theorem vs_if {c : Expr} {a b : List Stmt} {pos : Pos} (hc : VT X G C W c fc) (ha : VSs X G C W a f) (hb : VSs X G C W b g) : VS X G C W (.If c a b pos) (cIfS fc f g) := by
  refine PS.imp (ps_if hc ha hb) fun D s H h => ?_
  obtain ⟨r, T, S, h⟩ := h
  refine ⟨r, T, S, ?_⟩
  unfold cIfS at h
  cases e : fc r with
  | ok x r1 =>
    rw [e] at h
    simp only [st_ok] at h
    cases x with
    | loc i => exact h.elim
    | val d =>
      cases d with
      | bl b =>
        cases b with
        | true => exact fun H' S' => (if_pos rfl).mpr ⟨r1, T, S', h⟩
        | false => exact fun H' S' => (if_neg Bool.false_ne_true).mpr ⟨r1, T, S', h⟩
      | _ => exact h.elim
  | exc c r1 => rw [e] at h; exact fun H' S' => h s H' S'
  | bad => rw [e] at h; exact h

def movedM (ow : Ow) (n i : Nat) : Ow := fun a => match ow a with
  | some ⟨.tm j, p⟩ => if j = n then some ⟨.sl i, p⟩ else if n < j then some ⟨.tm (j - 1), p⟩ else some ⟨.tm j, p⟩
  | some ⟨.sl j, p⟩ => if j = i then none else some ⟨.sl j, p⟩
  | x => x
theorem StW.setM {i : Nat} {d : D} {v : V} (S : StW G C ow r (T ++ (d, v) :: T2) s H) (hp : ∀ p ∈ C.pin, p.1 ≠ i) : StW G C (movedM ow T.length i) (r.set i (some d)) (T ++ T2) (s.set i (some v)) H where
  len := by simpa using S.len
  sl := fun j d' q => by
    by_cases hj : j = i
    · subst hj
      have hlt : j < r.length := by
        have := (List.getElem?_eq_some_iff.mp q).1
        simpa using this
      rw [List.getElem?_set_self hlt] at q
      cases q
      refine ⟨v, by rw [List.getElem?_set_self (by rw [← S.len]; exact hlt)], ?_⟩
      have z := S.tm T.length d v (by simp)
      refine Rep.mono (l := ⟨.tm T.length, []⟩) d (fun _ _ z _ => z) (fun _ _ z _ => z) (fun a o _ n => by unfold movedM; rw [n]) (fun a o q _ n => ?_) z
      have n' : ow a = some ⟨.tm T.length, [] ++ q⟩ := n
      unfold movedM
      rw [n']
      simp [Loc.app]
    · rw [List.getElem?_set_ne (Ne.symm hj)] at q
      obtain ⟨v', h1, h2⟩ := S.sl j d' q
      refine ⟨v', by rw [List.getElem?_set_ne (Ne.symm hj)]; exact h1, ?_⟩
      refine Rep.mono (l := ⟨.sl j, []⟩) d' (fun _ _ z _ => z) (fun _ _ z _ => z) (fun a o _ n => by unfold movedM; rw [n]) (fun a o q _ n => ?_) h2
      have n' : ow a = some ⟨.sl j, [] ++ q⟩ := n
      unfold movedM
      rw [n']
      simp [Loc.app, hj]
  tm := fun k d' v' q => by
    by_cases hk : k < T.length
    · rw [List.getElem?_append_left hk] at q
      have z := S.tm k d' v' (by rw [List.getElem?_append_left hk]; exact q)
      refine Rep.mono (l := ⟨.tm k, []⟩) d' (fun _ _ z _ => z) (fun _ _ z _ => z) (fun a o _ n => by unfold movedM; rw [n]) (fun a o q _ n => ?_) z
      have n' : ow a = some ⟨.tm k, [] ++ q⟩ := n
      unfold movedM
      rw [n']
      have h1 : ¬ k = T.length := by omega
      have h2 : ¬ T.length < k := by omega
      simp [Loc.app, h1, h2]
    · rw [List.getElem?_append_right (by omega)] at q
      have z := S.tm (k + 1) d' v' (by
        rw [List.getElem?_append_right (by omega), show k + 1 - T.length = (k - T.length) + 1 by omega]
        simpa using q)
      refine Rep.mono (l := ⟨.tm (k + 1), []⟩) d' (fun _ _ z _ => z) (fun _ _ z _ => z) (fun a o _ n => by unfold movedM; rw [n]) (fun a o q _ n => ?_) z
      have n' : ow a = some ⟨.tm (k + 1), [] ++ q⟩ := n
      unfold movedM
      rw [n']
      have h1 : ¬ k + 1 = T.length := by omega
      have h2 : T.length < k + 1 := by omega
      simp [Loc.app, h1, h2]
  old := S.old
  own := fun a l q => by
    cases e : ow a with
    | none => unfold movedM at q; rw [e] at q; cases q
    | some m =>
      obtain ⟨mb, mp⟩ := m
      cases mb with
      | fo =>
        unfold movedM at q; rw [e] at q; cases q
        exact .inl rfl
      | sl j => exact (S.own a _ e).elim (fun z => nomatch z) .inr
      | tm j => exact (S.own a _ e).elim (fun z => nomatch z) .inr
  fo := fun a q => by
    have z := S.fo a q
    unfold movedM; rw [z]
  mu := fun a l q => by
    cases e : ow a with
    | none => unfold movedM at q; rw [e] at q; cases q
    | some m => exact S.mu a m e
  pin := fun p hm => by
    rw [List.getElem?_set_ne (Ne.symm (hp p hm))]
    exact S.pin p hm
  tabs := S.tabs
def spread (ow : Ow) (n : Nat) : Ow := fun a => match ow a with
  | some ⟨.tm j, p⟩ => if j < n then some ⟨.tm j, p⟩ else if j = n then (match p with
    | k :: p' => some ⟨.tm (n + k), p'⟩
    | [] => none) else none
  | x => x
theorem StW.spread {k : Kd} {o : Bool} {ds : List D} {v : V} (S : StW G C ow r (T ++ [(.node k o ds, v)]) s H) : ∃ a vs, v = .ref a ∧ Holds G H a k vs ∧ ds.length = vs.length ∧ StW G C (VL.spread ow T.length) r (T ++ ds.zip vs) s H := by
  obtain ⟨a, vs, ev, h1, h2, h3⟩ := S.last
  refine ⟨a, vs, ev, h1, h3.length, S.len, fun i d q => ?_, fun j d v q => ?_, S.old, fun b l q => ?_, fun b q => ?_, fun b l q => ?_, S.pin, S.tabs⟩
  · obtain ⟨v', z1, z2⟩ := S.sl i d q
    refine ⟨v', z1, Rep.mono (l := ⟨.sl i, []⟩) d (fun _ _ z _ => z) (fun _ _ z _ => z) (fun a o _ n => by unfold VL.spread; rw [n]) (fun a o q _ n => ?_) z2⟩
    have n' : ow a = some ⟨.sl i, [] ++ q⟩ := n
    unfold VL.spread
    rw [n']
    rfl
  · by_cases hj : j < T.length
    · rw [List.getElem?_append_left hj] at q
      have z := S.tm j d v (by rw [List.getElem?_append_left hj]; exact q)
      refine Rep.mono (l := ⟨.tm j, []⟩) d (fun _ _ z _ => z) (fun _ _ z _ => z) (fun a o _ n => by unfold VL.spread; rw [n]) (fun a o q _ n => ?_) z
      have n' : ow a = some ⟨.tm j, [] ++ q⟩ := n
      unfold VL.spread
      rw [n']
      simp [Loc.app, hj]
    · rw [List.getElem?_append_right (by omega)] at q
      obtain ⟨q1, q2⟩ := List.getElem?_zip_eq_some.mp q
      obtain ⟨v', z1, z2⟩ := h3.get (j - T.length) d q1
      rw [q2] at z1
      cases z1
      refine Rep.mono (l := Loc.sub ⟨.tm T.length, []⟩ (0 + (j - T.length))) d (fun _ _ z _ => z) (fun _ _ z _ => z) (fun a o _ n => by unfold VL.spread; rw [n]) (fun a o q _ n => ?_) z2
      have n' : ow a = some ⟨.tm T.length, (j - T.length) :: q⟩ := by
        rw [n]; simp [Loc.sub, Loc.app]
      unfold VL.spread
      rw [n']
      simp [Loc.app]
      omega
  · cases e : ow b with
    | none => unfold VL.spread at q; rw [e] at q; cases q
    | some m =>
      obtain ⟨mb, mp⟩ := m
      cases mb with
      | fo =>
        unfold VL.spread at q; rw [e] at q; cases q
        exact .inl rfl
      | sl j => exact (S.own b _ e).elim (fun z => nomatch z) .inr
      | tm j => exact (S.own b _ e).elim (fun z => nomatch z) .inr
  · have z := S.fo b q
    unfold VL.spread; rw [z]
  · cases e : ow b with
    | none => unfold VL.spread at q; rw [e] at q; cases q
    | some m => exact S.mu b m e

inductive Tg where
  | nm (i : Nat) | tp (is : List Nat) | tl (is : List Nat) | tn (i : Nat) (js : List Nat)
def setAll (r : Rho) : List Nat → List D → Rho
  | i :: is, d :: ds => setAll (r.set i (some d)) is ds
  | _, _ => r
def tgt : Tg → D → Rho → Option Rho
  | .nm i, d, r => some (r.set i (some d))
  | .tp is, .node .tup _ ds, r => if is.length = ds.length then some (setAll r is ds) else none
  | .tl is, .node .lst _ ds, r => if is.length = ds.length then some (setAll r is ds) else none
  | .tn i js, .node .tup _ [d, .node .tup _ ds], r => if js.length = ds.length then some (setAll (r.set i (some d)) js ds) else none
  | _, _, _ => none
def Tg.slots : Tg → List Nat
  | .nm i => [i]
  | .tp is => is
  | .tl is => is
  | .tn i js => i :: js
def But (is : List Nat) (s s' : L2.St) : Prop := s'.length = s.length ∧ ∀ j, j ∉ is → s'[j]? = s[j]?
theorem But.refl {is : List Nat} {s : L2.St} : But is s s := ⟨rfl, fun _ _ => rfl⟩
theorem But.set {i : Nat} {x : Option V} {s : L2.St} : But [i] s (s.set i x) := ⟨by simp, fun j h => List.getElem?_set_ne (fun e => h (by simp [e]))⟩
theorem But.cons {i : Nat} {is : List Nat} {x : Option V} {s s' : L2.St} (h : But is (s.set i x) s') : But (i :: is) s s' :=
  ⟨h.1.trans (by simp), fun j n => (h.2 j (fun z => n (List.mem_cons_of_mem _ z))).trans (List.getElem?_set_ne (fun e => n (by simp [e])))⟩
def tVG (G : GX) (C : Fc) (t : Tg) : TG := fun v s H Q => ∃ r T d, StOk G C r (T ++ [(d, v)]) s H ∧ match tgt t d r with
  | some r' => ∀ s' H', StOk G C r' T s' H' → But t.slots s s' → Q s' H'
  | none => False
abbrev VG (X : Cx) (G : GX) (C : Fc) (e : Expr) (t : Tg) : Prop := PG X e (tVG G C t)
theorem PG.imp {e : Expr} {t t' : TG} (h : PG X e t) (i : ∀ v s H Q, t' v s H Q → t v s H Q) : PG X e t' := ⟨fun pins s σ H v u Q I rr w => h.run pins s σ H v u Q I rr (i _ _ _ _ w)⟩
theorem vg_name {i : Nat} {x : Str} {pos : Pos} (hN : X.N.Nodup) (hi : X.N[i]? = some x) (hx : L2.Loc X.env.scope x) (hp : ∀ p ∈ C.pin, p.1 ≠ i) (hf : X.fn x = true ∨ X.env.scope.names.lookup x = some .local := by first | exact .inl rfl | exact .inr rfl | assumption) : VG X G C (.Name x pos) (.nm i) := by
  refine PG.imp (pg_name hN hi hx hf) fun v s H Q h => ?_
  obtain ⟨r, T, d, S, h⟩ := h
  exact h _ _ (S.set hp) But.set
def tVGs (G : GX) (C : Fc) (is : List Nat) : TGs := fun vs s H Q => ∃ r T ds, ds.length = vs.length ∧ is.length = ds.length ∧ StOk G C r (T ++ ds.zip vs) s H ∧ ∀ s' H', StOk G C (setAll r is ds) T s' H' → But is s s' → Q s' H'
abbrev VGs (X : Cx) (G : GX) (C : Fc) (es : List Expr) (is : List Nat) : Prop := PGs X es (tVGs G C is)
theorem vgs_nil : VGs X G C [] [] := by
  refine ⟨fun pins s σ H vs us Q I rr h => pgs_nil.run pins s σ H vs us Q I rr ?_⟩
  obtain ⟨r, T, ds, h1, h2, S, h⟩ := h
  have e1 : ds = [] := List.eq_nil_of_length_eq_zero h2.symm
  subst e1
  have e2 : vs = [] := List.eq_nil_of_length_eq_zero h1.symm
  subst e2
  have S' : StOk G C r T σ H := by simpa using S
  exact ⟨rfl, h _ _ S' But.refl⟩
theorem vgs_cons {i : Nat} {x : Str} {pos : Pos} {es : List Expr} {is : List Nat} (hN : X.N.Nodup) (hi : X.N[i]? = some x) (hx : L2.Loc X.env.scope x) (hp : ∀ p ∈ C.pin, p.1 ≠ i) (h2 : VGs X G C es is)
    (hf : X.fn x = true ∨ X.env.scope.names.lookup x = some .local := by first | exact .inl rfl | exact .inr rfl | assumption)
    (hs : (assignEach (.Name x pos :: es) X.env).map (·.2) = assign (.Name x pos) X.env :: (assignEach es X.env).map (·.2) := by rfl) : VGs X G C (.Name x pos :: es) (i :: is) := by
  refine ⟨fun pins s σ H vs us Q I rr h => (pgs_cons (pg_name hN hi hx hf) h2 hs).run pins s σ H vs us Q I rr ?_⟩
  obtain ⟨r, T, ds, h1, h2, S, h⟩ := h
  cases ds with
  | nil => cases h2
  | cons d ds =>
    cases vs with
    | nil => cases h1
    | cons v vs =>
      refine ⟨v, vs, rfl, r.set i (some d), T, ds, by simpa using h1, by simpa using h2, ?_, fun s' H' S' b => h s' H' S' b.cons⟩
      obtain ⟨ow, S⟩ := S
      exact ⟨_, StW.setM (T := T) (T2 := ds.zip vs) S hp⟩
theorem vg_tup {es : List Expr} {is : List Nat} {k : Nat} {pos : Pos} (hc : X.calm = true) (h : VGs X G C es is)
    (hn : (assignEach es X.env).length = is.length := by rfl) (hst : (assignEach es X.env).findIdx? (·.1) = none := by rfl) : VG X G C (.Tuple es k pos) (.tp is) := by
  refine PG.imp (pg_tup hc h hn hst) fun v s H Q h => ?_
  obtain ⟨r, T, d, S, h⟩ := h
  obtain ⟨ow, S⟩ := S
  cases d with
  | node k o ds =>
    cases k with
    | tup =>
      obtain ⟨a, vs, ev, h1, h2, S'⟩ := S.spread
      by_cases hl : is.length = ds.length
      · have e : tgt (.tp is) (.node .tup o ds) r = some (setAll r is ds) := if_pos hl
        rw [e] at h
        exact ⟨a, vs, ev, SqT.of h1, by rw [← h2]; exact hl.symm, r, T, ds, h2, hl, ⟨_, S'⟩, h⟩
      · have e : tgt (.tp is) (.node .tup o ds) r = none := if_neg hl
        rw [e] at h
        exact h.elim
    | _ => exact h.elim
  | _ => exact h.elim
def asgK (t : Tg) (x : R) (r1 : Rho) : SO := match x with
  | .val d => (match tgt t d r1 with
    | some r2 => .nx r2
    | none => .bad)
  | .loc _ => .bad
@[simp] theorem asgK_nm (i : Nat) (d : D) (r : Rho) : asgK (.nm i) (.val d) r = .nx (r.set i (some d)) := rfl
def cAsg (t : Tg) (fa : Ev) : Sv := fun r => (cSet fa r).st (asgK t)
theorem asg_go {t : Tg} {D : Ends} {v : V} {x : R} {r1 : Rho} {H1 : Hp} (P : Post G C r1 T s H1 x v) (h : GoesS G C W T D (asgK t x r1)) : tVG G C t v s H1 D.nx := by
  cases x with
  | loc i => exact h.elim
  | val d =>
    refine ⟨r1, T, d, P.1, ?_⟩
    unfold asgK at h
    cases e : tgt t d r1 with
    | some r2 => simp only [e] at h ⊢; exact fun s' H' S' _ => h s' H' S'
    | none => simp only [e] at h; exact h.elim
theorem vs_set {i : Nat} {x : Str} {e : Expr} {pos pos' : Pos} (hN : X.N.Nodup) (hi : X.N[i]? = some x) (hx : L2.Loc X.env.scope x) (hp : ∀ p ∈ C.pin, p.1 ≠ i) (he : VE X G C W e fa) (hs : swapsWith e (some (.Name x pos')) pos.line X.env = pure false := by rfl)
    (hf : X.fn x = true ∨ X.env.scope.names.lookup x = some .local := by first | exact .inl rfl | exact .inr rfl | assumption) : VS X G C W (.Assign [.Name x pos'] e pos) (cAsg (.nm i) fa) := by
  refine PS.imp (ps_set hN hi hx (ve_set he) hs hf) fun D s H h => ?_
  obtain ⟨r, T, S, h⟩ := h
  refine oneS (fa := cSet fa) S h fun x v r1 H1 P g => ?_
  cases x with
  | loc i => exact g.elim
  | val d => exact g _ _ (P.1.set hp)

def cAug (i : Nat) (g : G2) (fb : Ev) : Sv := fun r => match r[i]? with
  | some (some d) => if atom d = true then (fb r).st fun y r1 => (g (.val d) y r1).st fun z r2 => match z with
    | .val d' => .nx (r2.set i (some d'))
    | .loc _ => .bad else .bad
  | _ => .bad
theorem vs_aug {i : Nat} {x : Str} {e : Expr} {op : Operator} {g : G2} {pos' pos : Pos} (hN : X.N.Nodup) (hi : X.N[i]? = some x) (hx : L2.Loc X.env.scope x) (hp : ∀ p ∈ C.pin, p.1 ≠ i) (ho : OpS X (inplaceOp op) g) (he : VE X G C W e fb)
    (hf : X.fn x = true ∨ X.env.scope.names.lookup x = some .local := by first | exact .inl rfl | exact .inr rfl | assumption) : VS X G C W (.AugAssign (.Name x pos') op e pos) (cAug i g fb) := by
  obtain ⟨rr, h1, h2⟩ := ho
  refine PS.imp (ps_aug (ti := rr) hN hi hx he h1 hf) fun D s H h => ?_
  obtain ⟨r, T, S, h⟩ := h
  unfold cAug at h
  cases q : r[i]? with
  | none => rw [q] at h; exact h.elim
  | some o =>
    cases o with
    | none => rw [q] at h; exact h.elim
    | some d =>
      rw [q] at h
      simp only at h
      split at h
      · rename_i a
        obtain ⟨ow, S⟩ := S
        obtain ⟨v, q1, q2⟩ := S.sl i d q
        refine ⟨v, q1, ?_⟩
        have S1 : StOk G C r (T ++ [(d, v)]) s H := ⟨ow, S.push (q2.of_atom a)⟩
        refine ⟨r, T ++ [(d, v)], S1, ?_⟩
        cases e : fb r with
        | ok y r1 =>
          rw [e] at h
          simp only [st_ok] at h
          intro u H1 P
          refine h2 G C W r1 T s H1 (.val d) y v u _ (by show StOk G C r1 (T ++ ([(d, v)] ++ pushR y u)) s H1; rw [← List.append_assoc]; exact P.1) trivial P.2 ?_
          cases e2 : g (.val d) y r1 with
          | ok z r2 =>
            rw [e2] at h
            simp only [st_ok] at h
            cases z with
            | loc j => exact h.elim
            | val d' => exact fun w H2 P2 => h _ _ (P2.1.set hp)
          | exc c r2 => rw [e2] at h; exact fun H2 S2 => h s H2 S2
          | bad => rw [e2] at h; exact h.elim
        | exc c r1 => rw [e] at h; exact fun H' S' => h s H' S'.drop
        | bad => rw [e] at h; exact h.elim
      · exact h.elim
def iAdd (d e : D) : Option D := match d, e with
  | .int i, .int j => some (.int (i + j))
  | .str a, .str b => if a.length + b.length ≤ 16777216 then some (.str (a ++ b)) else none
  | _, _ => none
theorem os_iadd : OpS X (inplaceOp .Add) (g2 iAdd) := by
  refine OpS.scal (iop_add.or iop_add_str) fun G ow H d e z l m v u Q h1 h2 e3 q => ?_
  unfold iAdd at e3
  split at e3
  · cases e3
    exact .inl ⟨_, _, h1, h2, q _ fun _ _ => rfl⟩
  · split at e3
    · cases e3
      exact .inr ⟨_, _, h1, h2, by rw [sizeLine_eq]; assumption, q _ fun _ _ => rfl⟩
    · cases e3
  · cases e3

def cRaise (c : Nat) : Sv := fun r => .exc c r
theorem vs_raise {c : Nat} {x m : Str} {j : Nat} {p p2 pos pos' : Pos} (hcm : X.calm = true) (tk : Takes X W) (q : PySem.W.excIn X.K (G c) [.type "ValueError", .type "Exception", .type "BaseException", .type "object"] "ValueError.__new__" = true) (gC : X.mg x = some (.ref (G c))) (kC : PySem.W.keepIn X.K (.ref (G c)) = true)
    (rs : Raises X (.ref (G c))) (hg : Gl X x) (hdb : (x == ("__debug__" : Str)) = false := by decide) : VS X G C W (.Raise (some (.Call (.Name x p) [.Constant (.str m) j p2] [] pos)) none pos') (cRaise c) := by
  refine PS.imp (ps_raise hcm tk (pmk_own PySem.F.excBase_ValueError q gC kC rs hg hdb)) fun D s H h => ?_
  obtain ⟨r, T, S, h⟩ := h
  exact h s H S
end
end VL

namespace VL
open PySem PySem.Spec PyProof.Rows L2
section
variable {X : Cx} {G : GX} {C : Fc} {W : WX} {ow ow' : Ow} {r : Rho} {T T1 T2 : List (D × V)} {s : L2.St} {H H' : Hp} {fa fb fc : Ev} {f g : Sv}

def slid (ow : Ow) (n m : Nat) : Ow := fun a => match ow a with
  | some ⟨.tm j, p⟩ => if j < n then some ⟨.tm j, p⟩ else if j = m then some ⟨.tm n, p⟩ else none
  | x => x
theorem StW.slide {d : D} {v : V} (S : StW G C ow r (T ++ T2 ++ [(d, v)]) s H) : StW G C (slid ow T.length (T.length + T2.length)) r (T ++ [(d, v)]) s H where
  len := S.len
  sl := fun i d q => by
    obtain ⟨v', z1, z2⟩ := S.sl i d q
    refine ⟨v', z1, Rep.mono (l := ⟨.sl i, []⟩) d (fun _ _ z _ => z) (fun _ _ z _ => z) (fun a o _ n => by unfold slid; rw [n]) (fun a o q _ n => ?_) z2⟩
    have n' : ow a = some ⟨.sl i, [] ++ q⟩ := n
    unfold slid
    rw [n']
    rfl
  tm := fun j d' v' q => by
    by_cases hj : j < T.length
    · rw [List.getElem?_append_left hj] at q
      have z := S.tm j d' v' (by rw [List.append_assoc, List.getElem?_append_left hj]; exact q)
      refine Rep.mono (l := ⟨.tm j, []⟩) d' (fun _ _ z _ => z) (fun _ _ z _ => z) (fun a o _ n => by unfold slid; rw [n]) (fun a o q _ n => ?_) z
      have n' : ow a = some ⟨.tm j, [] ++ q⟩ := n
      unfold slid
      rw [n']
      simp [Loc.app, hj]
    · rw [List.getElem?_append_right (by omega)] at q
      have e : j = T.length := by
        have := (List.getElem?_eq_some_iff.mp q).1
        simp at this; omega
      subst e
      simp at q
      obtain ⟨e1, e2⟩ := q
      subst e1; subst e2
      have z := S.tm (T.length + T2.length) d v (by
        rw [List.getElem?_append_right (by simp)]
        simp)
      refine Rep.mono (l := ⟨.tm (T.length + T2.length), []⟩) d (fun _ _ z _ => z) (fun _ _ z _ => z) (fun a o _ n => by unfold slid; rw [n]) (fun a o q _ n => ?_) z
      have n' : ow a = some ⟨.tm (T.length + T2.length), [] ++ q⟩ := n
      have h : ¬ T.length + T2.length < T.length := by omega
      unfold slid
      rw [n']
      simp [Loc.app, h]
  old := S.old
  own := fun a l q => by
    cases e : ow a with
    | none => unfold slid at q; rw [e] at q; cases q
    | some m =>
      obtain ⟨mb, mp⟩ := m
      cases mb with
      | fo =>
        unfold slid at q; rw [e] at q; cases q
        exact .inl rfl
      | sl j => exact (S.own a _ e).elim (fun z => nomatch z) .inr
      | tm j => exact (S.own a _ e).elim (fun z => nomatch z) .inr
  fo := fun a q => by
    have z := S.fo a q
    unfold slid; rw [z]
  mu := fun a l q => by
    cases e : ow a with
    | none => unfold slid at q; rw [e] at q; cases q
    | some m => exact S.mu a m e
  pin := S.pin
  tabs := S.tabs
theorem Post.slide {x : R} {v : V} (P : Post G C r (T ++ T2) s H x v) : Post G C r T s H x v := by
  obtain ⟨⟨ow, S⟩, l⟩ := P
  cases x with
  | val d => exact ⟨⟨_, StW.slide S⟩, l⟩
  | loc i =>
    have S' : StW G C ow r (T ++ T2) s H := by simpa [pushR] using S
    refine ⟨⟨ow, ?_⟩, l⟩
    have z : StW G C ow r T s H := S'.drop
    simpa [pushR] using z

def CurOk (G : GX) (C : Fc) (J : It) (items : List D) (tk : Nat → List (D × V)) : Prop :=
  (∀ (i : Nat) d r T s H, items[i]? = some d → StOk G C r (T ++ tk i) s H → J.go i H ∧ ∀ x H', J.yld i H x H' → StOk G C r (T ++ tk (i + 1) ++ [(d, x)]) s H') ∧
    ∀ r T s H, StOk G C r (T ++ tk items.length) s H → J.stop items.length H
inductive IO where
  | ok (ds : List D) (r : Rho) | exc (c : Nat) (r : Rho) | bad
abbrev Iv := Rho → IO
def tVI (G : GX) (C : Fc) (W : WX) (f : Iv) : TI := fun s H R => ∃ r T, StOk G C r T s H ∧ match f r with
  | .ok ds r' => ∀ J H' tk, CurOk G C J ds tk → StOk G C r' (T ++ tk 0) s H' → R J H'
  | .exc c r' => ∀ H', StOk G C r' T s H' → W (.ref (G c)) none s H'
  | .bad => False
abbrev VI (X : Cx) (G : GX) (C : Fc) (W : WX) (tg e : Expr) (f : Iv) : Prop := PI X tg e (tVI G C W f)
theorem PI.imp {tg e : Expr} {t t' : TI} (h : PI X tg e t) (i : ∀ s H Q, t' s H Q → t s H Q) : PI X tg e t' := ⟨fun pins s σ H R I w => h.run pins s σ H R I (i _ _ _ w)⟩

def forL (t : Tg) (f : Sv) : List D → Rho → SO
  | [], r => .nx r
  | d :: ds, r => match tgt t d r with
    | none => .bad
    | some r1 => (match f r1 with
      | .nx r2 => forL t f ds r2
      | .ct r2 => forL t f ds r2
      | .bk r2 => .nx r2
      | o => o)
def cFor (t : Tg) (fi : Iv) (f : Sv) : Sv := fun r => match fi r with
  | .ok ds r1 => forL t f ds r1
  | .exc c r1 => .exc c r1
  | .bad => .bad
theorem vs_for {tg iter : Expr} {body : List Stmt} {fi : Iv} {t : Tg} {pos : Pos} (hp : PassesOwn (model X.prog X.w) X.A X.env X.xe) (hc : X.calm = true) (hi : VI X G C W tg iter fi) (hg : VG X G C tg t) (hb : VSs X G C W body f)
    (hs : ∀ x, foldedSetIterable iter X.env x = pure x := by intro _; rfl) : VS X G C W (.For tg iter body [] pos) (cFor t fi f) := by
  refine PS.imp (ps_for hp hc hi hg hb hs) fun D s H h => ?_
  obtain ⟨r, T, S, h⟩ := h
  refine ⟨r, T, S, ?_⟩
  unfold cFor at h
  cases e : fi r with
  | exc c r1 => rw [e] at h; exact fun H' S' => h s H' S'
  | bad => rw [e] at h; exact h.elim
  | ok ds r1 =>
    rw [e] at h
    simp only at h
    intro J H1 tk hk S1
    refine ⟨fun i m s' H' => m = ds.length - i ∧ i ≤ ds.length ∧ ∃ r', StOk G C r' (T ++ tk i) s' H' ∧ GoesS G C W T D (forL t f (ds.drop i) r'), ⟨ds.length, by simp, Nat.zero_le _, r1, S1, by simpa using h⟩, ?_⟩
    rintro i m s' H' ⟨rfl, hi', r', S', h'⟩
    by_cases hlt : i < ds.length
    · have ed : ds[i]? = some ds[i] := List.getElem?_eq_getElem hlt
      obtain ⟨k1, k2⟩ := hk.1 i ds[i] r' T s' H' ed S'
      rw [List.drop_eq_getElem_cons hlt] at h'
      refine .inr ⟨k1, fun s2 H2 => ∃ r2, StOk G C r2 (T ++ tk (i + 1)) s2 H2 ∧ GoesS G C W T D (forL t f (ds.drop (i + 1)) r2), fun s2 H2 n2 => ⟨ds.length - (i + 1), by omega, rfl, hlt, n2⟩, fun x H2 y => ?_⟩
      have S2 := k2 x H2 y
      refine ⟨r', T ++ tk (i + 1), ds[i], S2, ?_⟩
      unfold forL at h'
      cases e1 : tgt t ds[i] r' with
      | none => simp only [e1] at h'; exact h'.elim
      | some r2 =>
        simp only [e1] at h' ⊢
        intro s3 H3 S3 _
        refine ⟨r2, T ++ tk (i + 1), S3, ?_⟩
        cases e2 : f r2 with
        | nx r3 => simp only [e2] at h'; exact fun s4 H4 S4 => ⟨r3, S4, h'⟩
        | ct r3 => simp only [e2] at h'; exact fun s4 H4 S4 => ⟨r3, S4, h'⟩
        | bk r3 => simp only [e2] at h'; exact fun s4 H4 S4 => h' s4 H4 S4.drop
        | rt x r3 => simp only [e2] at h'; exact fun s4 v H4 P4 => h' s4 v H4 P4.slide
        | exc c r3 => simp only [e2] at h'; exact fun s4 H4 S4 => h' s4 H4 S4.drop
        | bad => simp only [e2] at h'; exact h'.elim
    · have ei : i = ds.length := by omega
      subst ei
      rw [List.drop_length] at h'
      exact .inl ⟨hk.2 r' T s' H' S', h' s' H' S'.drop⟩

def whileL (ft : Ev) (f : Sv) : Nat → Rho → SO
  | 0, _ => .bad
  | n + 1, r => (ft r).st fun x r1 => match x with
    | .val (.bl true) => (match f r1 with
      | .nx r2 => whileL ft f n r2
      | .ct r2 => whileL ft f n r2
      | .bk r2 => .nx r2
      | o => o)
    | .val (.bl false) => .nx r1
    | _ => .bad
theorem vs_while {c : Expr} {body : List Stmt} {pos : Pos} (n : Nat) (hp : PassesOwn (model X.prog X.w) X.A X.env X.xe) (hc : VT X G C W c fc) (hb : VSs X G C W body f) : VS X G C W (.While c body [] pos) (whileL fc f n) := by
  refine PS.imp (ps_while hp hc hb) fun D s H h => ?_
  obtain ⟨r, T, S, h⟩ := h
  refine ⟨fun m s' H' => ∃ r', StOk G C r' T s' H' ∧ GoesS G C W T D (whileL fc f m r'), ⟨n, r, S, h⟩, ?_⟩
  rintro m s' H' ⟨r', S', h'⟩
  cases m with
  | zero => exact h'.elim
  | succ m =>
    unfold whileL at h'
    refine ⟨r', T, S', ?_⟩
    cases e : fc r' with
    | exc c r1 => rw [e] at h'; exact fun H2 S2 => h' s' H2 S2
    | bad => rw [e] at h'; exact h'.elim
    | ok x r1 =>
      rw [e] at h'
      simp only [st_ok] at h'
      cases x with
      | loc i => exact h'.elim
      | val d =>
        cases d with
        | bl b =>
          cases b with
          | false => exact fun H2 S2 => (if_neg Bool.false_ne_true).mpr (h' s' H2 S2)
          | true =>
            refine fun H2 S2 => (if_pos rfl).mpr ⟨fun s3 H3 => ∃ r3, StOk G C r3 T s3 H3 ∧ GoesS G C W T D (whileL fc f m r3), fun s3 H3 n3 => ⟨m, Nat.lt_succ_self m, n3⟩, r1, T, S2, ?_⟩
            simp only at h'
            cases e2 : f r1 with
            | nx r3 => simp only [e2] at h'; exact fun s4 H4 S4 => ⟨r3, S4, h'⟩
            | ct r3 => simp only [e2] at h'; exact fun s4 H4 S4 => ⟨r3, S4, h'⟩
            | bk r3 => simp only [e2] at h'; exact fun s4 H4 S4 => h' s4 H4 S4
            | rt x r3 => simp only [e2] at h'; exact fun s4 v H4 P4 => h' s4 v H4 P4
            | exc c r3 => simp only [e2] at h'; exact fun s4 H4 S4 => h' s4 H4 S4
            | bad => simp only [e2] at h'; exact h'.elim
        | _ => exact h'.elim

def takenAt (ow : Ow) (n i : Nat) : Ow := fun a => match ow a with
  | some ⟨.tm j, p⟩ => if j = n then (match p with
    | k :: p' => if k = i then some ⟨.tm (n + 1), p'⟩ else some ⟨.tm j, p⟩
    | [] => some ⟨.tm j, p⟩) else some ⟨.tm j, p⟩
  | x => x
def leftAt (ds : List D) (i : Nat) : List D := List.replicate i .any ++ ds.drop i
theorem leftAt_get {ds : List D} {i j : Nat} (hi : i ≤ ds.length) : (leftAt ds i)[j]? = if j < i then some .any else ds[j]? := by
  unfold leftAt
  by_cases h : j < i
  · rw [if_pos h, List.getElem?_append_left (by simpa using h)]
    simp [h]
  · rw [if_neg h, List.getElem?_append_right (by simp; omega), List.length_replicate, List.getElem?_drop]
    congr 1; omega
theorem leftAt_length {ds : List D} {i : Nat} (hi : i ≤ ds.length) : (leftAt ds i).length = ds.length := by
  unfold leftAt; simp; omega
theorem StW.take1 {k : Kd} {o : Bool} {ds : List D} {i : Nat} {d : D} {v : V} (S : StW G C ow r (T ++ [(.node k o (leftAt ds i), v)]) s H) (hd : ds[i]? = some d) :
    ∃ a vs x, v = .ref a ∧ Holds G H a k vs ∧ vs[i]? = some x ∧ StW G C (takenAt ow T.length i) r (T ++ [(.node k o (leftAt ds (i + 1)), v)] ++ [(d, x)]) s H := by
  have hi : i < ds.length := (List.getElem?_eq_some_iff.mp hd).1
  obtain ⟨a, vs, ev, h1, h2, h3⟩ := S.last
  have hl := h3.length
  rw [leftAt_length (by omega)] at hl
  obtain ⟨x, x1, x2⟩ := h3.get i d (by rw [leftAt_get (by omega), if_neg (by omega)]; exact hd)
  refine ⟨a, vs, x, ev, h1, x1, S.len, fun i' d q => ?_, fun j d' v' q => ?_, S.old, fun b l q => ?_, fun b q => ?_, fun b l q => ?_, S.pin, S.tabs⟩
  · obtain ⟨v', z1, z2⟩ := S.sl i' d q
    refine ⟨v', z1, Rep.mono (l := ⟨.sl i', []⟩) d (fun _ _ z _ => z) (fun _ _ z _ => z) (fun a o _ n => by unfold takenAt; rw [n]) (fun a o q _ n => ?_) z2⟩
    have n' : ow a = some ⟨.sl i', [] ++ q⟩ := n
    unfold takenAt
    rw [n']
    rfl
  · by_cases hj : j < T.length
    · rw [List.append_assoc, List.getElem?_append_left hj] at q
      have z := S.tm j d' v' (by rw [List.getElem?_append_left hj]; exact q)
      refine Rep.mono (l := ⟨.tm j, []⟩) d' (fun _ _ z _ => z) (fun _ _ z _ => z) (fun a o _ n => by unfold takenAt; rw [n]) (fun a o q _ n => ?_) z
      have n' : ow a = some ⟨.tm j, [] ++ q⟩ := n
      unfold takenAt
      rw [n']
      have : ¬ j = T.length := by omega
      simp [Loc.app, this]
    · rw [List.append_assoc, List.getElem?_append_right (by omega)] at q
      rcases (show j - T.length = 0 ∨ j - T.length = 1 by
        have := (List.getElem?_eq_some_iff.mp q).1
        simp at this; omega) with e | e
      · rw [e] at q
        simp at q
        obtain ⟨e1, e2⟩ := q
        subst e1; subst e2
        have ej : j = T.length := by omega
        subst ej
        refine ⟨a, vs, ev, h1, ?_, Reps.of_get (by rw [leftAt_length (by omega)]; exact hl) fun m dm vm q1 q2 => ?_⟩
        · rcases h2.cases with hk | h2
          · exact .ofR hk
          refine .mk ?_
          cases o with
          | true =>
            have n' : ow a = some ⟨.tm T.length, []⟩ := by simpa using h2
            unfold takenAt; rw [n']; simp
          | false =>
            have n' : ow a = none := by simpa using h2
            unfold takenAt; rw [n']; simp
        · rw [leftAt_get (by omega)] at q1
          by_cases hm : m < i + 1
          · rw [if_pos hm] at q1
            cases q1
            trivial
          · rw [if_neg hm] at q1
            obtain ⟨vm', z1, z2⟩ := h3.get m dm (by rw [leftAt_get (by omega), if_neg (by omega)]; exact q1)
            rw [q2] at z1
            cases z1
            refine Rep.mono (l := Loc.sub ⟨.tm T.length, []⟩ (0 + m)) dm (fun _ _ z _ => z) (fun _ _ z _ => z) (fun a o _ n => by unfold takenAt; rw [n]) (fun a o q _ n => ?_) z2
            have n' : ow a = some ⟨.tm T.length, m :: q⟩ := by rw [n]; simp [Loc.sub, Loc.app]
            unfold takenAt
            rw [n']
            have : ¬ m = i := by omega
            simp [Loc.app, Loc.sub, this]
      · rw [e] at q
        simp at q
        obtain ⟨e1, e2⟩ := q
        subst e1; subst e2
        have ej : j = T.length + 1 := by omega
        subst ej
        refine Rep.mono (l := Loc.sub ⟨.tm T.length, []⟩ (0 + i)) d (fun _ _ z _ => z) (fun _ _ z _ => z) (fun a o _ n => by unfold takenAt; rw [n]) (fun a o q _ n => ?_) x2
        have n' : ow a = some ⟨.tm T.length, i :: q⟩ := by rw [n]; simp [Loc.sub, Loc.app]
        unfold takenAt
        rw [n']
        simp [Loc.app]
  · cases e : ow b with
    | none => unfold takenAt at q; rw [e] at q; cases q
    | some m =>
      obtain ⟨mb, mp⟩ := m
      cases mb with
      | fo =>
        unfold takenAt at q; rw [e] at q; cases q
        exact .inl rfl
      | sl j => exact (S.own b _ e).elim (fun z => nomatch z) .inr
      | tm j => exact (S.own b _ e).elim (fun z => nomatch z) .inr
  · have z := S.fo b q
    unfold takenAt; rw [z]
  · cases e : ow b with
    | none => unfold takenAt at q; rw [e] at q; cases q
    | some m => exact S.mu b m e
theorem leftAt_zero (ds : List D) : leftAt ds 0 = ds := by unfold leftAt; simp
theorem cur_seq {K : PySem.W.Frag} {k : Kd} {o : Bool} {ds : List D} {a : Addr} (hk : ∀ H vs, Holds G H a k vs → SqL K H a vs) : CurOk G C (Itl K a) ds fun i => [(.node k o (leftAt ds i), .ref a)] := by
  refine ⟨fun i d r T s H hd S => ?_, fun r T s H S => ?_⟩
  · obtain ⟨ow, S⟩ := S
    obtain ⟨a', vs, x, ev, h1, hx, S'⟩ := S.take1 hd
    cases ev
    refine ⟨⟨vs, x, hk H vs h1, hx⟩, fun x' H' y => ?_⟩
    obtain ⟨e, y⟩ := y
    subst e
    have e2 := y vs (hk _ vs h1)
    rw [hx] at e2
    cases e2
    exact ⟨_, S'⟩
  · obtain ⟨ow, S⟩ := S
    obtain ⟨a', vs, ev, h1, h2, h3⟩ := S.last
    cases ev
    refine ⟨vs, hk H vs h1, ?_⟩
    rw [← h3.length, leftAt_length (Nat.le_refl _)]
    exact Nat.le_refl _
def iLst (fa : Ev) : Iv := fun r => match cSet fa r with
  | .ok (.val (.node .lst _ ds)) r1 => .ok ds r1
  | .ok (.val (.node .rd _ ds)) r1 => .ok ds r1
  | .exc c r1 => .exc c r1
  | _ => .bad
theorem vi_list {tg e : Expr} (hK : G.K = X.K) (he : VE X G C W e fa) : VI X G C W tg e (iLst fa) := by
  refine PI.imp (pi_list (ve_set he)) fun s H R h => ?_
  obtain ⟨r, T, S, h⟩ := h
  refine ⟨r, T, S, ?_⟩
  unfold iLst at h
  cases e1 : cSet fa r with
  | exc c r1 => rw [e1] at h; exact h
  | bad => rw [e1] at h; exact h
  | ok x r1 =>
    rw [e1] at h
    intro v H' P
    split at h
    · rename_i ds r' e'
      split at e'
      · rename_i o ds' r'' e''
        cases e'; cases e''
        obtain ⟨ow, S'⟩ := P.1
        obtain ⟨a, vs, ev, h1, h2, h3⟩ := S'.last
        subst ev
        refine ⟨a, rfl, ⟨vs, SqL.of h1⟩, h _ _ _ (cur_seq (k := .lst) (o := o) fun _ _ z => SqL.of z) ?_⟩
        rw [leftAt_zero]
        exact ⟨ow, S'⟩
      · rename_i o ds' r'' e''
        cases e'; cases e''
        obtain ⟨ow, S'⟩ := P.1
        obtain ⟨a, vs, ev, h1, h2, h3⟩ := S'.last
        subst ev
        refine ⟨a, rfl, ⟨vs, hK ▸ h1.seq⟩, h _ _ _ (cur_seq (k := .rd) (o := o) fun _ _ z => hK ▸ z.seq) ?_⟩
        rw [leftAt_zero]
        exact ⟨ow, S'⟩
      · rename_i e''; cases e''
      · cases e'
    · rename_i c r' e'
      split at e'
      · cases e'
      · cases e'
      · rename_i e''; cases e''
      · cases e'
    · exact h.elim
end
end VL

namespace VL
open PySem PySem.Spec PyProof.Rows L2
section
variable {X : Cx} {G : GX} {C : Fc} {W : WX} {ow ow' : Ow} {r : Rho} {T T1 T2 : List (D × V)} {s : L2.St} {H H' : Hp} {fa fb fc : Ev} {f g : Sv} {fs : Av}

def rngD (lo c : Int) (n : Nat) : List D := (List.range n).map fun i => .int (lo + (i : Nat) * c)
theorem rngD_get {lo c : Int} {n i : Nat} {d : D} (h : (rngD lo c n)[i]? = some d) : i < n ∧ d = .int (lo + (i : Nat) * c) := by
  unfold rngD at h
  rw [List.getElem?_map] at h
  cases e : (List.range n)[i]? with
  | none => rw [e] at h; cases h
  | some j =>
    rw [e] at h
    cases h
    obtain ⟨h1, h2⟩ := List.getElem?_eq_some_iff.mp e
    simp at h1 h2
    subst h2
    exact ⟨h1, rfl⟩
theorem rngD_length (lo c : Int) (n : Nat) : (rngD lo c n).length = n := by simp [rngD]
theorem cur_rng {lo : Int} {n : Nat} : CurOk G C (Itr lo n) (rngD lo 1 n) fun _ => [] := by
  refine ⟨fun i d r T s H hd S => ?_, fun r T s H S => by rw [rngD_length]; exact Nat.le_refl n⟩
  obtain ⟨h1, h2⟩ := rngD_get hd
  subst h2
  refine ⟨h1, fun x H' y => ?_⟩
  obtain ⟨e, y⟩ := y
  subst e; subst y
  rw [Int.mul_one]
  exact S.pushI _
def within (i : Int) : Bool := decide (i.natAbs < 2 ^ 62)
theorem within_of {i : Int} (h : within i = true) : -(2 ^ 62) ≤ i ∧ i < 2 ^ 62 := by
  have h : i.natAbs < 2 ^ 62 := of_decide_eq_true h
  omega
def turns (i j c : Int) : Nat := (Builtin.Range.rangeSize i j c).toNat
def rngI1 (r : Rho) (xs : List R) : IO := match opds r xs with
  | some [.int j] => if within j = true then .ok (rngD 0 1 j.toNat) r else .bad
  | _ => .bad
def rngI2 (r : Rho) (xs : List R) : IO := match opds r xs with
  | some [.int i, .int j] => if (within i && within j) = true then .ok (rngD i 1 (j - i).toNat) r else .bad
  | _ => .bad
def rngI3 (r : Rho) (xs : List R) : IO := match opds r xs with
  | some [.int i, .int j, .int c] => if (decide (c ≠ 0) && decide (c.natAbs < 1073741824) && Builtin.Range.small i j c) = true then .ok (rngD i c (turns i j c)) r else .bad
  | _ => .bad
def iRng (g : Rho → List R → IO) (fs : Av) : Iv := fun r => match fs r with
  | .ok xs r1 => g r1 xs
  | .exc c r1 => .exc c r1
  | .bad => .bad
theorem opds_reps : ∀ {xs : List R} {vs : List V} {T : List (D × V)} {ds : List D}, StW G C ow r (T ++ pushs xs vs) s H → LocsOk s xs vs → opds r xs = some ds → ds.all atom = true → ∀ l i, Reps G ow H ds l i vs
  | [], [], _, ds, _, _, e, _, l, i => by cases e; exact rfl
  | [], _ :: _, _, _, _, l, _, _, _, _ => l.elim
  | _ :: _, [], _, _, _, l, _, _, _, _ => l.elim
  | x :: xs, v :: vs, T, ds, S, l, e, a, l', i => by
    unfold opds at e
    cases e1 : opd r x with
    | none => rw [e1] at e; cases e
    | some d =>
      cases e2 : opds r xs with
      | none => rw [e1, e2] at e; cases e
      | some ds' =>
        rw [e1, e2] at e
        cases e
        rw [List.all_cons, Bool.and_eq_true] at a
        have S' : StW G C ow r (T ++ (pushR x v ++ pushs xs vs)) s H := S
        exact ⟨v, vs, rfl, (opd_rep S' l.1 e1).of_atom a.1, opds_reps (T := T ++ pushR x v) (by rw [List.append_assoc]; exact S') l.2 e2 a.2 l' (i + 1)⟩
def GoesI (G : GX) (C : Fc) (W : WX) (T : List (D × V)) (s : L2.St) (R : It → Hp → Prop) (o : IO) : Prop := match o with
  | .ok ds r' => ∀ J H' tk, CurOk G C J ds tk → StOk G C r' (T ++ tk 0) s H' → R J H'
  | .exc c r' => ∀ H', StOk G C r' T s H' → W (.ref (G c)) none s H'
  | .bad => False
theorem tV_rng {gg : Rho → List R → IO} {R : It → Hp → Prop} {K : List V → Hp → Prop} (S : StOk G C r T s H) (h : GoesI G C W T s R (iRng gg fs r)) (hk : ∀ xs vs r1 H1, StOk G C r1 (T ++ pushs xs vs) s H1 → LocsOk s xs vs → GoesI G C W T s R (gg r1 xs) → K vs H1) : tVA G C W fs s H K := by
  refine ⟨r, T, S, ?_⟩
  unfold iRng at h
  cases e : fs r with
  | ok xs r1 => rw [e] at h; exact fun vs H1 S1 l1 => hk xs vs r1 H1 S1 l1 h
  | exc c r1 => rw [e] at h; exact h
  | bad => rw [e] at h; exact h
theorem vi_range1 {tg a : Expr} {p pos : Pos} (hg : Gl X "range") (hm : X.mg "range" = none) (ha : VA X G C W [a] fs) (hs : starEach [a] X.env = [(false, eval a X.env)] := by rfl) : VI X G C W tg (.Call (.Name "range" p) [a] [] pos) (iRng rngI1 fs) := by
  refine PI.imp (pi_range1 hg hm ha hs) fun s H R h => ?_
  obtain ⟨r, T, S, h⟩ := h
  refine tV_rng S h fun xs vs r1 H1 S1 l1 g => ?_
  obtain ⟨ow, S1⟩ := S1
  unfold rngI1 at g
  split at g
  · rename_i j e1
    split at g
    · rename_i hw
      obtain ⟨v, ws, ev, h1, h2⟩ := opds_reps S1 l1 e1 rfl ⟨.fo, []⟩ 0
      have e2 : ws = [] := h2
      subst e2
      obtain ⟨w1, w2⟩ := within_of hw
      exact ⟨j, by rw [ev, rep_int h1], w1, w2, g _ _ _ cur_rng ⟨ow, by simpa using S1.drop⟩⟩
    · exact g.elim
  · exact g.elim
def W0 : WX := fun _ _ _ _ => False
def wipeR (r : Rho) : List Nat → Rho
  | [] => r
  | v :: vs => (wipeR r vs).set v none
inductive LO where
  | ok (acc : List D) (r : Rho) | bad
def tstR (fc : Option Ev) : Ev := fun r => match fc with
  | none => .ok (.val (.bl true)) r
  | some f => f r
def lcL (t : Tg) (fc : Option Ev) (fe : Ev) (vs : List Nat) : List D → List D → Rho → LO
  | [], acc, r => .ok acc r
  | d :: ds, acc, r => match tgt t d r with
    | none => .bad
    | some r1 => (match tstR fc r1 with
      | .ok (.val (.bl true)) r2 => (match cSet fe r2 with
        | .ok (.val e) r3 => if acc.length < 16777216 then lcL t fc fe vs ds (acc ++ [e]) (wipeR r3 vs) else .bad
        | _ => .bad)
      | .ok (.val (.bl false)) r2 => lcL t fc fe vs ds acc (wipeR r2 vs)
      | _ => .bad)
def backR (r0 r : Rho) : List Nat → Rho
  | [] => r
  | v :: vs => (backR r0 r vs).set v (match r0[v]? with
    | some (some d) => if atom d = true then (match d with
      | .exc _ => none
      | .any => none
      | d => some d) else none
    | _ => none)
def cLc (vs : List Nat) (t : Tg) (fi : Iv) (fc : Option Ev) (fe : Ev) : Ev := fun r => match fi r with
  | .ok ds r1 => (match lcL t fc fe vs ds [] (wipeR r1 vs) with
    | .ok acc r2 => .ok (.val (.node .lst true acc)) (backR r1 r2 vs)
    | .bad => .bad)
  | .exc c r1 => .exc c r1
  | .bad => .bad
theorem StW.wipes (S : StW G C ow r T s H) : ∀ {vs : List Nat}, (∀ p ∈ C.pin, p.1 ∉ vs) → StW G C ow (wipeR r vs) T (wipe s vs) H
  | [], _ => S
  | v :: vs, hp => by
    have S' := S.wipes (vs := vs) fun p hm z => hp p hm (List.mem_cons_of_mem _ z)
    have hv : ∀ p ∈ C.pin, p.1 ≠ v := fun p hm e => hp p hm (by rw [e]; exact List.mem_cons_self)
    show StW G C ow ((wipeR r vs).set v none) T ((wipe s vs).set v none) H
    refine ⟨by simpa using S'.len, fun j d q => ?_, S'.tm, S'.old, S'.own, S'.fo, S'.mu, fun p hm => ?_, S'.tabs⟩
    · by_cases hj : j = v
      · subst hj
        by_cases hlt : j < (wipeR r vs).length
        · rw [List.getElem?_set_self hlt] at q; cases q
        · rw [List.getElem?_eq_none (by simpa using hlt)] at q; cases q
      · rw [List.getElem?_set_ne (Ne.symm hj)] at q
        obtain ⟨v', h1, h2⟩ := S'.sl j d q
        exact ⟨v', by rw [List.getElem?_set_ne (Ne.symm hj)]; exact h1, h2⟩
    · rw [List.getElem?_set_ne (Ne.symm (hv p hm))]
      exact S'.pin p hm
theorem wipe_out' {s : L2.St} {i : Nat} : ∀ {vs : List Nat}, i ∉ vs → (wipe s vs)[i]? = s[i]?
  | [], _ => rfl
  | v :: vs, h => by
    have h1 : v ≠ i := fun e => h (by rw [e]; exact List.mem_cons_self)
    have h2 : i ∉ vs := fun m => h (List.mem_cons_of_mem _ m)
    unfold wipe
    rw [List.getElem?_set_ne h1]
    exact wipe_out' h2
theorem wipe_in {s : L2.St} {i : Nat} (hi : i < s.length) : ∀ {vs : List Nat}, i ∈ vs → (wipe s vs)[i]? = some none
  | v :: vs, h => by
    unfold wipe
    by_cases hv : v = i
    · subst hv
      rw [List.getElem?_set_self (by rw [wipe_length]; exact hi)]
    · rw [List.getElem?_set_ne hv]
      exact wipe_in hi ((List.mem_cons.mp h).resolve_left (fun e => hv e.symm))
theorem wipe_but {is vs : List Nat} {s s' : L2.St} (b : But is (wipe s vs) s') (h : ∀ i ∈ is, i ∈ vs) : wipe s' vs = wipe s vs := by
  apply List.ext_getElem?
  intro j
  by_cases hj : j ∈ vs
  · by_cases hlt : j < s.length
    · rw [wipe_in hlt hj, wipe_in (by rw [b.1, wipe_length]; exact hlt) hj]
    · rw [List.getElem?_eq_none (by rw [wipe_length, b.1, wipe_length]; omega), List.getElem?_eq_none (by rw [wipe_length]; omega)]
  · rw [wipe_out' hj, b.2 j (fun z => hj (h j z))]
theorem StW.back {r0 : Rho} {T0 : List (D × V)} {ow0 : Ow} {H0 : Hp} {vs : List Nat} (S0 : StW G C ow0 r0 T0 s H0) (S : StW G C ow (wipeR r vs) T (wipe s vs) H) : StW G C ow (backR r0 (wipeR r vs) vs) T s H := by
  have blen : ∀ ws : List Nat, (backR r0 (wipeR r vs) ws).length = (wipeR r vs).length := by
    intro ws
    induction ws with
    | nil => rfl
    | cons w ws ih => unfold backR; rw [List.length_set, ih]
  have bget : ∀ (ws : List Nat) (j : Nat) (d : D), (backR r0 (wipeR r vs) ws)[j]? = some (some d) → (wipeR r vs)[j]? = some (some d) ∨ (r0[j]? = some (some d) ∧ atom d = true ∧ (∀ c, d ≠ .exc c) ∧ d ≠ .any) := by
    intro ws
    induction ws with
    | nil => exact fun j d q => .inl q
    | cons w ws ih =>
      intro j d q
      unfold backR at q
      by_cases hj : w = j
      · subst hj
        by_cases hlt : w < (backR r0 (wipeR r vs) ws).length
        · rw [List.getElem?_set_self hlt] at q
          have q := Option.some.inj q
          split at q
          · rename_i d' e
            split at q
            · rename_i a
              split at q
              · cases q
              · cases q
              · rename_i n1 n2
                cases q
                exact .inr ⟨e, a, fun c z => n1 c z, fun z => n2 z⟩
            · cases q
          · cases q
        · rw [List.getElem?_eq_none (by simpa using hlt)] at q; cases q
      · rw [List.getElem?_set_ne hj] at q
        exact ih j d q
  refine ⟨by rw [blen, S.len, wipe_length], fun j d q => ?_, S.tm, S.old, S.own, S.fo, S.mu, fun p hm => ?_, S.tabs⟩
  · rcases bget vs j d q with q | ⟨q, a, n1, n2⟩
    · obtain ⟨v, h1, h2⟩ := S.sl j d q
      exact ⟨v, (wipe_some h1).1, h2⟩
    · obtain ⟨v, h1, h2⟩ := S0.sl j d q
      refine ⟨v, h1, ?_⟩
      cases d with
      | any => exact absurd rfl n2
      | exc c => exact absurd rfl (n1 c)
      | node k o xs => cases a
      | _ => exact h2
  · exact (wipe_some (S.pin p hm)).1
def appAt (ow : Ow) (n k : Nat) : Ow := fun a => match ow a with
  | some ⟨.tm j, p⟩ => if j = n + 1 then some ⟨.tm n, k :: p⟩ else some ⟨.tm j, p⟩
  | x => x
theorem StW.appT {acc : List D} {d : D} {a : Addr} {v : V} (S : StW G C ow r (T ++ [(.node .lst true acc, .ref a), (d, v)]) s H) : ∃ vs, H a = some (.lst vs) ∧ vs.length = acc.length ∧ StW G C (appAt ow T.length acc.length) r (T ++ [(.node .lst true (acc ++ [d]), .ref a)]) s (upd H a (.lst (vs ++ [v]))) := by
  have z0 := S.tm T.length (.node .lst true acc) (.ref a) (by simp)
  obtain ⟨a', vs, ev, h1, h2, h3⟩ := z0
  cases ev
  have h1 : H a = some (.lst vs) := h1
  have h2 : ow a = some ⟨.tm T.length, []⟩ := by simpa [OwnAt] using h2
  have zd := S.tm (T.length + 1) d v (by rw [List.getElem?_append_right (by omega)]; simp)
  have ne : ∀ (b : Addr) (l : Loc) (q : List Nat), ow b = none ∨ (∃ q, ow b = some (l.app q)) → l.b ≠ .tm T.length ∨ l.p ≠ [] → b ≠ a := fun b l _ hb hl e => by
    subst e
    rw [h2] at hb
    rcases hb with hb | ⟨q, hb⟩
    · cases hb
    · have hb := Option.some.inj hb
      unfold Loc.app at hb
      injection hb with e1 e2
      rcases hl with hl | hl
      · exact hl e1.symm
      · exact hl (List.append_eq_nil_iff.mp e2.symm).1
  have exn : ∀ (b : Addr) (o : HO), H b = some o → ¬ OwnO (some o) → upd H a (.lst (vs ++ [v])) b = some o := fun b o z n => by
    rw [upd_ne (fun e => by rw [e, h1] at z; cases z; exact n trivial)]; exact z
  refine ⟨vs, h1, h3.length.symm, S.len, fun i d' q => ?_, fun j d' v' q => ?_, fun b o n q => ?_, fun b l q => ?_, fun b q => ?_, fun b l q => ?_, S.pin, tabs_own S.tabs h1 trivial⟩
  · obtain ⟨v', z1, z2⟩ := S.sl i d' q
    refine ⟨v', z1, Rep.mono (l := ⟨.sl i, []⟩) d' (fun b o z y => by rw [upd_ne (ne b ⟨.sl i, []⟩ [] y (.inl (fun z => nomatch z)))]; exact .inl z) (fun b o z n => exn b o z n) (fun a o _ n => by unfold appAt; rw [n]) (fun a o q _ n => ?_) z2⟩
    have n' : ow a = some ⟨.sl i, [] ++ q⟩ := n
    unfold appAt
    rw [n']
    rfl
  · by_cases hj : j < T.length
    · rw [List.getElem?_append_left hj] at q
      have z := S.tm j d' v' (by rw [List.getElem?_append_left hj]; exact q)
      refine Rep.mono (l := ⟨.tm j, []⟩) d' (fun b o z y => by rw [upd_ne (ne b ⟨.tm j, []⟩ [] y (.inl (fun z => by injection z with z; omega)))]; exact .inl z) (fun b o z n => exn b o z n) (fun a o _ n => by unfold appAt; rw [n]) (fun a o q _ n => ?_) z
      have n' : ow a = some ⟨.tm j, [] ++ q⟩ := n
      unfold appAt
      rw [n']
      have : ¬ j = T.length + 1 := by omega
      simp [Loc.app, this]
    · rw [List.getElem?_append_right (by omega)] at q
      have e : j = T.length := by
        have := (List.getElem?_eq_some_iff.mp q).1
        simp at this; omega
      subst e
      simp at q
      obtain ⟨e1, e2⟩ := q
      subst e1; subst e2
      refine ⟨a, vs ++ [v], rfl, upd_same, .mk ?_, Reps.of_get (by simp [h3.length]) fun m dm vm q1 q2 => ?_⟩
      · unfold appAt; rw [h2]; simp
      · by_cases hm : m < acc.length
        · rw [List.getElem?_append_left hm] at q1
          rw [List.getElem?_append_left (by rw [← h3.length]; exact hm)] at q2
          obtain ⟨vm', y1, y2⟩ := h3.get m dm q1
          rw [q2] at y1
          cases y1
          refine Rep.mono (l := Loc.sub ⟨.tm T.length, []⟩ (0 + m)) dm (fun b o z y => by rw [upd_ne (ne b (Loc.sub ⟨.tm T.length, []⟩ (0 + m)) [] y (.inr (by simp [Loc.sub])))]; exact .inl z) (fun b o z n => exn b o z n) (fun a o _ n => by unfold appAt; rw [n]) (fun a o q _ n => ?_) y2
          have n' : ow a = some ⟨.tm T.length, m :: q⟩ := by rw [n]; simp [Loc.sub, Loc.app]
          unfold appAt
          rw [n']
          simp [Loc.app, Loc.sub]
        · rw [List.getElem?_append_right (by omega)] at q1
          rw [List.getElem?_append_right (by rw [← h3.length]; omega), ← h3.length] at q2
          have em : m = acc.length := by
            have := (List.getElem?_eq_some_iff.mp q1).1
            simp at this; omega
          subst em
          simp at q1 q2
          subst q1; subst q2
          refine Rep.mono (l := ⟨.tm (T.length + 1), []⟩) d (fun b o z y => by rw [upd_ne (ne b ⟨.tm (T.length + 1), []⟩ [] y (.inl (fun z => by injection z with z; omega)))]; exact .inl z) (fun b o z n => exn b o z n) (fun a o _ n => by unfold appAt; rw [n]) (fun a o q _ n => ?_) zd
          have n' : ow a = some ⟨.tm (T.length + 1), [] ++ q⟩ := n
          unfold appAt
          rw [n']
          simp [Loc.app, Loc.sub]
  · by_cases hb : b = a
    · subst hb
      have z := S.old b o n q
      rcases S.own b _ h2 with z2 | z2 | z2
      · cases z2
      · rw [z2] at q; cases q
      · exact absurd z2 n
    · rw [upd_ne hb]; exact S.old b o n q
  · cases e : ow b with
    | none => unfold appAt at q; rw [e] at q; cases q
    | some m =>
      obtain ⟨mb, mp⟩ := m
      cases mb with
      | fo =>
        unfold appAt at q; rw [e] at q; cases q
        exact .inl rfl
      | sl j => exact (S.own b _ e).elim (fun z => nomatch z) .inr
      | tm j => exact (S.own b _ e).elim (fun z => nomatch z) .inr
  · have z := S.fo b q
    unfold appAt; rw [z]
  · by_cases hb : b = a
    · subst hb; rw [upd_same]; trivial
    · rw [upd_ne hb]
      cases e : ow b with
      | none => unfold appAt at q; rw [e] at q; cases q
      | some m => exact S.mu b m e
def permT (ow : Ow) (f : Nat → Nat) : Ow := fun a => match ow a with
  | some ⟨.tm j, p⟩ => some ⟨.tm (f j), p⟩
  | x => x
theorem StW.perm {f : Nat → Nat} (S : StW G C ow r T1 s H) (hf : ∀ (j : Nat) (p : D × V), T2[j]? = some p → ∃ i, T1[i]? = some p ∧ f i = j) : StW G C (permT ow f) r T2 s H where
  len := S.len
  sl := fun i d q => by
    obtain ⟨v', z1, z2⟩ := S.sl i d q
    refine ⟨v', z1, Rep.mono (l := ⟨.sl i, []⟩) d (fun _ _ z _ => z) (fun _ _ z _ => z) (fun a o _ n => by unfold permT; rw [n]) (fun a o q _ n => ?_) z2⟩
    have n' : ow a = some ⟨.sl i, [] ++ q⟩ := n
    unfold permT
    rw [n']
    rfl
  tm := fun j d v q => by
    obtain ⟨i, h1, h2⟩ := hf j (d, v) q
    refine Rep.mono (l := ⟨.tm i, []⟩) d (fun _ _ z _ => z) (fun _ _ z _ => z) (fun a o _ n => by unfold permT; rw [n]) (fun a o q _ n => ?_) (S.tm i d v h1)
    have n' : ow a = some ⟨.tm i, [] ++ q⟩ := n
    unfold permT
    rw [n']
    simp [Loc.app, h2]
  old := S.old
  own := fun a l q => by
    cases e : ow a with
    | none => unfold permT at q; rw [e] at q; cases q
    | some m =>
      obtain ⟨mb, mp⟩ := m
      cases mb with
      | fo =>
        unfold permT at q; rw [e] at q; cases q
        exact .inl rfl
      | sl j => exact (S.own a _ e).elim (fun z => nomatch z) .inr
      | tm j => exact (S.own a _ e).elim (fun z => nomatch z) .inr
  fo := fun a q => by
    have z := S.fo a q
    unfold permT; rw [z]
  mu := fun a l q => by
    cases e : ow a with
    | none => unfold permT at q; rw [e] at q; cases q
    | some m => exact S.mu a m e
  pin := S.pin
  tabs := S.tabs
theorem StOk.swap {A B : List (D × V)} (S : StOk G C r (T ++ (A ++ B)) s H) : StOk G C r (T ++ (B ++ A)) s H := by
  obtain ⟨ow, S⟩ := S
  refine ⟨_, S.perm (f := fun i => if i < T.length then i else if i < T.length + A.length then i + B.length else i - A.length) fun j p q => ?_⟩
  by_cases h1 : j < T.length
  · refine ⟨j, ?_, if_pos h1⟩
    rw [List.getElem?_append_left h1] at q ⊢
    exact q
  · rw [List.getElem?_append_right (by omega)] at q
    by_cases h2 : j < T.length + B.length
    · rw [List.getElem?_append_left (by omega)] at q
      refine ⟨j + A.length, ?_, ?_⟩
      · rw [List.getElem?_append_right (by omega), List.getElem?_append_right (by omega), show j + A.length - T.length - A.length = j - T.length by omega]
        exact q
      · rw [if_neg (by omega), if_neg (by omega)]
        omega
    · rw [List.getElem?_append_right (by omega)] at q
      have hlt := (List.getElem?_eq_some_iff.mp q).1
      refine ⟨j - B.length, ?_, ?_⟩
      · rw [List.getElem?_append_right (by omega), List.getElem?_append_left (by omega), show j - B.length - T.length = j - T.length - B.length by omega]
        exact q
      · show (if j - B.length < T.length then j - B.length else if j - B.length < T.length + A.length then j - B.length + B.length else j - B.length - A.length) = j
        rw [if_neg (by omega), if_pos (by omega)]
        omega
abbrev VTs (X : Cx) (G : GX) (C : Fc) (W : WX) (ifs : List Expr) (fc : Option Ev) : Prop := PTs X ifs (tVT G C W (tstR fc))
theorem vts_nil : VTs X G C W [] none := by
  refine ⟨fun pins s σ H Q I h => pts_nil.run pins s σ H Q I ?_⟩
  obtain ⟨r, T, S, h⟩ := h
  exact h _ S
theorem vts_one {c : Expr} (h : VT X G C W c fc) : VTs X G C W [c] (some fc) := pts_one h
theorem lc_go {vs : List Nat} {t : Tg} {fi : Iv} {fc : Option Ev} {fe : Ev} {Q : VK} (hpin : ∀ p ∈ C.pin, p.1 ∉ vs) (ht : ∀ i ∈ t.slots, i ∈ vs) (h : tV G C W (cLc vs t fi fc fe) s H Q) :
    tLc (tVI G C W fi) (tVG G C t) (tVT G C W0 (tstR fc)) (tV G C W0 (cSet fe)) vs s H Q := by
  obtain ⟨r, T, S, h⟩ := h
  refine ⟨r, T, S, ?_⟩
  have h : Goes G C W T s Q (cLc vs t fi fc fe r) := h
  unfold cLc at h
  cases e : fi r with
  | exc c r1 => simp only [e] at h; exact h
  | bad => simp only [e] at h; exact h.elim
  | ok ds r1 =>
    simp only [e] at h
    intro J H1 tk hk S1 da hD
    have pins : ∀ {r' : Rho} {T' : List (D × V)} {s' : L2.St} {H' : Hp}, StOk G C r' T' s' H' → StOk G C (wipeR r' vs) T' (wipe s' vs) H' := fun {r' T' s' H'} ⟨ow', S'⟩ => ⟨ow', S'.wipes hpin⟩
    cases eL : lcL t fc fe vs ds [] (wipeR r1 vs) with
    | bad => rw [eL] at h; exact h.elim
    | ok acc r2 =>
      simp only [eL] at h
      -- the list is laid ahead of what is walked
      have S2 : StOk G C (wipeR r1 vs) (T ++ ([(.node .lst true [], .ref da)] ++ tk 0)) (wipe s vs) (upd H1 da (.lst [])) := by
        have z : StOk G C r1 ((T ++ tk 0) ++ [(.node .lst true [], .ref da)]) s (upd H1 da (.lst [])) := StOk.alloc (ds := []) (vs := []) true (by simpa using S1) rfl hD holds_lst (fun _ => trivial)
        rw [List.append_assoc] at z
        exact pins z.swap
      refine ⟨fun i m H' => m = ds.length - i ∧ i ≤ ds.length ∧ ∃ ac r', StOk G C (wipeR r' vs) (T ++ ([(.node .lst true ac, .ref da)] ++ tk i)) (wipe s vs) H' ∧ lcL t fc fe vs (ds.drop i) ac (wipeR r' vs) = .ok acc r2,
        ⟨ds.length, by simp, Nat.zero_le _, [], r1, S2, by simpa using eL⟩, ?_⟩
      rintro i m H' ⟨rfl, hi', ac, r', S', h'⟩
      rw [← List.append_assoc] at S'
      by_cases hlt : i < ds.length
      · have ed : ds[i]? = some ds[i] := List.getElem?_eq_getElem hlt
        obtain ⟨k1, k2⟩ := hk.1 i ds[i] _ _ _ H' ed S'
        rw [List.drop_eq_getElem_cons hlt] at h'
        refine .inr ⟨k1, fun H' => i + 1 ≤ ds.length ∧ ∃ ac r', StOk G C (wipeR r' vs) (T ++ ([(.node .lst true ac, .ref da)] ++ tk (i + 1))) (wipe s vs) H' ∧ lcL t fc fe vs (ds.drop (i + 1)) ac (wipeR r' vs) = .ok acc r2,
          fun H2 n2 => ⟨ds.length - (i + 1), by omega, rfl, n2.1, n2.2⟩, fun x H2 y => ?_⟩
        have S3 := k2 x H2 y
        refine ⟨_, _, ds[i], S3, ?_⟩
        unfold lcL at h'
        cases e1 : tgt t ds[i] (wipeR r' vs) with
        | none => simp only [e1] at h'; cases h'
        | some r3 =>
          simp only [e1] at h' ⊢
          intro s4 H4 S4 b4
          have hw : wipe s4 vs = wipe s vs := wipe_but b4 ht
          refine ⟨hw, _, _, S4, ?_⟩
          cases e2 : tstR fc r3 with
          | exc c r4 => simp only [e2] at h'; cases h'
          | bad => simp only [e2] at h'; cases h'
          | ok xb r4 =>
            simp only [e2] at h' ⊢
            cases xb with
            | loc _ => cases h'
            | val db =>
              cases db with
              | bl b =>
                cases b with
                | false =>
                  intro H5 S5
                  rw [if_neg Bool.false_ne_true]
                  have S6 := pins S5
                  rw [hw] at S6
                  rw [List.append_assoc] at S6
                  exact ⟨hlt, ac, r4, S6, h'⟩
                | true =>
                  intro H5 S5
                  rw [if_pos rfl]
                  refine ⟨_, _, S5, ?_⟩
                  simp only at h'
                  cases e3 : cSet fe r4 with
                  | exc c r5 => simp only [e3] at h'; cases h'
                  | bad => simp only [e3] at h'; cases h'
                  | ok xe r5 =>
                    cases xe with
                    | loc _ => simp only [e3] at h'; cases h'
                    | val d =>
                      simp only [e3] at h'
                      split at h'
                      · rename_i hz
                        intro yv H6 P6
                        have S6 : StOk G C r5 (T ++ [(.node .lst true ac, .ref da)] ++ tk (i + 1) ++ [(d, yv)]) s4 H6 := P6.1
                        have S7 : StOk G C r5 (T ++ (([(.node .lst true ac, .ref da)] ++ tk (i + 1)) ++ [(d, yv)])) s4 H6 := by simpa [List.append_assoc] using S6
                        have S8 : StOk G C r5 ((T ++ tk (i + 1)) ++ [(.node .lst true ac, .ref da), (d, yv)]) s4 H6 := by
                          have z : StOk G C r5 (T ++ ([(.node .lst true ac, .ref da)] ++ (tk (i + 1) ++ [(d, yv)]))) s4 H6 := by simpa [List.append_assoc] using S6
                          have z2 : StOk G C r5 ((T ++ tk (i + 1)) ++ ([(d, yv)] ++ [(.node .lst true ac, .ref da)])) s4 H6 := by simpa [List.append_assoc] using z.swap
                          exact z2.swap
                        obtain ⟨ow8, S8⟩ := S8
                        obtain ⟨vs', q1, q2, S9⟩ := S8.appT
                        refine ⟨vs', q1, by rw [q2, sizeLine_eq]; exact hz, hlt, ac ++ [d], r5, ?_, h'⟩
                        have S10 : StOk G C r5 (T ++ (tk (i + 1) ++ [(.node .lst true (ac ++ [d]), .ref da)])) s4 (upd H6 da (.lst (vs' ++ [yv]))) := ⟨_, by rw [← List.append_assoc]; exact S9⟩
                        have S11 := pins S10.swap
                        rw [hw] at S11
                        exact S11
                      · cases h'
              | _ => cases h'
      · have ei : i = ds.length := by omega
        subst ei
        rw [List.drop_length] at h'
        unfold lcL at h'
        injection h' with e1 e2
        subst e1
        subst e2
        refine .inl ⟨hk.2 _ _ _ H' S', ?_⟩
        have S3 : StOk G C (wipeR r' vs) (T ++ [(.node .lst true ac, .ref da)]) (wipe s vs) H' := S'.drop
        obtain ⟨ow0, S0⟩ := S1
        obtain ⟨ow3, S3⟩ := S3
        exact h _ _ ⟨⟨ow3, S0.back S3⟩, trivial⟩
end
end VL

namespace VL
open PySem PySem.Spec PyProof.Rows L2
section
variable {X : Cx} {G : GX} {C : Fc} {W : WX} {ow ow' : Ow} {r : Rho} {T T1 T2 : List (D × V)} {s : L2.St} {H H' : Hp} {fa fb fc : Ev} {f g : Sv} {fs : Av}
theorem ve_lc {elt tg iter : Expr} {ifs : List Expr} {scope : Scope} {own : List (Str × Nat)} {pos : Pos} {fi : Iv} {t : Tg} {ft : Option Ev} {fe : Ev} (hc : X.calm = true) (hN : X.N.Nodup) (hi : VI X G C W tg iter fi) (ok : BlkOk X.N X.env.scope scope own)
    (hpin : ∀ p ∈ C.pin, p.1 ∉ own.map (·.2)) (hts : ∀ i ∈ t.slots, i ∈ own.map (·.2))
    (hg : ∀ (s : Shared) (H : Hp) (ca : Addr) (cl : List (Str × Addr)) (fp : List Addr), VG (X.blk s H scope (compEnvC scope cl ca X.env) fp) G C tg t) (ht : ∀ (s : Shared) (H : Hp) (ca : Addr) (cl : List (Str × Addr)) (fp : List Addr), VTs (X.blk s H scope (compEnvC scope cl ca X.env) fp) G C W0 ifs ft)
    (he : ∀ (s : Shared) (H : Hp) (ca : Addr) (cl : List (Str × Addr)) (fp : List Addr), VE (X.blk s H scope (compEnvC scope cl ca X.env) fp) G C W0 elt fe) (hs : ∀ x, foldedSetIterable iter X.env x = pure x := by intro _; rfl) :
    VE X G C W (.ListComp elt [⟨tg, iter, ifs, 0⟩] scope pos) (cLc (own.map (·.2)) t fi ft fe) :=
  PE.imp (pe_lc hc hN hi ok hg ht (fun s H ca cl fp => ve_set (he s H ca cl fp)) hs) fun s H Q h => lc_go hpin hts h
theorem vs_setLc {i : Nat} {y : Str} {py : Pos} {elt tg iter : Expr} {ifs : List Expr} {scope : Scope} {own : List (Str × Nat)} {pos spos : Pos} {fi : Iv} {t : Tg} {ft : Option Ev} {fe : Ev} (hc : X.calm = true) (hN : X.N.Nodup) (hy : X.N[i]? = some y) (hyl : X.env.scope.names.lookup y = some .local) (hp : ∀ p ∈ C.pin, p.1 ≠ i)
    (hsw : swapsWith (.ListComp elt [⟨tg, iter, ifs, 0⟩] scope pos) (some (.Name y py)) spos.line X.env = pure true) (hi : VI X G C W tg iter fi) (ok : BlkOk X.N X.env.scope scope own)
    (hpin : ∀ p ∈ C.pin, p.1 ∉ own.map (·.2)) (hts : ∀ i ∈ t.slots, i ∈ own.map (·.2))
    (hg : ∀ (s : Shared) (H : Hp) (ca : Addr) (cl : List (Str × Addr)) (fp : List Addr), VG (X.blk s H scope (compEnvC scope cl ca X.env) fp) G C tg t) (ht : ∀ (s : Shared) (H : Hp) (ca : Addr) (cl : List (Str × Addr)) (fp : List Addr), VTs (X.blk s H scope (compEnvC scope cl ca X.env) fp) G C W0 ifs ft)
    (he : ∀ (s : Shared) (H : Hp) (ca : Addr) (cl : List (Str × Addr)) (fp : List Addr), VE (X.blk s H scope (compEnvC scope cl ca X.env) fp) G C W0 elt fe) (hs : ∀ x, foldedSetIterable iter X.env x = pure x := by intro _; rfl) :
    VS X G C W (.Assign [.Name y py] (.ListComp elt [⟨tg, iter, ifs, 0⟩] scope pos) spos) (cAsg (.nm i) (cLc (own.map (·.2)) t fi ft fe)) := by
  refine PS.imp (ps_setLc hc hN hy hyl hsw hi ok hg ht (fun s H ca cl fp => ve_set (he s H ca cl fp)) hs) fun D s H h => ?_
  obtain ⟨r, T, S, h⟩ := h
  have z : tV G C W (cSet (cLc (own.map (·.2)) t fi ft fe)) s H fun x H1 => gName i x s H1 D.nx := by
    refine oneS (fa := cSet (cLc (own.map (·.2)) t fi ft fe)) S h fun x v r1 H1 P g => ?_
    cases x with
    | loc i => exact g.elim
    | val d => exact g _ _ (P.1.set hp)
  refine lc_go hpin hts ?_
  -- a comprehension's value is its own: handing it on changes nothing
  obtain ⟨r', T', S', g⟩ := z
  refine ⟨r', T', S', ?_⟩
  unfold cSet at g
  cases e : cLc (own.map (·.2)) t fi ft fe r' with
  | exc c r1 => rw [e] at g; exact g
  | bad => rw [e] at g; exact g
  | ok x r1 =>
    rw [e] at g
    cases x with
    | val d => exact g
    | loc j =>
      unfold cLc at e
      split at e
      · split at e <;> cases e
      · cases e
      · cases e

inductive FO where
  | ok (d : D) | exc (c : Nat) | bad
def Behind (G : GX) (ow0 : Ow) (H H' : Hp) (d : D) (v : V) : Prop :=
  ∃ (ow1 : Ow) (b : Bs), b ≠ .fo ∧ Rep G ow1 H' d ⟨b, []⟩ v ∧ (∀ a l, ow1 a = some l → l.b ≠ .fo → H a = none) ∧ (∀ a, ow0 a ≠ none → ow1 a = some ⟨.fo, []⟩) ∧ ∀ a l, ow1 a = some l → OwnO (H' a)
def spV (G : GX) (n : Nat) (F : List D → FO) : Sp := fun vs H Q E => ∃ (ds : List D) (ow0 : Ow), ds.length = n ∧ frzs ds = ds ∧ (∀ a l, ow0 a = some l → OwnO (H a)) ∧ Reps G ow0 H ds ⟨.fo, []⟩ 0 vs ∧ LamX.Tabs G.T H ∧ match F ds with
  | .ok d => ∀ v H', Ext H H' → LamX.Tabs G.T H' → Behind G ow0 H H' d v → Q v H'
  | .exc c => ∀ H', Ext H H' → LamX.Tabs G.T H' → E (.ref (G c)) none H'
  | .bad => False
theorem spV_len {n : Nat} {F : List D → FO} {vs : List V} {Q : VK} {E : XK} (h : spV G n F vs H Q E) : vs.length = n := by
  obtain ⟨ds, ow0, h1, _, _, h4, _⟩ := h
  rw [← h4.length, h1]
def startR (n : Nat) (ds : List D) : Rho := ds.map some ++ List.replicate (n - ds.length) none
def runF (n : Nat) (f : Sv) (ds : List D) : FO := match f (startR n ds) with
  | .rt x r => (match opd r x with
    | some d => .ok d
    | none => .bad)
  | .nx _ => .ok .non
  | .exc c _ => .exc c
  | _ => .bad
def FO.app (x : FO) (k : D → EO) (e : Nat → EO) : EO := match x with
  | .ok d => k d
  | .exc c => e c
  | .bad => .bad
def fcOf (H : Hp) (ow0 : Ow) : Fc := ⟨H, fun _ => False, fun a => ow0 a ≠ none, []⟩
def owOf (ow0 : Ow) : Ow := fun a => match ow0 a with
  | some _ => some ⟨.fo, []⟩
  | none => none
theorem start_get {N : List Str} {vs : List V} {i : Nat} {v : V} (h : vs[i]? = some v) : (L2.start N vs)[i]? = some (some v) := by
  unfold L2.start
  rw [List.getElem?_append_left (by simpa using (List.getElem?_eq_some_iff.mp h).1), List.getElem?_map, h]; rfl
theorem startR_get {n : Nat} {ds : List D} {i : Nat} {d : D} (h : (startR n ds)[i]? = some (some d)) : ds[i]? = some d := by
  unfold startR at h
  by_cases hi : i < ds.length
  · rw [List.getElem?_append_left (by simpa using hi), List.getElem?_map] at h
    cases e : ds[i]? with
    | none => rw [e] at h; cases h
    | some a => rw [e] at h; cases h; rfl
  · rw [List.getElem?_append_right (by simpa using hi), List.getElem?_replicate] at h
    split at h <;> cases h
theorem start_ok {N : List Str} {ds : List D} {vs : List V} {ow0 : Ow} (ht : LamX.Tabs G.T H) (hm : ∀ a l, ow0 a = some l → OwnO (H a)) (e : frzs ds = ds) (h : Reps G ow0 H ds ⟨.fo, []⟩ 0 vs) : StW G (fcOf H ow0) (owOf ow0) (startR N.length ds) [] (L2.start N vs) H where
  len := by
    unfold startR L2.start
    simp [h.length]
  sl := fun i d q => by
    obtain ⟨v, h1, h2⟩ := h.get i d (startR_get q)
    have f : frz d = d := by
      have := congrArg (·[i]?) e
      simp only [frzs_map, List.getElem?_map, startR_get q, Option.map_some] at this
      exact Option.some.inj this
    exact ⟨v, start_get h1, Rep.moveF d f (fun a o z q => ⟨z, by unfold owOf; rw [q]⟩) (fun _ _ z _ => z) h2⟩
  tm := fun j d v q => by simp at q
  old := fun a o _ z => .inl z
  own := fun a l q => by
    unfold owOf at q
    split at q
    · cases q; exact .inl rfl
    · cases q
  fo := fun a q => by
    unfold owOf
    cases e : ow0 a with
    | none => exact absurd e q
    | some l => rfl
  mu := fun a l q => by
    unfold owOf at q
    split at q
    · rename_i m e; exact hm a m e
    · cases q
  pin := fun p hp => by simp [fcOf] at hp
  tabs := ht
theorem behind_of {ow0 : Ow} {d : D} {v : V} {b : Bs} (hb : b ≠ .fo) {r : Rho} {T : List (D × V)} {s : L2.St} (S : StW G (fcOf H ow0) ow r T s H') (h : Rep G ow H' d ⟨b, []⟩ v) : Behind G ow0 H H' d v :=
  ⟨ow, b, hb, h, fun a l q n => (S.own a l q).elim (fun z => absurd z n) fun z => z.elim id False.elim, fun a q => S.fo a q, S.mu⟩
theorem ext_of {ow0 : Ow} {r : Rho} {T : List (D × V)} {s : L2.St} (S : StW G (fcOf H ow0) ow r T s H') : Ext H H' := fun a o q => S.old a o (fun z => z) q
end
section
variable {P : Program} {w : World} {K : PySem.W.Frag} {mg : Str → Option Value} {base : Heap} {G : GX}
end

def isTup : Kd → Bool
  | .tup => true
  | _ => false
mutual
/-- no list, dict or instance in it is shared -/
def noL : D → Bool
  | .node k o xs => (o || isTup k) && noLs xs
  | .any => false
  | _ => true
def noLs : List D → Bool
  | [] => true
  | d :: ds => noL d && noLs ds
end
def callK (F : List D → FO) (xs : List R) (r : Rho) : EO := match opds r xs with
  | some ds => (match F (frzs ds) with
    | .ok d => if noL d = true then .ok (.val d) r else .ok (.val d) (settles r xs)
    | .exc c => .exc c r
    | .bad => .bad)
  | none => .bad
def cCall (n : Nat) (F : List D → FO) (fs : Av) : Ev := fun r => (fs r).bd fun xs r1 => if xs.length = n then callK F xs r1 else .bad
section
variable {X : Cx} {G : GX} {C : Fc} {W : WX} {ow ow' : Ow} {r : Rho} {T T1 T2 : List (D × V)} {s : L2.St} {H H' : Hp} {fs : Av}
def aft (H : Hp) (ow ow1 : Ow) (n : Nat) : Ow := fun a => match H a with
  | none => (match ow1 a with
    | some l => some ⟨.tm n, l.p⟩
    | none => none)
  | some _ => ow a
mutual
theorem Rep.aft : ∀ (d : D) {l l' : Loc} {v : V} {ow1 : Ow} {n : Nat}, (∀ a k vs, isR k ≠ true → Holds G H' a k vs → (isTup k = true ∨ VL.noL d = false) → ow1 a = none → H a ≠ none → ow a = none) → (∀ a m, ow1 a = some m → m.b ≠ .fo → H a = none) → l.b ≠ .fo → l'.b = .tm n → l'.p = l.p → Rep G ow1 H' d l v → Rep G (VL.aft H ow ow1 n) H' d l' v
  | .any, _, _, _, _, _, _, _, _, _, _, _ => trivial
  | .non, _, _, _, _, _, _, _, _, _, _, h => h
  | .bl _, _, _, _, _, _, _, _, _, _, _, h => h
  | .int _, _, _, _, _, _, _, _, _, _, _, h => h
  | .str _, _, _, _, _, _, _, _, _, _, _, h => h
  | .exc _, _, _, _, _, _, _, _, _, _, _, h => h
  | .ty _, _, _, _, _, _, _, _, _, _, _, h => h
  | .cls _, _, _, _, _, _, _, _, _, _, _, h => h
  | .node k o xs, l, l', v, ow1, n, hz, hn, hb, hb', hp, h => by
    obtain ⟨a, vs, ev, h1, h2, h3⟩ := h
    have un : VL.noLs xs = false → VL.noL (.node k o xs) = false := fun z => by
      show ((o || isTup k) && VL.noLs xs) = false
      rw [z, Bool.and_false]
    refine ⟨a, vs, ev, h1, ?_, Reps.aft xs (fun a k' vs' nr z y => hz a k' vs' nr z (y.imp id un)) hn hb hb' hp h3⟩
    by_cases hrd : isR k = true
    · exact .ofR hrd
    have h2 := h2.cases.resolve_left hrd
    refine .mk ?_
    cases o with
    | true =>
      have q : ow1 a = some l := by simpa using h2
      have z := hn a l q hb
      unfold VL.aft
      rw [z, q]
      obtain ⟨lb, lp⟩ := l'
      cases hb'
      cases hp
      rfl
    | false =>
      have q : ow1 a = none := by simpa using h2
      have hk : isTup k = true ∨ VL.noL (.node k false xs) = false := by
        cases e : isTup k with
        | true => exact .inl rfl
        | false =>
          refine .inr ?_
          show ((false || isTup k) && VL.noLs xs) = false
          rw [e]; rfl
      unfold VL.aft
      cases z : H a with
      | none => simp only [q]; rfl
      | some u => exact hz a k vs hrd h1 hk q (by rw [z]; exact fun y => nomatch y)
theorem Reps.aft : ∀ (ds : List D) {l l' : Loc} {i : Nat} {vs : List V} {ow1 : Ow} {n : Nat}, (∀ a k vs, isR k ≠ true → Holds G H' a k vs → (isTup k = true ∨ VL.noLs ds = false) → ow1 a = none → H a ≠ none → ow a = none) → (∀ a m, ow1 a = some m → m.b ≠ .fo → H a = none) → l.b ≠ .fo → l'.b = .tm n → l'.p = l.p → Reps G ow1 H' ds l i vs → Reps G (VL.aft H ow ow1 n) H' ds l' i vs
  | [], _, _, _, _, _, _, _, _, _, _, _, h => h
  | d :: ds, l, l', i, vs, ow1, n, hz, hn, hb, hb', hp, h => by
    obtain ⟨v, ws, ev, h1, h2⟩ := h
    have u1 : VL.noL d = false → VL.noLs (d :: ds) = false := fun z => by show (VL.noL d && VL.noLs ds) = false; rw [z]; rfl
    have u2 : VL.noLs ds = false → VL.noLs (d :: ds) = false := fun z => by show (VL.noL d && VL.noLs ds) = false; rw [z, Bool.and_false]
    exact ⟨v, ws, ev, Rep.aft (l := l.sub i) (l' := l'.sub i) d (fun a k vs nr z y => hz a k vs nr z (y.imp id u1)) hn hb hb' (by show l'.p ++ [i] = l.p ++ [i]; rw [hp]) h1, Reps.aft ds (fun a k vs nr z y => hz a k vs nr z (y.imp id u2)) hn hb hb' hp h2⟩
end
theorem StW.aft {d : D} {v : V} {ow1 : Ow} (S : StW G C ow r T s H) (hx : Ext H H') (et : LamX.Tabs G.T H') (hm : ∀ a m, ow1 a = some m → OwnO (H' a)) (hr : Rep G (VL.aft H ow ow1 T.length) H' d ⟨.tm T.length, []⟩ v) : StW G C (VL.aft H ow ow1 T.length) r (T ++ [(d, v)]) s H' := by
  have keep : ∀ a o, H a = some o → VL.aft H ow ow1 T.length a = ow a := fun a o z => by unfold VL.aft; rw [z]
  have S' : StW G C (VL.aft H ow ow1 T.length) r T s H' := by
    refine ⟨S.len, fun i d q => ?_, fun j d v q => ?_, fun a o n q => (S.old a o n q).bind fun u q => hx a u q, fun a l q => ?_, fun a q => ?_, fun a l q => ?_, S.pin, et⟩
    · obtain ⟨v', z1, z2⟩ := S.sl i d q
      exact ⟨v', z1, Rep.mono (l := ⟨.sl i, []⟩) d (fun a o z _ => hx a o z) (fun a o z _ => hx a o z) (fun a o z n => by rw [keep a o z, n]) (fun a o q z n => by rw [keep a o z, n]) z2⟩
    · exact Rep.mono (l := ⟨.tm j, []⟩) d (fun a o z _ => hx a o z) (fun a o z _ => hx a o z) (fun a o z n => by rw [keep a o z, n]) (fun a o q z n => by rw [keep a o z, n]) (S.tm j d v q)
    · cases z : H a with
      | some o => rw [keep a o z] at q; exact S.own a l q
      | none =>
        refine .inr ?_
        cases e : C.H0 a with
        | none => exact .inl rfl
        | some u =>
          by_cases hi : C.io a
          · exact .inr hi
          · exact ((S.old a u hi e).on z).elim
    · have z := S.fo a q
      have m := S.mu a _ z
      cases y : H a with
      | none => rw [y] at m; exact m.elim
      | some o => rw [keep a o y]; exact z
    · cases z : H a with
      | some o =>
        rw [keep a o z] at q
        have m := S.mu a l q
        rw [z] at m
        rw [(hx a o z).get m.nt]
        exact m
      | none =>
        unfold VL.aft at q
        rw [z] at q
        cases y : ow1 a with
        | none => rw [y] at q; cases q
        | some m => exact hm a m y
  exact S'.push hr
theorem call_go {n : Nat} {F : List D → FO} {Q : VK} {xs : List R} {vs : List V} (S : StOk G C r (T ++ pushs xs vs) s H) (l : LocsOk s xs vs) (h : Goes G C W T s Q (if xs.length = n then callK F xs r else .bad)) : spV G n F vs H Q (WE W s) := by
  split at h
  · rename_i hn
    unfold callK at h
    cases e : opds r xs with
    | none => rw [e] at h; exact h.elim
    | some ds =>
      simp only [e] at h
      obtain ⟨ow, S⟩ := S
      obtain ⟨ow0, S0, h1, h2, h3⟩ := S.settles l e
      refine ⟨frzs ds, ow0, ?_, frzs_frzs ds, S0.mu, h1 _ _, S0.tabs, ?_⟩
      · rw [(h1 ⟨.fo, []⟩ 0).length, ← l.length, hn]
      cases e2 : F (frzs ds) with
      | bad => rw [e2] at h; exact h.elim
      | exc c =>
        simp only [e2] at h
        exact fun H' hx et => h H' ⟨ow, S.drop.ext hx et⟩
      | ok d =>
        simp only [e2] at h
        intro v H' hx et hb
        obtain ⟨ow1, b, b1, b2, b3, b4, b5⟩ := hb
        split at h
        · rename_i hno
          have hr : Rep G (VL.aft H ow ow1 T.length) H' d ⟨.tm T.length, []⟩ v := Rep.aft (l := ⟨b, []⟩) d (fun a k vs _ z y q nz => by
            rcases y with y | y
            · cases k with
              | tup =>
                cases y2 : ow a with
                | none => rfl
                | some m =>
                  have mu := S.mu a m y2
                  cases z2 : H a with
                  | none => exact absurd z2 nz
                  | some u =>
                    rw [z2] at mu
                    have z3 := (hx a u z2).get mu.nt
                    rw [show H' a = some (.tup vs) from z] at z3
                    cases z3
                    exact mu.elim
              | _ => cases y
            · rw [hno] at y; cases y) b3 b1 rfl rfl b2
          exact h v H' ⟨⟨_, StW.aft S.drop hx et b5 hr⟩, trivial⟩
        · have hr : Rep G (VL.aft H ow0 ow1 T.length) H' d ⟨.tm T.length, []⟩ v := Rep.aft (l := ⟨b, []⟩) d (fun a k vs _ z y q nz => by
            cases y2 : ow0 a with
            | none => rfl
            | some m =>
              have := b4 a (by rw [y2]; exact fun z => nomatch z)
              rw [q] at this
              cases this) b3 b1 rfl rfl b2
          exact h v H' ⟨⟨_, StW.aft S0 hx et b5 hr⟩, trivial⟩
  · exact h.elim
theorem ve_call {n k : Nat} {F : List D → FO} {f : Addr} {fd : FuncData} {ps : List Str} {x : Str} {p pos : Pos} {e : Expr} {es : List Expr} (tk : Takes X W) (Fk : FnOk X.prog X.w X.K X.mg X.base (L2.CX X.prog X.w) k f fd ps (spV G n F)) (hr : Room k X.A) (hg : Gl X x) (hm : X.mg x = some (.ref f))
    (hk : PySem.W.keepIn X.K (.ref f) = true) (hb : Binds X.K fd ps []) (ha : VA X G C W (e :: es) fs) (hdb : (x == ("__debug__" : Str)) = false := by decide) (he : starEach (e :: es) X.env = (false, eval e X.env) :: starEach es X.env := by rfl) (hpl : (backTo pos (starEach es X.env)).any (·.1) = false := by rfl) :
    VE X G C W (.Call (.Name x p) (e :: es) [] pos) (cCall n F fs) := by
  refine PE.imp (pe_callS Fk hr hg hm hk hb (fun σ => passAt tk σ) ha hdb he hpl) fun s H Q h => ?_
  obtain ⟨r, T, S, g⟩ := h
  exact many (T2 := []) (by simpa using S) g fun xs vs r1 H1 S1 l1 g1 => call_go (by simpa using S1) l1 g1
end
end VL

namespace VL
open PySem PySem.Spec PyProof.Rows L2
section
variable {X : Cx} {G : GX} {C : Fc} {W : WX} {ow ow' : Ow} {r : Rho} {T T1 T2 : List (D × V)} {s : L2.St} {H H' : Hp} {fa fb fc : Ev} {fs : Av}
theorem apart {i : Nat} {a b : Addr} {l : Loc} (ha : ow a = some ⟨.sl i, []⟩) (hb : ow b = none ∨ ∃ q, ow b = some (l.app q)) (hl : l.b ≠ .sl i ∨ l.p ≠ []) : b ≠ a := fun e => by
  subst e
  rw [ha] at hb
  rcases hb with hb | ⟨q, hb⟩
  · cases hb
  · have hb := Option.some.inj hb
    unfold Loc.app at hb
    injection hb with e1 e2
    rcases hl with hl | hl
    · exact hl e1.symm
    · exact hl (List.append_eq_nil_iff.mp e2.symm).1
theorem StW.write {i : Nat} {k k' : Kd} (hk : isR k ≠ true) {ds ds' : List D} {a : Addr} {vs' : List V} {ho : HO} {T' : List (D × V)} (S : StW G C ow r T s H) (q : r[i]? = some (some (.node k true ds))) (ha : s[i]? = some (some (.ref a)))
    (hm : OwnO (some ho)) (hh : Holds G (upd H a ho) a k' vs')
    (h1 : ∀ b, ow b = none → ow' b = none) (h2 : ∀ b j p, ow b = some ⟨.sl j, p⟩ → j ≠ i → ow' b = some ⟨.sl j, p⟩) (h4 : ∀ b p, ow b = some ⟨.fo, p⟩ → ow' b = some ⟨.fo, p⟩)
    (h5 : ∀ b l, ow' b = some l → ∃ l', ow b = some l' ∧ (l.b = .fo → l'.b = .fo)) (h5' : ∀ b l, ow' b = some l → l.b ≠ .fo → ∀ l', ow b = some l' → l'.b ≠ .fo) (h6 : ow' a = some ⟨.sl i, []⟩)
    (h7 : Reps G ow' (upd H a ho) ds' ⟨.sl i, []⟩ 0 vs') (h8 : ∀ (j : Nat) d v, T'[j]? = some (d, v) → Rep G ow' (upd H a ho) d ⟨.tm j, []⟩ v) :
    StW G C ow' (r.set i (some (.node k' true ds'))) T' s (upd H a ho) := by
  obtain ⟨v, z1, a', vs, ev, z2, z3, z4⟩ := S.sl i _ q
  rw [ha] at z1
  cases z1
  cases ev
  have oa : ow a = some ⟨.sl i, []⟩ := by simpa using z3.cases.resolve_left hk
  have exn : ∀ (b : Addr) (o : HO), H b = some o → ¬ OwnO (some o) → upd H a ho b = some o := fun b o z n => by
    rw [upd_ne (fun e => by have m := S.mu a _ oa; rw [e] at z; rw [z] at m; exact n m)]; exact z
  refine ⟨by simpa using S.len, fun j d' y => ?_, h8, fun b o n y => ?_, fun b l y => ?_, fun b y => h4 b _ (S.fo b y), fun b l y => ?_, S.pin, tabs_upd S.tabs (.inr (S.mu a _ oa))⟩
  · by_cases hj : j = i
    · subst hj
      have hlt : j < r.length := (List.getElem?_eq_some_iff.mp q).1
      rw [List.getElem?_set_self hlt] at y
      cases y
      exact ⟨_, ha, a, vs', rfl, hh, .mk (by simpa using h6), h7⟩
    · rw [List.getElem?_set_ne (Ne.symm hj)] at y
      obtain ⟨v', y1, y2⟩ := S.sl j d' y
      refine ⟨v', y1, Rep.mono (l := ⟨.sl j, []⟩) d' (fun b o z w => by rw [upd_ne (apart oa w (.inl (fun z => hj (by injection z))))]; exact .inl z) (fun b o z n => exn b o z n) (fun b o _ n => h1 b n) (fun b o p _ n => ?_) y2⟩
      exact h2 b j ([] ++ p) n hj
  · by_cases hb : b = a
    · subst hb
      rcases S.own b _ oa with z | z | z
      · cases z
      · rw [z] at y; cases y
      · exact absurd z n
    · rw [upd_ne hb]; exact S.old b o n y
  · obtain ⟨l', y1, y2⟩ := h5 b l y
    by_cases hf : l.b = .fo
    · exact .inl hf
    · rcases S.own b l' y1 with z | z
      · exact absurd z (h5' b l y hf l' y1)
      · exact .inr z
  · by_cases hb : b = a
    · subst hb; rw [upd_same]; exact hm
    · rw [upd_ne hb]
      obtain ⟨l', y1, _⟩ := h5 b l y
      exact S.mu b l' y1
def intoSl (ow : Ow) (n i k : Nat) : Ow := fun a => match ow a with
  | some ⟨.tm j, p⟩ => if j = n then some ⟨.sl i, k :: p⟩ else some ⟨.tm j, p⟩
  | some ⟨.sl j, p⟩ => if j = i ∧ p.head? = some k then none else some ⟨.sl j, p⟩
  | x => x
theorem into_fo {n i k : Nat} {b : Addr} {l : Loc} (h : intoSl ow n i k b = some l) : ∃ l', ow b = some l' ∧ (l.b = .fo ↔ l'.b = .fo) := by
  unfold intoSl at h
  cases e : ow b with
  | none => rw [e] at h; cases h
  | some m =>
    rw [e] at h
    obtain ⟨mb, mp⟩ := m
    refine ⟨_, rfl, ?_⟩
    cases mb with
    | tm j =>
      simp only at h
      split at h <;> (cases h; exact ⟨(fun z => nomatch z), (fun z => nomatch z)⟩)
    | sl j =>
      simp only at h
      split at h
      · cases h
      · cases h; exact ⟨(fun z => nomatch z), (fun z => nomatch z)⟩
    | fo => cases h; exact Iff.rfl
theorem StW.into {i k : Nat} {ds ds' : List D} {d : D} {a : Addr} {v : V} (S : StW G C ow r (T ++ [(d, v)]) s H) (q : r[i]? = some (some (.node .lst true ds))) (ha : s[i]? = some (some (.ref a)))
    (hds : (ds' = ds.set k d ∧ k < ds.length) ∨ (ds' = ds ++ [d] ∧ k = ds.length)) : ∃ vs, H a = some (.lst vs) ∧ vs.length = ds.length ∧
    StW G C (intoSl ow T.length i k) (r.set i (some (.node .lst true ds'))) T s (upd H a (.lst (if k < ds.length then vs.set k v else vs ++ [v]))) := by
  obtain ⟨v', z1, a', vs, ev, z2, z3, z4⟩ := S.sl i _ q
  rw [ha] at z1
  cases z1
  cases ev
  have oa : ow a = some ⟨.sl i, []⟩ := by simpa [OwnAt] using z3
  have hl := z4.length
  have exn : ∀ (b : Addr) (o ho : HO), H b = some o → ¬ OwnO (some o) → upd H a ho b = some o := fun b o ho z n => by
    rw [upd_ne (fun e => by rw [e, show H a = some (.lst vs) from z2] at z; cases z; exact n trivial)]; exact z
  refine ⟨vs, z2, hl.symm, StW.write (k := .lst) (ow' := intoSl ow T.length i k) (fun z => nomatch z) S q ha trivial (vs' := if k < ds.length then vs.set k v else vs ++ [v]) upd_same (fun b n => by unfold intoSl; rw [n]) (fun b j p n hj => ?_) (fun b p n => by unfold intoSl; rw [n]) (fun b l y => ?_) (fun b l y n l' y2 => ?_) ?_ ?_ (fun j d' w y => ?_)⟩
  · unfold intoSl; rw [n]; exact if_neg (fun z => hj z.1)
  · obtain ⟨l', y1, y2⟩ := into_fo y
    exact ⟨l', y1, y2.mp⟩
  · obtain ⟨l2, y1, y3⟩ := into_fo y
    rw [y2] at y1
    cases y1
    exact fun z => n (y3.mpr z)
  · unfold intoSl; rw [oa]; simp
  · -- the parts
    have old : ∀ (m : Nat) dm vm, m ≠ k → ds[m]? = some dm → vs[m]? = some vm → Rep G (intoSl ow T.length i k) (upd H a (.lst (if k < ds.length then vs.set k v else vs ++ [v]))) dm (Loc.sub ⟨.sl i, []⟩ (0 + m)) vm := fun m dm vm hm q1 q2 => by
      obtain ⟨vm', y1, y2⟩ := z4.get m dm q1
      rw [q2] at y1
      cases y1
      refine Rep.mono (l := Loc.sub ⟨.sl i, []⟩ (0 + m)) dm (fun b o z w => by rw [upd_ne (apart oa w (.inr (by simp [Loc.sub])))]; exact .inl z) (fun b o z n => .inl (exn b o _ z n)) (fun b o _ n => by unfold intoSl; rw [n]) (fun b o p _ n => ?_) y2
      have n' : ow b = some ⟨.sl i, m :: p⟩ := by rw [n]; simp [Loc.sub, Loc.app]
      unfold intoSl
      rw [n']
      have : ¬ (i = i ∧ (m :: p).head? = some k) := by simp [hm]
      simp [Loc.sub, Loc.app, hm]
    have new : Rep G (intoSl ow T.length i k) (upd H a (.lst (if k < ds.length then vs.set k v else vs ++ [v]))) d (Loc.sub ⟨.sl i, []⟩ (0 + k)) v := by
      refine Rep.mono (l := ⟨.tm T.length, []⟩) d (fun b o z w => by rw [upd_ne (apart oa w (.inl (fun z => nomatch z)))]; exact .inl z) (fun b o z n => .inl (exn b o _ z n)) (fun b o _ n => by unfold intoSl; rw [n]) (fun b o p _ n => ?_) S.last
      have n' : ow b = some ⟨.tm T.length, [] ++ p⟩ := n
      unfold intoSl
      rw [n']
      simp [Loc.sub, Loc.app]
    rcases hds with ⟨e, hk⟩ | ⟨e, hk⟩
    · subst e
      refine Reps.of_get (by rw [if_pos hk]; simp [hl]) fun m dm vm q1 q2 => ?_
      rw [if_pos hk] at q2
      by_cases hm : m = k
      · subst hm
        rw [List.getElem?_set_self hk] at q1
        rw [List.getElem?_set_self (by omega)] at q2
        cases q1; cases q2
        exact new
      · rw [List.getElem?_set_ne (Ne.symm hm)] at q1 q2
        exact old m dm vm hm q1 q2
    · subst e
      subst hk
      refine Reps.of_get (by rw [if_neg (by omega)]; simp [hl]) fun m dm vm q1 q2 => ?_
      rw [if_neg (by omega)] at q2
      by_cases hm : m < ds.length
      · rw [List.getElem?_append_left hm] at q1
        rw [List.getElem?_append_left (by omega)] at q2
        exact old m dm vm (by omega) q1 q2
      · rw [List.getElem?_append_right (by omega)] at q1
        rw [List.getElem?_append_right (by omega), ← hl] at q2
        have em : m = ds.length := by
          have := (List.getElem?_eq_some_iff.mp q1).1
          simp at this; omega
        subst em
        simp at q1 q2
        subst q1; subst q2
        exact new
  · have hj : j < T.length := (List.getElem?_eq_some_iff.mp y).1
    have z := S.tm j d' w (by rw [List.getElem?_append_left hj]; exact y)
    refine Rep.mono (l := ⟨.tm j, []⟩) d' (fun b o z w => by rw [upd_ne (apart oa w (.inl (fun z => nomatch z)))]; exact .inl z) (fun b o z n => .inl (exn b o _ z n)) (fun b o _ n => by unfold intoSl; rw [n]) (fun b o p _ n => ?_) z
    have n' : ow b = some ⟨.tm j, [] ++ p⟩ := n
    unfold intoSl
    rw [n']
    have : ¬ j = T.length := by omega
    simp [Loc.app, this]

def isLst (r : Rho) (i : Nat) : Bool := match r[i]? with
  | some (some (.node .lst _ _)) => true
  | _ => false
def appK (i : Nat) (x : R) (r1 : Rho) : EO := match x, r1[i]? with
  | .val d, some (some (.node .lst true ds)) => if ds.length < 16777216 then .ok (.val .non) (r1.set i (some (.node .lst true (ds ++ [d])))) else .bad
  | _, _ => .bad
def cApp (i : Nat) (fa : Ev) : Ev := fun r => if isLst r i = true then (cSet fa r).bd (appK i) else .bad
theorem isLst_at {i : Nat} (h : isLst r i = true) : ∃ o ds, r[i]? = some (some (.node .lst o ds)) := by
  unfold isLst at h
  split at h
  · rename_i o ds e; exact ⟨o, ds, e⟩
  · cases h
theorem ve_app {i : Nat} {x : Str} {e : Expr} {p apos cpos : Pos} (hN : X.N[i]? = some x) (hv : Vis X.env.scope x) (hd : (x == ("__debug__" : Str)) = false) (hcd : (x == ("__classdict__" : Str)) = false) (ha : VE X G C W e fa)
    (hbase : attributeBase (.Name x p) "append" X.env (eval (.Name x p) X.env) = eval (.Name x p) X.env := by rfl)
    (hfew : ((backTo cpos (starEach [e] X.env)).all (fun x => !x.1) && (backToKw cpos (keywordEach [] X.env)).all (fun x => x.1.isSome)
      && decide ([e].length + ([] : List Keyword).length + (if ([] : List Keyword).isEmpty then 0 else 1) < 30)) = true := by rfl)
    (hline : (apos.endLine == cpos.line) = true := by rfl) (hs : starEach [e] X.env = (false, eval e X.env) :: starEach [] X.env := by rfl) (hplain : (backTo cpos (starEach [] X.env)).any (·.1) = false := by rfl) :
    VE X G C W (.Call (.Attribute (.Name x p) "append" apos) [e] [] cpos) (cApp i fa) := by
  refine PE.imp (pe_bm PySem.F.plainAttrs_list PySem.F.slot_list_append PySem.F.type_list_append mt_append (pe_var hN hv hd hcd) (pa_cons (ve_set ha) pa_nil hs) hbase hfew hline hs hplain) fun s H Q h => ?_
  obtain ⟨r, T, S, g⟩ := h
  have g : Goes G C W T s Q (cApp i fa r) := g
  unfold cApp at g
  split at g
  · rename_i hi
    obtain ⟨o, ds, hr⟩ := isLst_at hi
    obtain ⟨ow, S0⟩ := S
    obtain ⟨v, v1, a, vs, ev, v2, v3, v4⟩ := S0.sl i _ hr
    subst ev
    refine ⟨_, v1, .inl ⟨rfl, vs, SqL.of v2⟩, ?_⟩
    refine one (fa := cSet fa) ⟨ow, S0⟩ g fun x v' r1 H1 P g1 => ?_
    unfold appK at g1
    split at g1
    · rename_i d ds' q
      split at g1
      · rename_i hz
        obtain ⟨ow1, S1⟩ := P.1
        obtain ⟨vs', w1, w2, S2⟩ := StW.into S1 q v1 (.inr ⟨rfl, rfl⟩)
        rw [if_neg (Nat.lt_irrefl _)] at S2
        exact ⟨a, vs', v', rfl, rfl, w1, by rw [w2, sizeLine_eq]; exact hz, g1 _ _ ⟨StOk.pushN ⟨_, S2⟩, trivial⟩⟩
      · exact g1.elim
    · exact g1.elim
  · exact g.elim

def setIxK (i : Nat) (x y : R) (r1 : Rho) : SO := match x, opd r1 y, r1[i]? with
  | .val d, some (.int k), some (some (.node .lst true ds)) => (match ixN ds.length k with
    | some j => .nx (r1.set i (some (.node .lst true (ds.set j d))))
    | none => .bad)
  | _, _, _ => .bad
def cSetIx (i : Nat) (fk fa : Ev) : Sv := fun r => (cSet fa r).st fun x r1 => if isLst r1 i = true then (fk r1).st (setIxK i x) else .bad
theorem vs_setIx {i : Nat} {x : Str} {k e : Expr} {p tpos pos : Pos} {fk : Ev} (hN : X.N[i]? = some x) (hv : Vis X.env.scope x) (hd : (x == ("__debug__" : Str)) = false) (hcd : (x == ("__classdict__" : Str)) = false) (hk : VE X G C W k fk) (ha : VE X G C W e fa)
    (has : ∀ v, assign (.Subscript (.Name x p) k tpos) X.env v = (do
      let ov ← holding [v] (eval (.Name x p) X.env)
      let iv ← holding [v, ov] (eval k X.env)
      standAt tpos
      holding [v, ov, iv] (setItem ov iv v)
      release [v, ov, iv] []) := by intro _; rfl)
    (hs : swapsWithSole [.Subscript (.Name x p) k tpos] e pos.line X.env = pure false := by rfl) (hw : swappedStores [.Subscript (.Name x p) k tpos] e X.env = pure none := by rfl)
    (h1 : (assignEach [.Subscript (.Name x p) k tpos] X.env).map (·.2) = [assign (.Subscript (.Name x p) k tpos) X.env] := by rfl) : VS X G C W (.Assign [.Subscript (.Name x p) k tpos] e pos) (cSetIx i fk fa) := by
  refine PS.imp (ps_asg (ve_set ha) (pg_sub (pe_var hN hv hd hcd) hk set_list has) hs hw h1) fun D s H h => ?_
  obtain ⟨r, T, S, g⟩ := h
  refine oneS (fa := cSet fa) S g fun x v r1 H1 P g1 => ?_
  split at g1
  · rename_i hi
    obtain ⟨o, ds, hr⟩ := isLst_at hi
    obtain ⟨ow1, S1⟩ := P.1
    obtain ⟨w, v1, a, vs, ev, v2, v3, v4⟩ := S1.sl i _ hr
    subst ev
    refine ⟨_, v1, ?_⟩
    refine ⟨r1, T ++ pushR x v, ⟨ow1, S1⟩, ?_⟩
    cases e1 : fk r1 with
    | exc c r2 => rw [e1] at g1; exact fun H' S' => g1 s H' S'.drop
    | bad => rw [e1] at g1; exact g1.elim
    | ok y r2 =>
      rw [e1] at g1
      simp only [st_ok] at g1
      intro u H2 P2
      unfold setIxK at g1
      split at g1
      · rename_i d k' ds' e2 q
        split at g1
        · rename_i j ej
          obtain ⟨ow2, S2⟩ := P2.1
          have eu := opd_rep (T := T ++ pushR (.val d) v) (T2 := []) (by rw [List.append_nil]; exact S2) P2.2 e2
          have S3 : StW G C ow2 r2 (T ++ [(d, v)]) s H2 := StW.drop (T := T ++ [(d, v)]) (T2 := pushR y u) S2
          obtain ⟨m1, m2, _⟩ := ixN_seq ej
          obtain ⟨vs', w1, w2, S4⟩ := StW.into S3 q v1 (.inl ⟨rfl, m2⟩)
          rw [if_pos m2] at S4
          exact ⟨a, vs', k', j, rfl, eu, w1, by rw [w2]; exact ej, g1 _ _ ⟨_, S4⟩⟩
        · exact g1.elim
      · exact g1.elim
  · exact g1.elim

def idxD (ds : List D) (d : D) : Option Nat := ds.findIdx? fun e => PyData.eqv (toPy e) (toPy d)
def gIndex : G2 := fun x y r => match opd r x, opd r y with
  | some (.node .lst _ ds), some d => if (flatD d && ds.all flatD) = true then (match idxD ds d with
    | some j => .ok (.val (.int (j : Nat))) r
    | none => .bad) else .bad
  | _, _ => .bad
end
end VL

namespace VL
open PySem PySem.Spec PyProof.Rows L2
inductive MO where
  | ok (d d0 : D) | bad
section
variable {G : GX} {H H' : Hp} {ow ow0 : Ow}
end
section
variable {P : Program} {w : World} {K : PySem.W.Frag} {mg : Str → Option Value} {base : Heap} {G : GX}
end
def callKM (n i : Nat) (F : D → List D → MO) (xs : List R) (r : Rho) : EO := match xs with
  | .loc j :: rest => if j = i ∧ rest.length = n then (match opd r (.loc i), valsR rest with
    | some d0, some ds => (match F d0 (frzs ds) with
      | .ok d d0' => .ok (.val d) (r.set i (some d0'))
      | .bad => .bad)
    | _, _ => .bad) else .bad
  | _ => .bad
def cCallM (n i : Nat) (F : D → List D → MO) (fs : Av) : Ev := fun r => (fs r).bd (callKM n i F)
section
variable {X : Cx} {G : GX} {C : Fc} {W : WX} {ow ow' : Ow} {r : Rho} {T T1 T2 : List (D × V)} {s : L2.St} {H H' : Hp} {fs : Av}
theorem valsR_frz : ∀ {xs : List R} {ds : List D}, valsR xs = some ds → opds r xs = some ds ∧ settles r xs = r ∧ ds.length = xs.length
  | [], ds, e => by cases e; exact ⟨rfl, rfl, rfl⟩
  | .loc _ :: _, _, e => by cases e
  | .val d :: xs, ds, e => by
    unfold valsR at e
    cases e2 : valsR xs with
    | none => rw [e2] at e; cases e
    | some ds' =>
      rw [e2] at e
      cases e
      obtain ⟨h1, h2, h3⟩ := valsR_frz e2
      refine ⟨?_, h2, by simp [h3]⟩
      show (match some d, opds r xs with | some d, some ds => some (d :: ds) | _, _ => none) = _
      rw [h1]
end
end VL

namespace VL
open PySem PySem.Spec PyProof.Rows L2
section
variable {X : Cx} {pins : List (Addr × Obj)} {q : L2.St} {H : Hp} {s sI s' : Shared} {B h4 : Heap} {a : Addr}
theorem trackExc {cls : Value} {oe : Obj} {vs : Array Value} (J : Inv X pins q H sI) (grd : ∀ b o, sI.heap.get? b = some o → b ∉ frs X.stack → B.get? b = some o) (fresh : B.get? a = none) (noex : X.ex = []) (off : a ∉ frs (X.env :: X.outer))
    (J4 : Inv X pins q H { s' with heap := h4 }) (at4 : h4.get? a = some oe) (cl4 : Zc cls none oe) (dt4 : oe.data = .fields vs) (free : H a = none) : Inv X pins q (upd H a (ExT cls a)) { s' with heap := h4 } := by
  have out : a ∉ frs X.stack := by
    intro hm
    rcases J.ok.stk with e | ⟨e, _⟩
    · refine off ?_
      rw [e] at hm
      obtain ⟨x, p1, p2⟩ := List.mem_filterMap.mp hm
      exact List.mem_filterMap.mpr ⟨x, List.mem_cons_of_mem _ p1, p2⟩
    · exact off (e ▸ hm)
  have absent : sI.heap.get? a = none := by
    cases e : sI.heap.get? a with
    | none => rfl
    | some o => exact nomatch fresh.symm.trans (grd a o e out)
  have other : ∀ {b : Addr} {o : Obj}, sI.heap.get? b = some o → b ≠ a := by
    intro b o e z
    rw [z, absent] at e
    exact nomatch e
  have trk : ∀ {b : Addr} {o : HO}, H b = some o → upd H a (ExT cls a) b = some o := by
    intro b o e
    rw [upd_ne (ne_of_none e free)]
    exact e
  have unt : ∀ {b : Addr}, b ≠ a → H b = none → upd H a (ExT cls a) b = none := by
    intro b n e
    rw [upd_ne n]
    exact e
  have base' : Un X.fs X.ex X.H_0 (upd H a (ExT cls a)) X.s_0.heap h4 :=
    { keep := J4.base.keep, slot := J4.base.slot, there := J4.base.there
      free := fun b o e n hx => by
        obtain ⟨o2, e2⟩ := J.base.there b o e hx
        exact unt (other e2) (J4.base.free b o e n hx)
      tups := fun b xs e => trk (J4.base.tups b xs e)
      frzs := fun b o u e => trk (J4.base.frzs b o u e)
      tbls := fun b ps e => let ⟨m, e2⟩ := J4.base.tbls b ps e; ⟨m, trk e2⟩ }
  have own : ObjOk X.prog X.w (upd H a (ExT cls a)) h4 a (ExT cls a) := ⟨⟨oe, vs, at4, cl4, dt4⟩, ⟨oe, at4⟩, fun _ _ ⟨o, w, p1, p2⟩ k => ⟨o, w, k o p1, p2⟩⟩
  have hok' : HOk X.prog X.w (upd H a (ExT cls a)) h4 := fun b u e => by
    rcases Decidable.em (b = a) with rfl | n
    · rw [upd_same] at e
      exact Option.some.inj e ▸ own
    · rw [upd_ne n] at e
      exact ObjOk.stay (J4.hok b u e) (fun _ _ _ k => k) (fun _ k => trk k) (fun _ _ k => trk k)
  have fr' : upd H a (ExT cls a) X.env.locals = none := by
    obtain ⟨_, ⟨o, _, _, e, _⟩, _⟩ := J.loc
    exact unt (other e) J4.free
  exact { ok := J4.ok, os := J4.os, bare := J4.bare, base := base', loc := J4.loc, cell := J4.cell, free := fr', hok := hok', len := J4.len
          freeC := fun x c e => by
            obtain ⟨_, o, e2, _⟩ := J.cell x c e
            exact unt (other e2) (J4.freeC x c e)
          pin := fun p hp => by
            have z := J4.pin p hp
            exact ⟨z.1, unt (other (J.pin p hp).1) z.2.1, z.2.2⟩ }
theorem inSuite (I : Inv X pins q H s) : Inv (X.suite a (X.pn ++ pins)) [] q H s where
  ok := I.ok.suite a _
  os := I.os
  bare := I.bare
  base := I.base
  loc := I.loc
  cell := I.cell
  free := I.free
  freeC := I.freeC
  pin := fun p hp => I.pin p (by simpa using hp)
  hok := I.hok
  len := I.len
theorem outSuite {pn' : List (Addr × Obj)} (I : Inv (X.suite a (X.pn ++ pins)) pn' q H s) (ok : X.Ok) : Inv X pins q H s where
  ok := ok
  os := I.os
  bare := I.bare
  base := I.base
  loc := I.loc
  cell := I.cell
  free := I.free
  freeC := I.freeC
  pin := fun p hp => I.pin p (List.mem_append_left _ hp)
  hok := I.hok
  len := I.len
end
def aft1 (i : Option Nat) (s : L2.St) : L2.St := match i with
  | some i => s.set i none
  | none => s
def bef1 (i : Option Nat) (a : Addr) (s : L2.St) : L2.St := match i with
  | some i => s.set i (some (.ref a))
  | none => s
def endsAt (i : Option Nat) (D : Ends) : Ends := ⟨fun s H => D.nx (aft1 i s) H, D.rt, fun s H => D.bk (aft1 i s) H, fun s H => D.ct (aft1 i s) H⟩
def wTry (K : PySem.W.Frag) (c : Value) (i : Option Nat) (ts : TS) (Wout : WX) (D : Ends) : WX := fun cls d s H =>
  ∃ b, PySem.W.exmOne K cls c = some b ∧ if b = true then d = none ∧ ∀ a, H a = none → ts (endsAt i D) (bef1 i a s) (upd H a (ExT cls a)) else Wout cls d s H
section
variable {X : Cx} {pins : List (Addr × Obj)} {Wout : WX} {D : Ends}
theorem goesOn {a : Addr} {B h3 : Heap} {sI s' : Shared} {pn : List (Addr × Obj)} {q : L2.St} {H : Hp} {cls : Value} {d : Option Addr} (tk : Takes X Wout) (hs : X.stack = X.env :: X.outer) (hf : X.env.frame = some X.env.locals) (J : Inv X pins q H sI)
    (grd : ∀ b o, sI.heap.get? b = some o → b ∉ frs X.stack → B.get? b = some o) (fl : HandSPX.FlyingZ B (X.env :: X.outer) a (Zc cls d) h3) (up : sI.heap.UpToSlots h3) (free : H a = none) (os : s'.os = sI.os) (ag : AllBare s'.gens) (w : Wout cls d q H) :
    wpAny (model X.prog X.w) X.A (handleBy (.ref a) X.env []) (SP X pn D) X.xe { s' with heap := h3 } := by
  obtain ⟨_, _, _, oe, vs, t0, t1, t2, at3, z3, dt3, f1, _⟩ := id fl
  have last : wpAny (model X.prog X.w) X.A (setFlight (.ref a) X.env.frame) (fun _ s4 => wpAny (model X.prog X.w) X.A (throw (.ref a) : Sem Flow) (SP X pn D) X.xe s4) X.xe { s' with heap := h3 } := by
    rw [hf]
    apply HandSPX.setFlight_upZ fl
    intro h5 held5 up5
    apply wpAny_throw
    apply tk
    exact ⟨a, B, sI, pins, q, H, cls, d, rfl, J, grd, up.trans up5, .inr (.inr (hs ▸ held5)), free, os, ag, w⟩
  apply wpAny_handleBy_nil
  show wpAny _ _ (PySem.passOn _ _ _) _ _ _
  unfold PySem.passOn
  apply wpAny_bind
  apply wpAny_field at3 dt3 f1
  rw [if_neg (show ¬ (Value.ref t0 == Value.none) = true from by simp)]
  first
    | exact wpAny_bind last
    | exact wpAny_bind (wpAny_pure (wpAny_bind last))
theorem suiteEnd {a : Addr} {i : Option Nat} {f : Flow} {s6 : Shared} (ok : X.Ok) {Qf : Flow → Shared → Prop} (fin : ∀ {q6 : L2.St} {H6 : Hp} {f : Flow}, Inv X pins q6 H6 s6 → (∀ s7, Inv X pins (aft1 i q6) H6 s7 → SP X pins D f s7) → Qf f s6)
    (h : SP (X.suite a (X.pn ++ pins)) [] (endsAt i D) f s6) : Qf f s6 := by
  cases f with
  | next => obtain ⟨q6, H6, S6, w6⟩ := h; exact fin (outSuite S6 ok) fun s7 J7 => ⟨_, _, J7, w6⟩
  | brk => obtain ⟨q6, H6, S6, w6⟩ := h; exact fin (outSuite S6 ok) fun s7 J7 => ⟨_, _, J7, w6⟩
  | cont => obtain ⟨q6, H6, S6, w6⟩ := h; exact fin (outSuite S6 ok) fun s7 J7 => ⟨_, _, J7, w6⟩
  | ret u => obtain ⟨v6, q6, H6, S6, r6, w6⟩ := h; exact fin (outSuite S6 ok) fun s7 J7 => ⟨_, _, _, J7, r6, w6⟩
theorem tryTrk {x : Str} {c : Value} {i : Option Nat} {nm : Option Str} {body suite : List Stmt} {b0 : Stmt} {np pos pos' : Pos} {tb : WX → TS} {ts : TS} (noex : X.ex = []) (hs : X.stack = X.env :: X.outer) (hf : X.env.frame = some X.env.locals) (hN : X.N.Nodup)
    (hn : (i = none ∧ nm = none) ∨ ∃ j n, i = some j ∧ nm = some n ∧ X.N[j]? = some n ∧ X.env.kindOf n = some .local) (hc : Names X x c) (tk : Takes X Wout)
    (hb : ∀ (W : WX) (pn : List (Addr × Obj)) (xe : Value → Shared → Prop), Takes (X.tr pn xe) W → PassesOwn (model X.prog X.w) X.A X.env xe → PSs (X.tr pn xe) body (tb W))
    (hsu : ∀ (a : Addr) (pn : List (Addr × Obj)), PSs (X.suite a pn) (b0 :: suite) ts) :
    PS X (.Try body [.ExceptHandler (some (.Name x np)) nm (b0 :: suite) pos'] [] [] pos) (fun D q H => tb (wTry X.K c i ts Wout D) D q H) := by
  constructor
  intro pins s q H D I h
  have ok := I.ok
  apply wpAny_Try_except
  have run := (hb (wTry X.K c i ts Wout D) (X.pn ++ pins) (fun e s₁ => wpAny (model X.prog X.w) X.A (noteFrame e X.env) (fun _ s₂ => wpAny (model X.prog X.w) X.A (setFlight e none) (fun _ s₃ =>
    wpAny (model X.prog X.w) X.A (handleBy e X.env [.ExceptHandler (some (.Name x np)) nm (b0 :: suite) pos']) (SP X pins D) X.xe s₃) X.xe s₂) X.xe s₁) ?tk PassesOwn.looking).run [] s q H D (I.toTry _) h
  case tk =>
    rintro u s2 ⟨a, B, sI, pins2, q2, H2, cls, d, rfl, J2, grd, up, sky, free, os, ag, b, eb, w⟩
    have J : Inv X pins q2 H2 sI := J2.ofTry ok
    have fr : X.A.frames = some (X.env :: X.outer) := hs ▸ ok.frames
    show wpAny (model X.prog X.w) X.A (noteFrame (.ref a) X.env) _ _ _
    refine Sky.land Zc.steady fr hf (show Sky B (X.env :: X.outer) a (Zc cls d) X.env.locals s2.heap from hs ▸ sky) fun h3 fl3 up3 => ?_
    obtain ⟨oe3, vs3, at3, z3, dt3⟩ := fl3.there
    have off : a ∉ frs (X.env :: X.outer) := fun hm => by
      obtain ⟨_, o, e, nd⟩ := fl3.2.2.1.mem hm
      exact nd vs3 (Option.some.inj (at3.symm.trans e) ▸ dt3)
    have J3 : Inv X pins q2 H2 { s2 with heap := h3 } := J.landed grd fl3.1 (up.trans up3) os ag
    have S3 : Inv (X.suite a (X.pn ++ pins)) [] q2 H2 { s2 with heap := h3 } := inSuite J3
    have kind : PySem.W.Looks (model X.prog X.w) h3 (excMatches (.ref a) c) b := PySem.W.exm_one J3.kIn (fun A Q E s k q => wpAny_typeOf_ref (k _ _ at3) (z3.1.symm ▸ q)) eb
    refine wpAny_handleBy_cons (codeAny_handlers_test ?_) (fun z => nomatch z)
    have named : ∀ {Q : Value → Shared → Prop} {E : Value → Shared → Prop}, Q c { s2 with heap := h3 } → wpAny (model X.prog X.w) (X.A.mark (some (.ref a))) (eval (.Name x np) X.env) Q E { s2 with heap := h3 } := fun {Q E} k => by
      obtain ⟨g1, g2, g3 | ⟨g3, g4, g5⟩⟩ := hc
      · exact ld_glob (X := X.suite a (X.pn ++ pins)) S3 g1 g3 k g2
      · exact ld_blt (X := X.suite a (X.pn ++ pins)) S3 g1 g3 g4 k g5 g2
    refine named (kind.here ?_)
    cases b with
    | false => exact goesOn tk hs hf J grd fl3 (up.trans up3) free os ag w
    | true =>
      obtain ⟨rfl, w⟩ := w
      have tr : ∀ h4, HandSPX.FlyingZ B (X.env :: X.outer) a (Zc cls none) h4 → h3.UpToSlots h4 → Inv (X.suite a (X.pn ++ pins)) [] q2 (upd H2 a (ExT cls a)) { s2 with heap := h4 } := fun h4 fl4 up4 => by
        obtain ⟨oe4, vs4, at4, z4, dt4⟩ := fl4.there
        exact inSuite (trackExc J grd fl3.2.1 noex off (J.landed grd fl4.1 ((up.trans up3).trans up4) os ag) at4 z4 dt4 free)
      rcases hn with ⟨rfl, rfl⟩ | ⟨j, n, rfl, rfl, hj, hl⟩
      · apply codeAny_handlers_suite
        refine HandSPX.lands_againZ fl3 fun h4 fl4 up4 => ?_
        refine wpAny_mono ((hsu a (X.pn ++ pins)).run [] _ _ _ (endsAt none D) (tr h4 fl4 up4) (w a free)) (fun f s6 k6 => ?_) (fun _ _ z => z.elim)
        exact suiteEnd (i := none) (Qf := fun f s6 => SP X pins D f s6) ok (fun J6 k => k _ J6) k6
      · apply codeAny_handlers_suite_as
        refine HandSPX.lands_againZ fl3 fun h4 fl4 up4 => ?_
        refine store_ok (X := X.suite a (X.pn ++ pins)) (v := .ref a) (tr h4 fl4 up4) hN hj (.inl hl) rfl (fun s5 S5 => ?_) (.inr hl)
        refine wpAny_mono ((hsu a (X.pn ++ pins)).run [] s5 _ _ (endsAt (some j) D) S5 (w a free)) (fun f s6 k6 => ?_) (fun _ _ z => z.elim)
        exact suiteEnd (i := some j) (Qf := fun f s6 => wpAny (model X.prog X.w) X.A (do bindName X.env n .none; unbindBehindTheSuite X.env n pos') (fun _ s7 => SP X pins D f s7) X.xe s6) ok (fun J6 k => gone_ok J6 hN hj hl k) k6
  refine wpAny_mono run (fun f s1 k => ?_) (fun e s1 k => k)
  cases f with
  | next => obtain ⟨q1, H1, J1, w⟩ := k; exact wpAny_execs_nil ⟨q1, H1, J1.ofTry ok, w⟩
  | brk => obtain ⟨q1, H1, J1, w⟩ := k; exact ⟨q1, H1, J1.ofTry ok, w⟩
  | cont => obtain ⟨q1, H1, J1, w⟩ := k; exact ⟨q1, H1, J1.ofTry ok, w⟩
  | ret u => obtain ⟨v, q1, H1, J1, rr, w⟩ := k; exact ⟨v, q1, H1, J1.ofTry ok, rr, w⟩
end
end VL

namespace VL
open PySem PySem.Spec PyProof.Rows L2
def putE (i : Option Nat) (c : Nat) (r : Rho) : Rho := match i with
  | some j => r.set j (some (.exc c))
  | none => r
def remE (i : Option Nat) (r : Rho) : Rho := match i with
  | some j => r.set j none
  | none => r
def inClause (i : Option Nat) (o : SO) : SO := match o with
  | .nx r => .nx (remE i r)
  | .bk r => .bk (remE i r)
  | .ct r => .ct (remE i r)
  | .rt x r => .rt x r
  | _ => .bad
def cTry (tb : Nat → Option Bool) (i : Option Nat) (fb fs : Sv) : Sv := fun r => match fb r with
  | .exc c r1 => (match tb c with
    | some true => inClause i (fs (putE i c r1))
    | some false => .exc c r1
    | none => .bad)
  | o => o
section
variable {X : Cx} {G : GX} {C : Fc} {W : WX} {ow ow' : Ow} {r : Rho} {T T1 T2 : List (D × V)} {s : L2.St} {H H' : Hp}
theorem vs_try {x : Str} {cv : Value} {i : Option Nat} {nm : Option Str} {body suite : List Stmt} {b0 : Stmt} {np pos pos' : Pos} {tb : Nat → Option Bool} {fb fs : Sv} (noex : X.ex = []) (hs : X.stack = X.env :: X.outer) (hf : X.env.frame = some X.env.locals) (hN : X.N.Nodup)
    (hn : (i = none ∧ nm = none) ∨ ∃ j n, i = some j ∧ nm = some n ∧ X.N[j]? = some n ∧ X.env.kindOf n = some .local) (hp : ∀ j, i = some j → ∀ p ∈ C.pin, p.1 ≠ j) (hc : Names X x cv) (tk : Takes X W) (hE : ∀ c b, tb c = some b → PySem.W.exmOne X.K (.ref (G c)) cv = some b)
    (hb : ∀ (W' : WX) (pn : List (Addr × Obj)) (xe : Value → Shared → Prop), Takes (X.tr pn xe) W' → PassesOwn (model X.prog X.w) X.A X.env xe → VSs (X.tr pn xe) G C W' body fb)
    (hsu : ∀ (a : Addr) (pn : List (Addr × Obj)), VSs (X.suite a pn) G C W0 (b0 :: suite) fs) :
    VS X G C W (.Try body [.ExceptHandler (some (.Name x np)) nm (b0 :: suite) pos'] [] [] pos) (cTry tb i fb fs) := by
  refine PS.imp (tryTrk (Wout := W) (tb := fun W' => tVS G C W' fb) (ts := tVS G C W0 fs) noex hs hf hN hn hc tk hb hsu) fun D s H h => ?_
  obtain ⟨r, T, S, g⟩ := h
  refine ⟨r, T, S, ?_⟩
  unfold cTry at g
  cases e : fb r with
  | nx r1 => rw [e] at g; exact g
  | rt x r1 => rw [e] at g; exact g
  | bk r1 => rw [e] at g; exact g
  | ct r1 => rw [e] at g; exact g
  | bad => rw [e] at g; exact g
  | exc c r1 =>
    simp only [e] at g
    intro s' H' S'
    cases e1 : tb c with
    | none => simp only [e1] at g; exact g.elim
    | some b =>
      refine ⟨b, hE c b e1, ?_⟩
      simp only [e1] at g
      cases b with
      | false => rw [if_neg Bool.false_ne_true]; exact g s' H' S'
      | true =>
        rw [if_pos rfl]
        refine ⟨rfl, fun a ha => ?_⟩
        have S1 : StOk G C r1 T s' (upd H' a (ExT (.ref (G c)) a)) := S'.new ha
        have S2 : StOk G C (putE i c r1) T (bef1 i a s') (upd H' a (ExT (.ref (G c)) a)) := by
          cases i with
          | none => exact S1
          | some j => exact StOk.set (d := .exc c) (v := .ref a) (S1.pushA rfl fun ow l => ⟨a, rfl, upd_same⟩) (hp j rfl)
        refine ⟨_, T, S2, ?_⟩
        have rem : ∀ {r2 : Rho} {s2 : L2.St} {H2 : Hp}, StOk G C r2 T s2 H2 → StOk G C (remE i r2) T (aft1 i s2) H2 := fun {r2 s2 H2} S3 => by
          cases i with
          | none => exact S3
          | some j => exact S3.wipe1 (hp j rfl)
        simp only at g
        cases e2 : fs (putE i c r1) with
        | nx r2 => rw [e2] at g; exact fun s2 H2 S3 => g _ _ (rem S3)
        | bk r2 => rw [e2] at g; exact fun s2 H2 S3 => g _ _ (rem S3)
        | ct r2 => rw [e2] at g; exact fun s2 H2 S3 => g _ _ (rem S3)
        | rt x r2 => rw [e2] at g; exact g
        | exc c' r2 => rw [e2] at g; exact g.elim
        | bad => rw [e2] at g; exact g.elim

def tyN : D → Option String
  | .non => some "NoneType"
  | .bl _ => some "bool"
  | .int _ => some "int"
  | .str _ => some "str"
  | .node .lst _ _ => some "list"
  | .node .tup _ _ => some "tuple"
  | .node (.dK _) _ _ => some "dict"
  | .node (.dT _) _ _ => some "dict"
  | _ => none
def tyNames : List String := ["NoneType", "bool", "int", "str", "list", "tuple", "dict"]
def isB (a b : String) : Option Bool := if tyNames.contains a && tyNames.contains b then some (a == b || (a == "bool" && b == "int")) else none
theorem kitB_all : (tyNames.all fun a => tyNames.all fun b => decide (kitB a b = some (a == b || (a == "bool" && b == "int")))) = true := by decide +kernel
theorem isB_ok {K : PySem.W.Frag} {a b : String} {r : Bool} (h : isB a b = some r) : PySem.W.kitOne K (.type a) (.type b) = some r := by
  unfold isB at h
  split at h
  · rename_i c
    rw [Bool.and_eq_true] at c
    cases h
    have z := kitB_all
    rw [List.all_eq_true] at z
    have z2 := z a (by simpa using c.1)
    rw [List.all_eq_true] at z2
    exact kit_ty (of_decide_eq_true (z2 b (by simpa using c.2)))
  · cases h
def clsU (G : GX) : D → Option Value
  | .ty n => some (.type n)
  | .cls c => some (.ref (G c))
  | _ => none
abbrev ETab := Nat → D → Option Bool
def isiB (a : Option String) (c : D) : Option Bool := match a, c with
  | some a, .ty n => isB a n
  | _, _ => none
def isi1 (E : ETab) (d c : D) : Option Bool := match d with
  | .exc k => E k c
  | d => isiB (tyN d) c
def isiAny (E : ETab) (d : D) : List D → Option Bool
  | [] => some false
  | c :: cs => match isi1 E d c with
    | some true => some true
    | some false => isiAny E d cs
    | none => none
def ETabOk (K : PySem.W.Frag) (G : GX) (E : ETab) : Prop := ∀ k c b, E k c = some b → ExcC K (G k) ∧ ∃ u, clsU G c = some u ∧ PySem.W.kitOne K (.ref (G k)) u = some b
def rIx (K : PySem.W.Frag) : List V → Hp → VK → Prop := fun xs H Q => ∃ (a A : Addr) (c : V) (u : Value) (b : Bool), xs = [.ref a, c] ∧ H a = some (ExT (.ref A) a) ∧ ExcC K A ∧ ClsV c u ∧ PySem.W.kitOne K (.ref A) u = some b ∧ Q (.bl b) H
def rIxT (K : PySem.W.Frag) : List V → Hp → VK → Prop := fun xs H Q => ∃ (a A tp : Addr) (cs : List V) (us : List Value) (b : Bool), xs = [.ref a, .ref tp] ∧ H a = some (ExT (.ref A) a) ∧ ExcC K A ∧ H tp = some (.tup cs) ∧ Paired ClsV cs us ∧ PySem.W.kitAny K (.ref A) us = some b ∧ Q (.bl b) H
theorem exc_kit {K : PySem.W.Frag} {a A : Addr} (E : ExcC K A) {pins : List (Addr × Obj)} {σ : L2.St} {H : Hp} {s : Shared} (I : Inv X pins σ H s) (h : H a = some (ExT (.ref A) a)) : ∃ oe, PySem.W.InstAt s.heap a oe A none ∧ PySem.W.KitX K (.ref a) (.ref A) (fun h => PySem.W.InstAt h a oe A none) := by
  obtain ⟨⟨oe, vs, e, z, d⟩, _⟩ := I.hok a _ h
  refine ⟨oe, ?_, PySem.W.handS_kitx_exc E.hg E.hk E.hs E.hd E.ha E.hn E.ht E.hm⟩
  obtain ⟨oc, od, oda, osl⟩ := oe
  obtain ⟨z1, z2⟩ := z
  dsimp only at z1 z2 d
  subst z1 z2 d
  exact ⟨e, rfl, rfl, trivial⟩
theorem call_ix : CallR X (.builtin "isinstance") (rIx X.K) := by
  intro pins s σ H xs us Q I r h
  obtain ⟨a, A, c, u, b, rfl, ha, E, k, e, q⟩ := h
  obtain ⟨u1, u2, rfl, r1, r2⟩ := vals2 r
  cases (show u1 = Value.ref a from r1)
  have e2 := k.eq r2
  subst e2
  obtain ⟨oe, J, Z⟩ := exc_kit E I ha
  exact PySem.W.kia_one Z I.kIn J e (fun z => nomatch z) fun tk => ⟨.bl b, H, I.tok tk, rfl, q⟩
theorem call_ixT : CallR X (.builtin "isinstance") (rIxT X.K) := by
  intro pins s σ H xs us Q I r h
  obtain ⟨a, A, tp, cs, ws, b, rfl, ha, E, hT, k, e, q⟩ := h
  obtain ⟨u1, u2, rfl, r1, r2⟩ := vals2 r
  cases (show u1 = Value.ref a from r1)
  cases (show u2 = Value.ref tp from r2)
  obtain ⟨oe, J, Z⟩ := exc_kit E I ha
  obtain ⟨_, its, rv, o, h1, h2, n, h3⟩ := I.hok tp _ hT
  have e3 := ClsV.all k rv
  subst e3
  obtain ⟨oc, od, dt, sl⟩ := o
  dsimp only at h2 h3
  subst h2 h3
  exact PySem.W.kia_tup Z I.kIn J h1 e (fun z => nomatch z) fun tk => ⟨.bl b, H, I.tok tk, rfl, q⟩
theorem tyN_ok {K : PySem.W.Frag} {d : D} {l : Loc} {v : V} {a : String} (h : Rep G ow H d l v) (e : tyN d = some a) : TyX K H v (.type a) := by
  cases d with
  | non => cases e; have z := rep_non h; subst z; exact .base .non
  | bl b => cases e; have z := rep_bl h; subst z; exact .base (.bl b)
  | int b => cases e; have z := rep_int h; subst z; exact .base (.int b)
  | str b => cases e; have z := rep_str h; subst z; exact .base (.str b)
  | node k o xs =>
    obtain ⟨p, vs, ev, h1, h2, h3⟩ := h
    subst ev
    cases k with
    | lst => cases e; exact .base (.lst h1)
    | rd => cases e
    | tup => cases e; exact .base (.tup h1)
    | dK ks => cases e; exact .base (.dK h1.1)
    | dT ks => cases e; exact .base (.dT h1.1)
    | _ => cases e
  | _ => cases e
theorem clsU_ok {d : D} {l : Loc} {v : V} {u : Value} (h : Rep G ow H d l v) (e : clsU G d = some u) : ClsV v u := by
  cases d with
  | ty n => cases e; have z : v = .ty n := h; subst z; exact .ty n
  | cls c => cases e; have z : v = .ref (G c) := h; subst z; exact .own _
  | _ => cases e
theorem isi1_ok {K : PySem.W.Frag} {E : ETab} (hE : ETabOk K G E) {d c : D} {b : Bool} (e : isi1 E d c = some b) : (∃ k u, d = .exc k ∧ ExcC K (G k) ∧ clsU G c = some u ∧ PySem.W.kitOne K (.ref (G k)) u = some b) ∨ ∃ a u, tyN d = some a ∧ clsU G c = some u ∧ PySem.W.kitOne K (.type a) u = some b := by
  have go : ∀ a, tyN d = some a → isiB (some a) c = some b → ∃ a u, tyN d = some a ∧ clsU G c = some u ∧ PySem.W.kitOne K (.type a) u = some b := fun a ha z => by
    cases c with
    | ty n => exact ⟨a, _, ha, rfl, isB_ok z⟩
    | _ => cases z
  cases d with
  | exc k =>
    obtain ⟨h1, u, h2, h3⟩ := hE k c b e
    exact .inl ⟨k, u, rfl, h1, h2, h3⟩
  | non => exact .inr (go _ rfl e)
  | bl _ => exact .inr (go _ rfl e)
  | int _ => exact .inr (go _ rfl e)
  | str _ => exact .inr (go _ rfl e)
  | node k o xs =>
    cases k with
    | ins c fs => cases e
    | rd => cases e
    | _ => exact .inr (go _ rfl e)
  | _ => cases e
theorem kitAny_of {K : PySem.W.Frag} {t : Value} {E : ETab} {d : D} (hd : ∀ c b, isi1 E d c = some b → ∃ u, clsU G c = some u ∧ PySem.W.kitOne K t u = some b) : ∀ {cs : List D} {b : Bool} {l : Loc} {i : Nat} {vs : List V}, isiAny E d cs = some b → (∀ c ∈ cs, ∃ u, clsU G c = some u) → Reps G ow H cs l i vs → ∃ us, Paired ClsV vs us ∧ PySem.W.kitAny K t us = some b
  | [], b, _, _, vs, e, _, h => by
    have z : vs = [] := h
    subst z
    cases e
    exact ⟨[], .nil, rfl⟩
  | c :: cs, b, l, i, vs, e, hu, h => by
    obtain ⟨v, ws, ev, h1, h2⟩ := h
    subst ev
    unfold isiAny at e
    cases e1 : isi1 E d c with
    | none => rw [e1] at e; cases e
    | some b1 =>
      rw [e1] at e
      obtain ⟨u, g1, g2⟩ := hd c b1 e1
      cases b1 with
      | true =>
        cases e
        have rest : ∀ {cs : List D} {l : Loc} {i : Nat} {vs : List V}, (∀ c ∈ cs, ∃ u, clsU G c = some u) → Reps G ow H cs l i vs → ∃ us, Paired ClsV vs us := by
          intro cs
          induction cs with
          | nil => intro l i vs _ h; have z : vs = [] := h; subst z; exact ⟨[], .nil⟩
          | cons c cs ih =>
            intro l i vs hu h
            obtain ⟨v, ws, ev, h1, h2⟩ := h
            subst ev
            obtain ⟨u, hc⟩ := hu c List.mem_cons_self
            obtain ⟨us, p⟩ := ih (fun c hc => hu c (List.mem_cons_of_mem _ hc)) h2
            exact ⟨u :: us, .cons (clsU_ok h1 hc) p⟩
        obtain ⟨us, p⟩ := rest (fun c hc => hu c (List.mem_cons_of_mem _ hc)) h2
        refine ⟨u :: us, .cons (clsU_ok h1 g1) p, ?_⟩
        unfold PySem.W.kitAny
        rw [g2]
      | false =>
        obtain ⟨us, p, k⟩ := kitAny_of hd e (fun c hc => hu c (List.mem_cons_of_mem _ hc)) h2
        refine ⟨u :: us, .cons (clsU_ok h1 g1) p, ?_⟩
        unfold PySem.W.kitAny
        rw [g2]
        exact k
def isCls : D → Bool
  | .ty _ => true
  | .cls _ => true
  | _ => false
def gIsi (E : ETab) : List R → Rho → EO := fun xs r => match xs with
  | [x, .val (.node .tup _ cs)] => (match opd r x with
    | some d => if (cs.all isCls && !cs.isEmpty) = true then (match isiAny E d cs with
      | some b => .ok (.val (.bl b)) r
      | none => .bad) else .bad
    | none => .bad)
  | [x, .val c] => (match opd r x with
    | some d => (match isi1 E d c with
      | some b => .ok (.val (.bl b)) r
      | none => .bad)
    | none => .bad)
  | _ => .bad
theorem isCls_u {c : D} (h : isCls c = true) : ∃ u, clsU G c = some u := by
  cases c with
  | ty n => exact ⟨_, rfl⟩
  | cls n => exact ⟨_, rfl⟩
  | _ => cases h
def rIsiAll (K : PySem.W.Frag) : List V → Hp → VK → Prop := fun vs H Q => rIsi K vs H Q ∨ rIsiT K vs H Q ∨ rIx K vs H Q ∨ rIxT K vs H Q
theorem call_isiAll : CallR X (.builtin "isinstance") (rIsiAll X.K) := call_isi.or (call_isiT.or (call_ix.or call_ixT))
theorem isi_go {E : ETab} (hE : ETabOk X.K G E) {xs : List R} {vs : List V} {Q : VK} (S : StOk G C r (T ++ pushs xs vs) s H) (l : LocsOk s xs vs) (q : Goes G C W T s Q (gIsi E xs r)) : rIsiAll X.K vs H Q := by
  obtain ⟨ow, S⟩ := S
  unfold gIsi at q
  split at q
  · rename_i x o cs
    cases vs with
    | nil => exact l.elim
    | cons v vs =>
      cases vs with
      | nil => exact l.2.elim
      | cons u vs =>
        cases vs with
        | cons _ _ => exact l.2.2.elim
        | nil =>
          have S' : StW G C ow r (T ++ (pushR x v ++ [(.node .tup o cs, u)])) s H := by simpa [pushs, pushR] using S
          split at q
          · rename_i d e1
            split at q
            · rename_i hc
              split at q
              · rename_i b eb
                have hd := opd_rep S' l.1 e1
                have ht := StW.last (T := T ++ pushR x v) (by rw [List.append_assoc]; exact S')
                obtain ⟨tp, ws, eu, h1, h2, h3⟩ := ht
                subst eu
                rw [Bool.and_eq_true] at hc
                have hu : ∀ c ∈ cs, ∃ u, clsU G c = some u := fun c hcm => isCls_u (List.all_eq_true.mp hc.1 c hcm)
                obtain ⟨c0, cs', rfl⟩ : ∃ c0 cs', cs = c0 :: cs' := by
                  cases cs with
                  | nil => exact absurd hc.2 (by simp)
                  | cons c0 cs' => exact ⟨c0, cs', rfl⟩
                obtain ⟨b1, e2⟩ : ∃ b1, isi1 E d c0 = some b1 := by
                  unfold isiAny at eb
                  cases e2 : isi1 E d c0 with
                  | none => rw [e2] at eb; cases eb
                  | some b1 => exact ⟨b1, rfl⟩
                have fin : Q (.bl b) H := goes_val q ⟨ow, S.drop⟩ rfl fun _ _ => rfl
                by_cases hx : ∃ k, d = .exc k
                · obtain ⟨k, rfl⟩ := hx
                  obtain ⟨a, ev, ha⟩ := hd
                  subst ev
                  have hex : ExcC X.K (G k) := (hE k c0 b1 e2).1
                  obtain ⟨us, p, kk⟩ := kitAny_of (E := E) (d := .exc k) (t := .ref (G k)) (fun c b hb => (hE k c b hb).2) eb hu h3
                  exact .inr (.inr (.inr ⟨a, G k, tp, ws, us, b, rfl, ha, hex, h1, p, kk, fin⟩))
                · rcases isi1_ok hE e2 with ⟨k, _, e, _⟩ | ⟨a, _, ht, _⟩
                  · exact absurd ⟨k, e⟩ hx
                  · obtain ⟨us, p, kk⟩ := kitAny_of (K := X.K) (t := .type a) (fun c b hb => by
                      rcases isi1_ok hE hb with ⟨k, _, e, _⟩ | ⟨a', u, g1, g2, g3⟩
                      · exact absurd ⟨k, e⟩ hx
                      · rw [ht] at g1; cases g1; exact ⟨u, g2, g3⟩) eb hu h3
                    exact .inr (.inl ⟨v, tp, ws, _, us, b, rfl, h1, p, tyN_ok hd ht, kk, fin⟩)
              · exact q.elim
            · exact q.elim
          · exact q.elim
  · rename_i x c hnt
    cases vs with
    | nil => exact l.elim
    | cons v vs =>
      cases vs with
      | nil => exact l.2.elim
      | cons u vs =>
        cases vs with
        | cons _ _ => exact l.2.2.elim
        | nil =>
          have S' : StW G C ow r (T ++ (pushR x v ++ [(c, u)])) s H := by simpa [pushs, pushR] using S
          split at q
          · rename_i d e1
            split at q
            · rename_i b eb
              have hd := opd_rep S' l.1 e1
              have hc := StW.last (T := T ++ pushR x v) (by rw [List.append_assoc]; exact S')
              have fin : Q (.bl b) H := goes_val q ⟨ow, S.drop⟩ rfl fun _ _ => rfl
              rcases isi1_ok hE eb with ⟨k, w, rfl, hex, hu, kk⟩ | ⟨a, w, ht, hu, kk⟩
              · obtain ⟨p, ev, hp⟩ := hd
                subst ev
                exact .inr (.inr (.inl ⟨p, G k, u, w, b, rfl, hp, hex, clsU_ok hc hu, kk, fin⟩))
              · exact .inl ⟨v, u, _, w, b, rfl, clsU_ok hc hu, tyN_ok hd ht, kk, fin⟩
            · exact q.elim
          · exact q.elim
  · exact q.elim
theorem ve_isi {E : ETab} {fs : Av} {x : Str} {p pos : Pos} {e : Expr} {es : List Expr} (hE : ETabOk X.K G E) (hg : Gl X x) (hm : X.mg x = none) (hv : bootBuiltins x = some (.builtin "isinstance")) (ha : VA X G C W (e :: es) fs) (hn : x ≠ "__name__" := by decide) (hdb : (x == ("__debug__" : Str)) = false := by decide)
    (he : starEach (e :: es) X.env = (false, eval e X.env) :: starEach es X.env := by rfl) (hpl : (backTo pos (starEach es X.env)).any (·.1) = false := by rfl) : VE X G C W (.Call (.Name x p) (e :: es) [] pos) (cB (gIsi E) fs) := by
  refine PE.imp (pe_callB call_isiAll hg hm hv ha hn hdb he hpl) fun s H Q h => ?_
  obtain ⟨r, T, S, g⟩ := h
  exact many (T2 := []) (by simpa using S) g fun xs vs r1 H1 S1 l1 g1 => isi_go hE (by simpa using S1) l1 g1
theorem ve_gcls {c : Nat} {x : Str} {pos : Pos} (hg : Gl X x) (hm : X.mg x = some (.ref (G c))) (hd : (x == ("__debug__" : Str)) = false := by decide) : VE X G C W (.Name x pos) (cC (.cls c)) :=
  ve_c (pe_glob (v := .ref (G c)) hg hm rfl hd) rfl fun _ _ _ => rfl
theorem ve_gty {n : String} {x : Str} {pos : Pos} (hg : Gl X x) (hm : X.mg x = none) (hv : bootBuiltins x = some (.type n)) (hn : x ≠ "__name__" := by decide) (hd : (x == ("__debug__" : Str)) = false := by decide) : VE X G C W (.Name x pos) (cC (.ty n)) :=
  ve_c (pe_bltn (v := .ty n) hg hm hv rfl hn hd) rfl fun _ _ _ => rfl
end
end VL

namespace VL
open PySem PySem.Spec PyProof.Rows L2
section
variable {P : Program} {w : World} {K : PySem.W.Frag} {mg : Str → Option Value} {base : Heap} {G : GX}
theorem fnV2 {x qual : Str} {st : Stmt} {f : Addr} {fd : FuncData} {N ps : List Str} {k : Nat} {fb : Sv} (F : Fun K x qual st f fd) (S : FnScope N ps (defScope st))
    (hbody : ∀ (cdv : Value) (A : Around) (outer : List Env) (s : Shared) (H : Hp) (E : XK) (C : Fc), Room k (A.deeper (envOfC qual (defScope st) s.heap.objs.size f cdv)) → C.pin = [] → VSs (cxOf (L2.CX P w) P w K mg base N qual (defScope st) f cdv A outer s H E) G C (fun cls d _ H => E cls d H) (defBody st) fb) :
    FnOk P w K mg base (L2.CX P w) (k + 1) f fd ps (spV G ps.length (runF N.length fb)) := by
  refine F.okX S (fun vs H Q E h => spV_len h) (fun cdv A outer s H vs Q E hr h => ?_)
  obtain ⟨ds, ow0, h1, h2, h3, h4, ht, h5⟩ := h
  refine ⟨_, hbody cdv A outer s H E (fcOf H ow0) hr rfl, ?_⟩
  refine ⟨startR N.length ds, [], ⟨_, start_ok (N := N) ht h3 h2 h4⟩, ?_⟩
  unfold runF at h5
  cases e : fb (startR N.length ds) with
  | nx r =>
    rw [e] at h5
    intro s' H' S'
    obtain ⟨ow, S'⟩ := S'
    exact h5 .non H' (ext_of S') S'.tabs (behind_of (b := .tm 0) (fun z => nomatch z) S' rfl)
  | rt x r =>
    simp only [e] at h5
    intro s' v H' P'
    cases e2 : opd r x with
    | none => rw [e2] at h5; exact h5.elim
    | some d =>
      rw [e2] at h5
      obtain ⟨⟨ow, S'⟩, l⟩ := P'
      have z := opd_rep (T := []) (T2 := []) (by simpa using S') l e2
      refine h5 v H' (ext_of S') S'.tabs ?_
      cases x with
      | val d' => exact behind_of (b := .tm 0) (fun z => nomatch z) S' z
      | loc i => exact behind_of (b := .sl i) (fun z => nomatch z) S' z
  | exc c r =>
    simp only [e] at h5
    intro s' H' S'
    obtain ⟨ow, S'⟩ := S'
    exact h5 H' (ext_of S') S'.tabs
  | bk r => rw [e] at h5; exact h5.elim
  | ct r => rw [e] at h5; exact h5.elim
  | bad => rw [e] at h5; exact h5.elim
end
theorem pinV {C : Fc} (h : C.pin = []) (i : Nat) : ∀ p ∈ C.pin, p.1 ≠ i := fun p hp => by rw [h] at hp; simp at hp
theorem pinVo {C : Fc} (h : C.pin = []) (l : List Nat) : ∀ p ∈ C.pin, p.1 ∉ l := fun p hp => by rw [h] at hp; simp at hp
def keyOf : D → Option (Nat ⊕ String)
  | .cls j => some (.inl j)
  | .ty n => some (.inr n)
  | _ => none
abbrev Tab := List (Nat × (Nat ⊕ String) × Bool)
def findT (k : Nat) (q : Nat ⊕ String) : Tab → Option Bool
  | [] => none
  | (i, p, b) :: t => if i = k ∧ p = q then some b else findT k q t
def etab (t : Tab) : ETab := fun k c => match keyOf c with
  | some q => findT k q t
  | none => none
def tbOf (t : Tab) (j : Nat) : Nat → Option Bool := fun k => findT k (.inl j) t
def valOf (G : GX) : Nat ⊕ String → Value
  | .inl j => .ref (G j)
  | .inr n => .type n
structure RowT (K : PySem.W.Frag) (G : GX) (k : Nat) (q : Nat ⊕ String) (b : Bool) : Prop where
  ex : ExcC K (G k)
  base : PySem.W.subIn K (valOf G q) (.type "BaseException") = some true ∨ ∃ n, q = .inr n
  kit : PySem.W.kitCls K (.ref (G k)) (valOf G q) = some b
  self : Value.ref (G k) = valOf G q → b = true
def AllT (K : PySem.W.Frag) (G : GX) : Tab → Prop
  | [] => True
  | (k, q, b) :: t => RowT K G k q b ∧ AllT K G t
theorem AllT.find {K : PySem.W.Frag} {G : GX} {k : Nat} {q : Nat ⊕ String} {b : Bool} : ∀ {t : Tab}, AllT K G t → findT k q t = some b → RowT K G k q b
  | [], _, e => by cases e
  | (i, p, c) :: t, h, e => by
    unfold findT at e
    split at e
    · rename_i z
      obtain ⟨rfl, rfl⟩ := z
      cases e
      exact h.1
    · exact AllT.find h.2 e
theorem AllT.etab {K : PySem.W.Frag} {G : GX} {t : Tab} (h : AllT K G t) : ETabOk K G (VL.etab t) := fun k c b e => by
  unfold VL.etab at e
  cases e2 : keyOf c with
  | none => rw [e2] at e; cases e
  | some q =>
    rw [e2] at e
    have r := h.find e
    refine ⟨r.ex, valOf G q, ?_, ?_⟩
    · cases c with
      | ty n => cases e2; rfl
      | cls j => cases e2; rfl
      | _ => cases e2
    · unfold PySem.W.kitOne
      by_cases z : (Value.ref (G k) == valOf G q) = true
      · rw [if_pos z, r.self (by simpa using z)]
      · rw [if_neg z]; exact r.kit
theorem AllT.exm {K : PySem.W.Frag} {G : GX} {t : Tab} (h : AllT K G t) (j : Nat) : ∀ c b, tbOf t j c = some b → PySem.W.exmOne K (.ref (G c)) (.ref (G j)) = some b := fun c b e => by
  have r := h.find e
  unfold PySem.W.exmOne
  rcases r.base with z | ⟨n, z⟩
  · have z : PySem.W.subIn K (.ref (G j)) (.type "BaseException") = some true := z
    rw [z]
    exact r.kit
  · cases z
theorem kitCls_ref {K : PySem.W.Frag} {S : Addr} {t : Value} {b : Bool} (h2 : PySem.W.isClsIn K S = true) (h3 : PySem.W.typeIn K (.ref S) = some (.type "type")) (h4 : PySem.W.subIn K t (.ref S) = some b) : PySem.W.kitCls K t (.ref S) = some b := by
  have e2 : ((PySem.W.clsIn K S).isSome && PySem.W.typeIn K (.ref S) == some (.type "type")) = true := by
    have h2' : (PySem.W.clsIn K S).isSome = true := h2
    rw [h2', h3] <;> rfl
  show (if ((PySem.W.clsIn K S).isSome && PySem.W.typeIn K (.ref S) == some (.type "type")) = true then PySem.W.subIn K t (.ref S) else none) = some b
  rw [if_pos e2]
  exact h4
structure ClsF (K : PySem.W.Frag) (S : Addr) : Prop where
  ic : PySem.W.isClsIn K S = true
  tc : PySem.W.typeIn K (.ref S) = some (.type "type")
  bc : PySem.W.subIn K (.ref S) (.type "BaseException") = some true
theorem row_cls {K : PySem.W.Frag} {G : GX} {k j : Nat} {b : Bool} (hk : ExcC K (G k)) (hj : ClsF K (G j)) (self : PySem.W.subIn K (.ref (G k)) (.ref (G k)) = some true) (h : PySem.W.subIn K (.ref (G k)) (.ref (G j)) = some b) : RowT K G k (.inl j) b :=
  ⟨hk, .inl hj.bc, kitCls_ref hj.ic hj.tc h, fun e => by
    have e : Value.ref (G k) = Value.ref (G j) := e
    rw [← e, self] at h
    exact (Option.some.inj h).symm⟩
theorem row_ty {K : PySem.W.Frag} {G : GX} {k : Nat} {n : String} {b : Bool} (hk : ExcC K (G k)) (hm : PySem.W.kitMeta n = true) (h : PySem.W.subIn K (.ref (G k)) (.type n) = some b) : RowT K G k (.inr n) b :=
  ⟨hk, .inr ⟨n, rfl⟩, by
    show (if PySem.W.kitMeta n = true then PySem.W.subIn K (.ref (G k)) (.type n) else none) = some b
    rw [if_pos hm]; exact h, fun e => nomatch e⟩

def spLaw (K : PySem.W.Frag) : Sp := fun vs H Q _ => ∃ (a : Addr) (ns : List Int), vs = [.ref a] ∧ Holds ⟨fun _ => a, K, []⟩ H a .rd (ns.map V.int) ∧ ns.length ≤ 63 ∧ ∀ H', Q (.bl true) H'
theorem frzs_ints (ns : List Int) : frzs (ns.map D.int) = ns.map D.int := by
  rw [frzs_map, List.map_map]
  exact List.map_congr_left fun _ _ => rfl
theorem reps_ints {G : GX} {ow : Ow} {H : Hp} : ∀ (ns : List Int) (l : VL.Loc) (i : Nat), Reps G ow H (ns.map D.int) l i (ns.map V.int)
  | [], _, _ => rfl
  | n :: ns, l, i => ⟨_, _, rfl, rfl, reps_ints ns l (i + 1)⟩
def script (ns : List Int) : D := .node .rd false (ns.map D.int)
theorem law_imp {K : PySem.W.Frag} {G : GX} (hG : G.K = K) (hT : G.T = []) {F : List D → FO} (h : ∀ ns : List Int, ns.length ≤ 63 → F [script ns] = .ok (.bl true)) {vs : List V} {H : Hp} {Q : VK} {E : XK} (q : spLaw K vs H Q E) : spV G 1 F vs H Q E := by
  obtain ⟨a, ns, rfl, ha, hl, hq⟩ := q
  refine ⟨[script ns], fun _ => none, rfl, ?_, (fun a l z => nomatch z), ?_, (by rw [hT]; exact fun p hp => nomatch hp), ?_⟩
  · show [D.node .rd false (frzs (ns.map D.int))] = _
    rw [frzs_ints]; rfl
  · refine ⟨_, _, rfl, ⟨a, ns.map V.int, rfl, ?_, trivial, reps_ints ns _ _⟩, rfl⟩
    rcases ha with z | z
    · exact .inl z
    · exact .inr (by rw [hG]; exact z)
  · rw [h ns hl]
    intro v H' _ _ b
    obtain ⟨ow1, b, _, hr, _⟩ := b
    have e : v = .bl true := hr
    subst e
    exact hq H'
theorem law_in {K : PySem.W.Frag} {H : Hp} {a : Addr} {ns : List Int} (hl : ns.length ≤ 63) (hO : Only H) (hS : SqL K H a (ns.map V.int)) : spLaw K [.ref a] H (fun v _ => v = .bl true) fun _ _ _ => False := by
  refine ⟨a, ns, rfl, ?_, hl, fun _ => rfl⟩
  rcases hS with z | z
  · rcases hO a with q | ⟨o, xs, q⟩
    · rcases z with z | ⟨o, z⟩
      · rw [q] at z; cases z
      · exact .inl ⟨o, z⟩
    · rcases z with z | ⟨o, z⟩
      · rw [q] at z; cases z
      · exact .inl ⟨o, z⟩
  · exact .inr z
theorem fuel_ex : ∃ n : Nat, 1000000000 ≤ n := ⟨_, Nat.le_refl _⟩
noncomputable def fuel : Nat := Classical.choose fuel_ex
theorem fuel_ge : 1000000000 ≤ fuel := Classical.choose_spec fuel_ex
end VL

namespace VL
open PySem PySem.Spec PyProof.Rows L2
section
variable {X : Cx} {G : GX} {C : Fc} {W : WX} {ow ow' : Ow} {r : Rho} {T T1 T2 : List (D × V)} {s : L2.St} {H H' : Hp} {fa fb fc : Ev} {f g : Sv} {fs : Av}
theorem units65 {k : Nat} {A : Around} (h : Room k A) : A.units + 65 < cLine := by have := h.un; omega
def gRev (x : R) (r : Rho) : EO := match opd r x with
  | some (.node .lst _ xs) => .ok (.val (.node .lst true (frzs xs).reverse)) (touch r x)
  | some (.node .rd _ xs) => .ok (.val (.node .lst true (frzs xs).reverse)) (touch r x)
  | _ => .bad
def cRev (fa : Ev) : Ev := fun r => (fa r).bd gRev
theorem Reps.rev {ds : List D} {l : Loc} {vs : List V} (e : VL.frzs ds = ds) (h : Reps G ow H ds l 0 vs) : Reps G ow H ds.reverse l 0 vs.reverse ∧ VL.frzs ds.reverse = ds.reverse := by
  have hl := h.length
  refine ⟨Reps.of_get (by simp [hl]) fun j d v q1 q2 => ?_, by rw [frzs_map, List.map_reverse, ← frzs_map, e]⟩
  have hj : j < ds.length := by
    have := (List.getElem?_eq_some_iff.mp q1).1
    simpa using this
  rw [List.getElem?_reverse hj] at q1
  rw [List.getElem?_reverse (by omega), ← hl] at q2
  obtain ⟨v', z1, z2⟩ := h.get _ d q1
  rw [q2] at z1
  cases z1
  have f : VL.frz d = d := by
    have := congrArg (·[ds.length - 1 - j]?) e
    simp only [frzs_map, List.getElem?_map, q1, Option.map_some] at this
    exact Option.some.inj this
  exact Rep.moveF d f (fun a o z q => ⟨z, q⟩) (fun _ _ z _ => z) z2
theorem ve_rev {a : Expr} {k : Nat} {p1 p2 p3 pos : Pos} (hK : G.K = X.K) (ha : VE X G C W a fa) : VE X G C W (.Subscript a (.Slice none none (some (.UnaryOp .USub (.Constant (.int 1) k p1) p2)) p3) pos) (cRev fa) := by
  refine PE.imp (pe_revL ha) fun s H Q h => ?_
  obtain ⟨r, T, S, g⟩ := h
  refine one S g fun x v r1 H1 P g1 => ?_
  obtain ⟨ow, S3⟩ := P.1
  unfold gRev at g1
  split at g1
  · rename_i o xs e1
    obtain ⟨ow', p, vs, S', ev, h1, rx, _⟩ := S3.parts P.2 e1
    subst ev
    obtain ⟨c1, c2⟩ := (rx ⟨.fo, []⟩).rev (frzs_frzs xs)
    exact ⟨p, vs, rfl, SqL.of h1, S'.made c2 c1 g1⟩
  · rename_i o xs e1
    obtain ⟨ow', p, vs, S', ev, h1, rx, _⟩ := S3.parts P.2 e1
    subst ev
    obtain ⟨c1, c2⟩ := (rx ⟨.fo, []⟩).rev (frzs_frzs xs)
    exact ⟨p, vs, rfl, hK ▸ h1.seq, S'.made c2 c1 g1⟩
  · exact g1.elim
def cIdx (i : Nat) (fa : Ev) : Ev := fun r => if isLst r i = true then cBin gIndex (cVar i) fa r else .bad
end
end VL
namespace VL
open PySem PySem.Spec PyProof.Rows L2
theorem look_relabel {env : Env} {x : Str} {k : NameKind} : ∀ {names : List (Str × NameKind)}, names.lookup x = some k →
    (names.map fun (n, k) => if (k == NameKind.free && env.scope.kind == .function && env.kindOf n == some .cell) then (n, NameKind.cell) else (n, k)).lookup x = some k ∨
    (k = .free ∧ (names.map fun (n, k) => if (k == NameKind.free && env.scope.kind == .function && env.kindOf n == some .cell) then (n, NameKind.cell) else (n, k)).lookup x = some .cell)
  | [], h => by simp at h
  | (n, k') :: r, h => by
    have ih := @look_relabel env x k r
    show List.lookup x ((if (k' == NameKind.free && env.scope.kind == .function && env.kindOf n == some .cell) = true then (n, NameKind.cell) else (n, k')) :: _) = _ ∨ (_ ∧ List.lookup x ((if (k' == NameKind.free && env.scope.kind == .function && env.kindOf n == some .cell) = true then (n, NameKind.cell) else (n, k')) :: _) = _)
    cases hx : x == n with
    | true =>
      simp only [List.lookup_cons, hx] at h
      cases h
      by_cases hc : (k == NameKind.free && env.scope.kind == .function && env.kindOf n == some .cell) = true
      · rw [if_pos hc]
        refine .inr ⟨?_, by simp only [List.lookup_cons, hx]⟩
        simp only [Bool.and_eq_true] at hc
        exact of_decide_eq_true (by simpa using hc.1.1)
      · rw [if_neg hc]
        exact .inl (by simp only [List.lookup_cons, hx])
    | false =>
      simp only [List.lookup_cons, hx] at h
      by_cases hc : (k' == NameKind.free && env.scope.kind == .function && env.kindOf n == some .cell) = true
      · rw [if_pos hc]; simp only [List.lookup_cons, hx]; exact ih h
      · rw [if_neg hc]; simp only [List.lookup_cons, hx]; exact ih h
theorem cv_free {env : Env} {scope : Scope} {x : Str} (h : scope.names.lookup x = some .free) : Vis (relabel scope env) x := (look_relabel h).elim (fun z => .inr (.inr z)) fun z => .inr (.inl z.2)
theorem cv_own {env : Env} {scope : Scope} {x : Str} (h : scope.names.lookup x = some .local) : (relabel scope env).names.lookup x = some .local := (look_relabel h).elim id fun z => nomatch z.1
theorem cv_gl {env : Env} {scope : Scope} {x : Str} (h : scope.names.lookup x = some .globalImplicit) : (relabel scope env).names.lookup x = some .globalImplicit := (look_relabel h).elim id fun z => nomatch z.1
end VL
namespace VL
open PySem PySem.Spec PyProof.Rows L2
theorem no_exc {P : Program} {w : World} {H : Hp} {s : Shared} {e : Value} {s' : Shared} (z : L2.CX P w [] H s (fun _ _ _ => False) e s') : False := by
  obtain ⟨_, _, _, _, _, _, _, _, _, _, _, _, _, _, _, _, z⟩ := z
theorem walk_lawV {k : Nat} {l : PySem.W.OpenLaw} {q : Program} {loose : List Str} {XP : (Str → Option Value) → Heap → Prop} {YP : World → Heap → Prop} {d : DefRec} {K : Params → PySem.W.Frag} (hn : l.most = some 63) (hdf : d.params.defaults = []) (hr : Room k callerA)
    (hY : ∀ (w : World) (h : Heap), YP w h → (K w.params).In h)
    (F : ∀ (w : World) (mg : Str → Option Value) (fa : Addr) (h : Heap), (K w.params).In h → h.Ns mainGlobals mg → mg d.name = some (.ref fa) →
      ∃ fd : FuncData, (∀ (s : Shared) (u : Value), BindsTo s fd ⟨[u], []⟩ [("script", u)]) ∧ ∀ base : Heap, (K w.params).In base → base.Ns mainGlobals mg → FnOk l.prog w (K w.params) mg base (L2.CX l.prog w) k fa fd ["script"] (VL.spLaw (K w.params))) :
    PySem.W.WalkO q loose XP YP l.row.toRowW d [] (fun f vs => PySem.call f vs) :=
  L2.walk_of (n := 63) (k := k) (x := "script") (CX := fun w => L2.CX l.prog w) (sp := fun w => VL.spLaw (K w.params)) hn (by decide) hdf hr hY F (fun w H a ns hl hO hS => law_in hl hO hS) fun w H s e s' z => no_exc z
end VL

namespace VL
open PySem PySem.Spec PyProof.Rows L2
section
variable {r r1 : Rho} {k : R → Rho → SO} {kE : R → Rho → EO} {g : Sv} {fa fb fc : Ev} {fs : Av} {x y : R} {d e : D} {i j : Nat} {n m : Int} {b : Bool}
@[simp] theorem q_sq1 : (SO.nx r).sq g = g r := rfl
@[simp] theorem q_sq2 : (SO.rt x r).sq g = .rt x r := rfl
@[simp] theorem q_sq3 {c : Nat} : (SO.exc c r).sq g = .exc c r := rfl
@[simp] theorem q_sq4 : (SO.bk r).sq g = .bk r := rfl
@[simp] theorem q_sq5 : (SO.ct r).sq g = .ct r := rfl
@[simp] theorem q_sq6 : SO.bad.sq g = .bad := rfl
@[simp] theorem q_st1 : (EO.ok y r).st k = k y r := rfl
@[simp] theorem q_st2 {c : Nat} : (EO.exc c r).st k = .exc c r := rfl
@[simp] theorem q_st3 : EO.bad.st k = .bad := rfl
@[simp] theorem q_abd1 {xs : List R} {kA : List R → Rho → EO} : (AO.ok xs r).bd kA = kA xs r := rfl
@[simp] theorem q_abd2 {c : Nat} {kA : List R → Rho → EO} : (AO.exc c r).bd kA = .exc c r := rfl
@[simp] theorem q_seq {f : Sv} : cSeq f g r = (f r).sq g := rfl
@[simp] theorem q_skip : cSkip r = .nx r := rfl
@[simp] theorem q_ret : cRet fa r = (fa r).st fun x r1 => .rt x r1 := rfl
@[simp] theorem q_raise {c : Nat} : cRaise c r = .exc c r := rfl
@[simp] theorem q_brk : cBrk r = .bk r := rfl
@[simp] theorem q_cnt : cCnt r = .ct r := rfl
@[simp] theorem q_expr : cExpr fa r = (fa r).st fun _ r1 => .nx r1 := rfl
@[simp] theorem q_ifs {f : Sv} : cIfS fa f g r = (fa r).st fun x r1 => match x with
  | .val (.bl true) => f r1
  | .val (.bl false) => g r1
  | _ => .bad := rfl
@[simp] theorem q_var : cVar i r = match r[i]? with
  | some (some d) => if atom d = true then .ok (.val d) r else .ok (.loc i) r
  | _ => .bad := rfl
@[simp] theorem q_c : cC d r = .ok (.val d) r := rfl
@[simp] theorem q_bin {gg : G2} : cBin gg fa fb r = (fa r).bd fun x r1 => (fb r1).bd fun y r2 => gg x y r2 := rfl
@[simp] theorem q_set : cSet fa r = (fa r).bd fun x r1 => match x with
  | .val d => .ok (.val d) r1
  | .loc i => (match opd r1 (.loc i) with
    | some d => .ok (.val (frz d)) (settle r1 (.loc i))
    | none => .bad) := rfl
@[simp] theorem q_asg {t : Tg} : cAsg t fa r = (cSet fa r).st (asgK t) := rfl
@[simp] theorem q_asgK {t : Tg} : asgK t (.val d) r = match tgt t d r with
    | some r2 => .nx r2
    | none => .bad := rfl
@[simp] theorem q_tgt : tgt (.nm i) d r = some (r.set i (some d)) := rfl
@[simp] theorem q_opd1 : opd r (.val d) = some d := rfl
@[simp] theorem q_opd2 : opd r (.loc i) = match r[i]? with
    | some (some d) => some d
    | _ => none := rfl
@[simp] theorem q_touch1 : touch r (.val d) = r := rfl
@[simp] theorem q_touch2 : touch r (.loc i) = match r[i]? with
    | some (some d) => r.set i (some (frzB d))
    | _ => r := rfl
@[simp] theorem q_settle2 : settle r (.loc i) = match r[i]? with
    | some (some d) => r.set i (some (frz d))
    | _ => r := rfl
@[simp] theorem q_settle1 : settle r (.val d) = r := rfl
@[simp] theorem q_at1 : atom (.int n) = true := rfl
@[simp] theorem q_at2 : atom (.bl b) = true := rfl
@[simp] theorem q_at3 : atom .non = true := rfl
@[simp] theorem q_at4 {s : Str} : atom (.str s) = true := rfl
@[simp] theorem q_at5 {c : Nat} : atom (.exc c) = true := rfl
@[simp] theorem q_at6 {c : Nat} : atom (.cls c) = true := rfl
@[simp] theorem q_at7 {s : String} : atom (.ty s) = true := rfl
@[simp] theorem q_at8 {k : Kd} {o : Bool} {xs : List D} : atom (.node k o xs) = false := rfl
@[simp] theorem q_g2 {f : D → D → Option D} : g2 f x y r = match opd r x, opd r y with
  | some d, some e => (match f d e with
    | some z => if atom z = true then .ok (.val z) r else .bad
    | none => .bad)
  | _, _ => .bad := rfl
@[simp] theorem q_fI {ok : Int → Int → Bool} {gg : Int → Int → D} : fI ok gg (.int n) (.int m) = if ok n m = true then some (gg n m) else none := rfl
@[simp] theorem q_yes : yes2 n m = true := rfl
@[simp] theorem q_lt : gLt x y r = g2 (fI yes2 fun i j => .bl (decide (i < j))) x y r := rfl
@[simp] theorem q_le : gLe x y r = g2 (fI yes2 fun i j => .bl (decide (i ≤ j))) x y r := rfl
@[simp] theorem q_gt : gGt x y r = g2 (fI yes2 fun i j => .bl (decide (j < i))) x y r := rfl
@[simp] theorem q_ge : gGe x y r = g2 (fI yes2 fun i j => .bl (decide (j ≤ i))) x y r := rfl
@[simp] theorem q_sub : gSub x y r = g2 (fI yes2 fun i j => .int (i - j)) x y r := rfl
@[simp] theorem q_div : gDiv x y r = g2 (fI divOk fun i j => .int (i / j)) x y r := rfl
@[simp] theorem q_mod : gMod x y r = g2 (fI posOk fun i j => .int (i % j)) x y r := rfl
@[simp] theorem q_eq : gEq x y r = g2 eqD x y r := rfl
@[simp] theorem q_ne : gNe x y r = g2 neD x y r := rfl
@[simp] theorem q_in : gIn x y r = g2 (fun d e => (inD d e).map .bl) x y r := rfl
@[simp] theorem q_eqI : eqD (.int n) (.int m) = some (.bl (decide (n = m))) := by
  have e : PyData.eqv (.int n) (.int m) = decide (n = m) := by
    show (n == m) = _
    by_cases h : n = m <;> simp [h]
  show (if (true && true) = true then some (D.bl (PyData.eqv (.int n) (.int m))) else none) = _
  rw [e]; rfl
@[simp] theorem q_neI : neD (.int n) (.int m) = some (.bl (!decide (n = m))) := by
  have e : PyData.eqv (.int n) (.int m) = decide (n = m) := by
    show (n == m) = _
    by_cases h : n = m <;> simp [h]
  show (if (true && true) = true then some (D.bl (!PyData.eqv (.int n) (.int m))) else none) = _
  rw [e]; rfl
@[simp] theorem q_addI : gAdd (.val (.int n)) (.val (.int m)) r = .ok (.val (.int (n + m))) r := by unfold gAdd; rfl
theorem q_add : gAdd x y r = match opd r x, opd r y with
  | some (.int i), some (.int j) => .ok (.val (.int (i + j))) r
  | some (.int i), some (.bl k) => .ok (.val (.int (i + b2i k))) r
  | some (.str a), some (.str b) => if a.length + b.length ≤ 16777216 then .ok (.val (.str (a ++ b))) r else .bad
  | some (.node .lst _ xs), some (.node .lst _ ys) => if xs.length + ys.length ≤ 16777216 then .ok (.val (.node .lst true (frzs xs ++ frzs ys))) (touch (touch r y) x) else .bad
  | _, _ => .bad := by unfold gAdd; rfl
@[simp] theorem q_mulI : gMul (.val (.int n)) (.val (.int m)) r = if mulOk n m = true then .ok (.val (.int (n * m))) r else .bad := by unfold gMul; rfl
theorem q_mulL {o : Bool} {xs : List D} (h : 0 ≤ n ∧ n < 9000000000000000000 ∧ xs.length * n.toNat ≤ 16777216) : gMul (.val (.node .lst o xs)) (.val (.int n)) r = .ok (.val (.node .lst true (List.replicate n.toNat (frzs xs)).flatten)) r := by
  unfold gMul
  show (if n.natAbs < 2 ^ 63 ∧ xs.length * n.toNat ≤ 16777216 then _ else _) = _
  rw [if_pos ⟨by omega, h.2.2⟩]; rfl
@[simp] theorem q_ix : gIx x y r = match opd r x, opd r y with
  | some (.node .lst _ xs), some (.int i) => (match atI xs i with | some d => pick r x d | none => .bad)
  | some (.node .rd _ xs), some (.int i) => (match atI xs i with | some d => pick r x d | none => .bad)
  | some (.node .tup _ xs), some (.int i) => (match atI xs i with | some d => pick r x d | none => .bad)
  | some (.str z), some (.int i) => if z.length ≤ 16777216 then (match atI z.cps.toList i with | some c => .ok (.val (.str ⟨#[c]⟩)) r | none => .bad) else .bad
  | _, _ => .bad := rfl
@[simp] theorem q_pick : pick r x d = if atom d = true then .ok (.val d) r else .ok (.val (frz d)) (touch r x) := rfl
@[simp] theorem q_and : cAnd fa fb r = (fa r).bd fun x r1 => match x with
  | .val (.bl true) => fb r1
  | .val (.bl false) => .ok (.val (.bl false)) r1
  | _ => .bad := rfl
@[simp] theorem q_or : cOr fa fb r = (fa r).bd fun x r1 => match x with
  | .val (.bl true) => .ok (.val (.bl true)) r1
  | .val (.bl false) => fb r1
  | _ => .bad := rfl
@[simp] theorem q_not : cNot fa r = (fa r).bd fun x r1 => match x with
  | .val (.bl b) => .ok (.val (.bl (!b))) r1
  | _ => .bad := rfl
@[simp] theorem q_neg : cNeg fa r = (fa r).bd fun x r1 => match x with
  | .val (.int i) => .ok (.val (.int (-i))) r1
  | _ => .bad := rfl
@[simp] theorem q_nil : cNil r = .ok [] r := rfl
@[simp] theorem q_cons : cCons fa fs r = match fa r with
  | .ok x r1 => (match fs r1 with
    | .ok xs r2 => .ok (x :: xs) r2
    | .exc c r2 => .exc c r2
    | .bad => .bad)
  | .exc c r1 => .exc c r1
  | .bad => .bad := rfl
@[simp] theorem q_opds0 : opds r [] = some [] := rfl
@[simp] theorem q_opds1 {xs : List R} : opds r (x :: xs) = match opd r x, opds r xs with
    | some d, some ds => some (d :: ds)
    | _, _ => none := rfl
@[simp] theorem q_settles0 : settles r [] = r := rfl
@[simp] theorem q_settles1 {xs : List R} : settles r (x :: xs) = settles (settle r x) xs := rfl
@[simp] theorem q_valsR0 : valsR [] = some [] := rfl
@[simp] theorem q_valsR1 {xs : List R} : valsR (.val d :: xs) = match valsR xs with
    | some ds => some (d :: ds)
    | none => none := rfl
@[simp] theorem q_lst : cLst fs r = (fs r).bd fun xs r1 => match valsR xs with
  | some ds => if ds.length ≤ 16777216 then .ok (.val (.node .lst true ds)) r1 else .bad
  | none => .bad := rfl
@[simp] theorem q_tup : cTup fs r = (fs r).bd fun xs r1 => match valsR xs with
  | some ds => if ds.length ≤ 16777216 then .ok (.val (.node .tup false ds)) r1 else .bad
  | none => .bad := rfl
@[simp] theorem q_B {gg : List R → Rho → EO} : cB gg fs r = (fs r).bd gg := rfl
@[simp] theorem q_b1 {f : D → Option D} : b1 f [x] r = match opd r x with
    | some d => (match f d with
      | some z => if atom z = true then .ok (.val z) r else .bad
      | none => .bad)
    | none => .bad := rfl
@[simp] theorem q_len1 {o : Bool} {xs : List D} : lenD (.node .lst o xs) = some (.int xs.length) := rfl
@[simp] theorem q_len2 {o : Bool} {xs : List D} : lenD (.node .rd o xs) = some (.int xs.length) := rfl
@[simp] theorem q_len3 {o : Bool} {xs : List D} : lenD (.node .tup o xs) = some (.int xs.length) := rfl
@[simp] theorem q_listOf : gListOf [x] r = match opd r x with
    | some (.node .lst _ xs) => .ok (.val (.node .lst true (frzs xs))) (touch r x)
    | some (.node .rd _ xs) => .ok (.val (.node .lst true (frzs xs))) (touch r x)
    | some (.node .tup _ xs) => .ok (.val (.node .lst true (frzs xs))) (touch r x)
    | _ => .bad := rfl
@[simp] theorem q_max2 : gMax2 [.val (.int n), .val (.int m)] r = .ok (.val (.int (if m > n then m else n))) r := rfl
@[simp] theorem q_min2 : gMin2 [.val (.int n), .val (.int m)] r = .ok (.val (.int (if m < n then m else n))) r := rfl
@[simp] theorem q_call {nn : Nat} {F : List D → FO} : cCall nn F fs r = (fs r).bd fun xs r1 => if xs.length = nn then callK F xs r1 else .bad := rfl
@[simp] theorem q_callK {F : List D → FO} {xs : List R} : callK F xs r = match opds r xs with
  | some ds => (match F (frzs ds) with
    | .ok d => if noL d = true then .ok (.val d) r else .ok (.val d) (settles r xs)
    | .exc c => .exc c r
    | .bad => .bad)
  | none => .bad := rfl
@[simp] theorem q_callM {nn : Nat} {F : D → List D → MO} : cCallM nn i F fs r = (fs r).bd (callKM nn i F) := rfl
@[simp] theorem q_callKM {nn : Nat} {F : D → List D → MO} {rest : List R} : callKM nn i F (.loc j :: rest) r = if j = i ∧ rest.length = nn then (match opd r (.loc i), valsR rest with
    | some d0, some ds => (match F d0 (frzs ds) with
      | .ok d d0' => .ok (.val d) (r.set i (some d0'))
      | .bad => .bad)
    | _, _ => .bad) else .bad := rfl
@[simp] theorem q_for {t : Tg} {fi : Iv} {f : Sv} : cFor t fi f r = match fi r with
  | .ok ds r1 => forL t f ds r1
  | .exc c r1 => .exc c r1
  | .bad => .bad := rfl
@[simp] theorem q_iLst : iLst fa r = match cSet fa r with
  | .ok (.val (.node .lst _ ds)) r1 => .ok ds r1
  | .ok (.val (.node .rd _ ds)) r1 => .ok ds r1
  | .exc c r1 => .exc c r1
  | _ => .bad := rfl
@[simp] theorem q_iRng {gg : Rho → List R → IO} : iRng gg fs r = match fs r with
  | .ok xs r1 => gg r1 xs
  | .exc c r1 => .exc c r1
  | .bad => .bad := rfl
@[simp] theorem q_rng1 : rngI1 r [.val (.int n)] = if within n = true then .ok (rngD 0 1 n.toNat) r else .bad := rfl
@[simp] theorem q_rng2 : rngI2 r [.val (.int n), .val (.int m)] = if (within n && within m) = true then .ok (rngD n 1 (m - n).toNat) r else .bad := rfl
@[simp] theorem q_lc {vs : List Nat} {t : Tg} {fi : Iv} {fc : Option Ev} {fe : Ev} : cLc vs t fi fc fe r = match fi r with
  | .ok ds r1 => (match lcL t fc fe vs ds [] (wipeR r1 vs) with
    | .ok acc r2 => .ok (.val (.node .lst true acc)) (backR r1 r2 vs)
    | .bad => .bad)
  | .exc c r1 => .exc c r1
  | .bad => .bad := rfl
@[simp] theorem q_wipe0 : wipeR r [] = r := rfl
@[simp] theorem q_wipe1 {vs : List Nat} : wipeR r (i :: vs) = (wipeR r vs).set i none := rfl
@[simp] theorem q_isLst : isLst r i = match r[i]? with
  | some (some (.node .lst _ _)) => true
  | _ => false := rfl
@[simp] theorem q_app : cApp i fa r = if isLst r i = true then (cSet fa r).bd (appK i) else .bad := rfl
@[simp] theorem q_appK : appK i (.val d) r = match r[i]? with
  | some (some (.node .lst true ds)) => if ds.length < 16777216 then .ok (.val .non) (r.set i (some (.node .lst true (ds ++ [d])))) else .bad
  | _ => .bad := by
  unfold appK
  split <;> rename_i h <;> simp_all
@[simp] theorem q_setIx {fk : Ev} : cSetIx i fk fa r = (cSet fa r).st fun x r1 => if isLst r1 i = true then (fk r1).st (setIxK i x) else .bad := rfl
@[simp] theorem q_setIxK : setIxK i (.val d) y r = match opd r y, r[i]? with
  | some (.int k), some (some (.node .lst true ds)) => (match ixN ds.length k with
    | some j => .nx (r.set i (some (.node .lst true (ds.set j d))))
    | none => .bad)
  | _, _ => .bad := by
  unfold setIxK
  split <;> rename_i h <;> simp_all <;> rfl
end
def dk (a b c : Int) : D := .node .lst true [.int a, .int b, .int c]
def lints (o : Bool) (ns : List Int) : D := .node .lst o (ns.map .int)
@[simp] theorem frz_lints {o : Bool} {ns : List Int} : frz (lints o ns) = lints false ns := by
  show D.node .lst false (frzs (ns.map D.int)) = _
  rw [frzs_ints]; rfl
end VL
namespace VL
open PySem PySem.Spec PyProof.Rows L2
theorem posOk_of {i m : Int} (hm : 0 < m) : posOk i m = true := decide_eq_true hm
theorem divOk_of' {i m : Int} (hm : 0 < m) (hm2 : m < 1073741824) : divOk i m = true := by
  have h2 : m.natAbs < 1073741824 := by omega
  unfold divOk; simp [hm, h2]
theorem mulOk_l {i j : Int} (h : i.natAbs < 2 ^ 64) : mulOk i j = true := by unfold mulOk; simp [h]
theorem mulOk_r {i j : Int} (h : j.natAbs < 2 ^ 64) : mulOk i j = true := by
  unfold mulOk
  rw [decide_eq_true h]; simp
theorem canLay_ints : ∀ ns : List Int, PyData.canLayAll0 (toPys (ns.map D.int)) = true ∧ PyData.depthAll (toPys (ns.map D.int)) = 0
  | [] => ⟨rfl, rfl⟩
  | n :: ns => by
    obtain ⟨h1, h2⟩ := canLay_ints ns
    constructor
    · show (true && PyData.canLayAll0 (toPys (ns.map D.int))) = true
      rw [h1]; rfl
    · show max 0 (PyData.depthAll (toPys (ns.map D.int))) = 0
      rw [h2]; rfl
theorem eqOk_lints (o : Bool) (ns : List Int) : eqOk (.node .lst o (ns.map .int)) = true := by
  obtain ⟨h1, h2⟩ := canLay_ints ns
  show (PyData.canLayAll0 (toPys (ns.map D.int)) && decide (PyData.depthAll (toPys (ns.map D.int)) + 1 ≤ 64)) = true
  rw [h1, h2]; rfl
theorem eqv_ints : ∀ xs ys : List Int, PyData.eqvAll (toPys (xs.map D.int)) (toPys (ys.map D.int)) = decide (xs = ys)
  | [], [] => rfl
  | [], y :: ys => rfl
  | x :: xs, [] => rfl
  | x :: xs, y :: ys => by
    show ((x == y) && PyData.eqvAll (toPys (xs.map D.int)) (toPys (ys.map D.int))) = _
    rw [eqv_ints xs ys]
    by_cases h : x = y <;> by_cases h2 : xs = ys <;> simp [h, h2]
theorem eq_lints {o o' : Bool} (xs ys : List Int) : eqD (.node .lst o (xs.map .int)) (.node .lst o' (ys.map .int)) = some (.bl (decide (xs = ys))) := by
  unfold eqD
  rw [eqOk_lints, eqOk_lints]
  show some (D.bl (PyData.eqvAll (toPys (xs.map D.int)) (toPys (ys.map D.int)))) = _
  rw [eqv_ints]
theorem ne_lints {o o' : Bool} (xs ys : List Int) : neD (.node .lst o (xs.map .int)) (.node .lst o' (ys.map .int)) = some (.bl (!decide (xs = ys))) := by
  unfold neD
  rw [eqOk_lints, eqOk_lints]
  show some (D.bl (!PyData.eqvAll (toPys (xs.map D.int)) (toPys (ys.map D.int)))) = _
  rw [eqv_ints]
theorem frzs_int (ns : List Int) : frzs (List.map D.int ns) = List.map D.int ns := frzs_ints ns
theorem noLs_ints : ∀ ns : List Int, noLs (ns.map D.int) = true
  | [] => rfl
  | n :: ns => by show (true && noLs (ns.map D.int)) = true; rw [noLs_ints ns]; rfl
theorem noL_lints (ns : List Int) : noL (.node .lst true (ns.map .int)) = true := by
  show ((true || false) && noLs (ns.map D.int)) = true
  rw [noLs_ints]; rfl
theorem lt_fuel {n : Nat} (h : n < 1000000000) : n < fuel := Nat.lt_of_lt_of_le h fuel_ge
def bi (bs : List Bool) : List Int := bs.map fun b => (b.toNat : Int)
def wb (bs : List Bool) : Nat := bs.foldl (fun n b => 2 * n + b.toNat) 0
def figs (n : Nat) : List Bool := if h : n = 0 then [] else (n % 2 == 1) :: figs (n / 2)
termination_by n
decreasing_by omega
theorem figs_zero : figs 0 = [] := by rw [figs]; rfl
theorem figs_pos {n : Nat} (h : n ≠ 0) : figs n = (n % 2 == 1) :: figs (n / 2) := by rw [figs]; simp [h]
theorem figs_len {k : Nat} : ∀ {n : Nat}, n < 2 ^ k → (figs n).length ≤ k := by
  induction k with
  | zero => intro n h; have : n = 0 := by simpa using h
            subst this; rw [figs_zero]; simp
  | succ k ih =>
    intro n h
    by_cases h0 : n = 0
    · subst h0; rw [figs_zero]; simp
    · rw [figs_pos h0]
      have := ih (n := n / 2) (by rw [Nat.pow_succ] at h; omega)
      simp; omega
theorem wb_snoc (bs : List Bool) (b : Bool) : wb (bs ++ [b]) = 2 * wb bs + b.toNat := by unfold wb; rw [List.foldl_append]; rfl
theorem snoc_ind {α : Type} {P : List α → Prop} (h0 : P []) (h1 : ∀ l a, P l → P (l ++ [a])) (l : List α) : P l := by
  have z : ∀ m : List α, P m.reverse := fun m => by
    induction m with
    | nil => exact h0
    | cons a m ih => rw [List.reverse_cons]; exact h1 _ _ ih
  have := z l.reverse
  rwa [List.reverse_reverse] at this
theorem wb_lt : ∀ bs : List Bool, wb bs < 2 ^ bs.length := by
  refine snoc_ind (by decide) fun bs b ih => ?_
  · rw [wb_snoc, List.length_append, List.length_singleton, Nat.pow_succ]
    have : b.toNat ≤ 1 := by cases b <;> decide
    omega
theorem figs_wb : ∀ bs : List Bool, ∃ z, bs = List.replicate z false ++ (figs (wb bs)).reverse := by
  refine snoc_ind ⟨0, by show [] = [] ++ (figs 0).reverse; rw [figs_zero]; rfl⟩ fun bs b ih => ?_
  · obtain ⟨z, e⟩ := ih
    rw [wb_snoc]
    by_cases h : 2 * wb bs + b.toNat = 0
    · have hb : b = false := by cases b with
        | false => rfl
        | true => simp at h
      have hw : wb bs = 0 := by omega
      rw [h, figs_zero]
      rw [hw, figs_zero] at e
      refine ⟨z + 1, ?_⟩
      rw [e, hb]
      simp [List.replicate_succ']
    · refine ⟨z, ?_⟩
      have h1 : (2 * wb bs + b.toNat) / 2 = wb bs := by
        have : b.toNat ≤ 1 := by cases b <;> decide
        omega
      have h2 : ((2 * wb bs + b.toNat) % 2 == 1) = b := by
        cases b with
        | false => simp
        | true =>
          have : (2 * wb bs + 1) % 2 = 1 := by omega
          simp [this]
      rw [figs_pos h, h1, h2, List.reverse_cons, ← List.append_assoc, ← e]
end VL
namespace VL
open PySem PySem.Spec PyProof.Rows L2
@[simp] theorem q_rev {fa : Ev} {r : Rho} : cRev fa r = (fa r).bd gRev := rfl
@[simp] theorem q_gRev {x : R} {r : Rho} : gRev x r = match opd r x with
  | some (.node .lst _ xs) => .ok (.val (.node .lst true (frzs xs).reverse)) (touch r x)
  | some (.node .rd _ xs) => .ok (.val (.node .lst true (frzs xs).reverse)) (touch r x)
  | _ => .bad := rfl
@[simp] theorem q_sl {fa : Ev} {lo hi : Option Ev} {r : Rho} : cSl fa lo hi r = (fa r).bd fun x r1 => part lo r1 fun l r2 => part hi r2 fun h r3 => gSl x l h r3 := rfl
@[simp] theorem q_part0 {r : Rho} {k : Option Int → Rho → EO} : part none r k = k none r := rfl
@[simp] theorem q_part1 {f : Ev} {r : Rho} {k : Option Int → Rho → EO} : part (some f) r k = (f r).bd fun y r' => match y with
    | .val (.int i) => k (some i) r'
    | _ => .bad := rfl
@[simp] theorem q_gSl {x : R} {lo hi : Option Int} {r : Rho} : gSl x lo hi r = match opd r x with
  | some (.node .lst _ xs) => .ok (.val (.node .lst true (cutD (frzs xs) lo hi))) (touch r x)
  | some (.node .rd _ xs) => .ok (.val (.node .lst true (cutD (frzs xs) lo hi))) (touch r x)
  | some (.node .tup _ xs) => .ok (.val (.node .tup false (cutD (frzs xs) lo hi))) (touch r x)
  | _ => .bad := rfl
@[simp] theorem q_idx {i : Nat} {fa : Ev} {r : Rho} : cIdx i fa r = if isLst r i = true then cBin gIndex (cVar i) fa r else .bad := rfl
@[simp] theorem q_gIndex {x y : R} {r : Rho} : gIndex x y r = match opd r x, opd r y with
  | some (.node .lst _ ds), some d => if (flatD d && ds.all flatD) = true then (match idxD ds d with
    | some j => .ok (.val (.int (j : Nat))) r
    | none => .bad) else .bad
  | _, _ => .bad := rfl
@[simp] theorem q_frzB {k : Kd} {o : Bool} {xs : List D} : frzB (.node k o xs) = .node k o (frzs xs) := rfl
@[simp] theorem q_try {tb : Nat → Option Bool} {i : Option Nat} {fb fs : Sv} {r : Rho} : cTry tb i fb fs r = match fb r with
  | .exc c r1 => (match tb c with
    | some true => inClause i (fs (putE i c r1))
    | some false => .exc c r1
    | none => .bad)
  | o => o := rfl
@[simp] theorem q_putE {j c : Nat} {r : Rho} : putE (some j) c r = r.set j (some (.exc c)) := rfl
@[simp] theorem q_putE0 {c : Nat} {r : Rho} : putE none c r = r := rfl
@[simp] theorem q_inC {j : Nat} {r : Rho} : inClause (some j) (.nx r) = .nx (r.set j none) := rfl
@[simp] theorem q_inC0 {r : Rho} : inClause none (.nx r) = .nx r := rfl
@[simp] theorem q_inC2 {j : Option Nat} {x : R} {r : Rho} : inClause j (.rt x r) = .rt x r := rfl
theorem frz_ints (ns : List Int) (o : Bool) : frz (.node .lst o (ns.map .int)) = .node .lst false (ns.map .int) := by
  show D.node .lst false (frzs (ns.map D.int)) = _
  rw [frzs_ints]
end VL

namespace VL
open PySem PySem.Spec PyProof.Rows L2
theorem q_addL {x y : R} {r : Rho} {o o' : Bool} {xs ys : List D} (h1 : opd r x = some (.node .lst o xs)) (h2 : opd r y = some (.node .lst o' ys)) (h : xs.length + ys.length ≤ 16777216) : gAdd x y r = .ok (.val (.node .lst true (frzs xs ++ frzs ys))) (touch (touch r y) x) := by
  rw [q_add, h1, h2]
  show (if xs.length + ys.length ≤ 16777216 then _ else _) = _
  rw [if_pos h]
theorem q_addLI {r : Rho} {o o' : Bool} (xs ys : List Int) (h : xs.length + ys.length ≤ 16777216) : gAdd (.val (.node .lst o (xs.map .int))) (.val (.node .lst o' (ys.map .int))) r = .ok (.val (.node .lst true ((xs ++ ys).map .int))) r := by
  rw [q_addL (o := o) (o' := o') (xs := xs.map .int) (ys := ys.map .int) rfl rfl (by rw [List.length_map, List.length_map]; exact h), frzs_ints, frzs_ints, List.map_append]
  rfl
end VL

namespace VL
open PySem PySem.Spec PyProof.Rows L2
theorem forL_cons {t : Tg} {f : Sv} {d : D} {ds : List D} {r r1 r2 : Rho} (h1 : tgt t d r = some r1) (h2 : f r1 = .nx r2) : forL t f (d :: ds) r = forL t f ds r2 := by
  show (match tgt t d r with | none => _ | some r1 => _) = _
  rw [h1]
  show (match f r1 with | .nx r2 => forL t f ds r2 | .ct r2 => forL t f ds r2 | .bk r2 => .nx r2 | o => o) = _
  rw [h2]
end VL

namespace VL
open PySem PySem.Spec PyProof.Rows L2
section
variable {X : Cx} {G : GX} {C : Fc} {W : WX} {ow ow' : Ow} {r : Rho} {T T1 T2 : List (D × V)} {s : L2.St} {H H' : Hp} {fa fb fc : Ev} {fs : Av}
theorem StW.relist {i n : Nat} {o' : Bool} {ds ds' : List D} {a : Addr} {vs' : List V} {l : VL.Loc} (S : StW G C ow r T s H) (q : r[i]? = some (some (.node .lst true ds))) (ha : s[i]? = some (some (.ref a))) (e : frzs ds' = ds') (h : Reps G ow H ds' l n vs') :
    StW G C ow (r.set i (some (.node .lst true ds'))) T s (upd H a (.lst vs')) := by
  obtain ⟨v, z1, a', vs, ev, z2, z3, z4⟩ := S.sl i _ q
  rw [ha] at z1
  cases z1
  cases ev
  have oa : ow a = some ⟨.sl i, []⟩ := by simpa using z3.cases.resolve_left (fun z => nomatch z)
  have exn : ∀ (b : Addr) (o : HO), H b = some o → ¬ OwnO (some o) → upd H a (.lst vs') b = some o := fun b o z n => by
    rw [upd_ne (fun e => by have m := S.mu a _ oa; rw [e] at z; rw [z] at m; exact n m)]; exact z
  refine StW.write (k := .lst) (k' := .lst) (ow' := ow) (fun z => nomatch z) S q ha trivial (vs' := vs') upd_same (fun b n => n) (fun b j p n _ => n) (fun b p n => n) (fun b l y => ⟨l, y, id⟩) (fun b l y n l' y2 => by rw [y] at y2; cases y2; exact n) oa ?_ (fun j d' w y => ?_)
  · exact Reps.moveF _ e (fun b o z n => ⟨by rw [upd_ne (fun e => by subst e; rw [oa] at n; cases n)]; exact .inl z, n⟩) (fun b o z n => exn b o z n) h
  · exact Rep.mono (l := ⟨.tm j, []⟩) d' (fun b o z w => by rw [upd_ne (apart oa w (.inl (fun z => nomatch z)))]; exact .inl z) (fun b o z n => exn b o z n) (fun b o _ n => n) (fun b o p _ n => n) (S.tm j d' w y)
theorem touch_lst {i : Nat} {ds : List D} (q : r[i]? = some (some (.node .lst true ds))) : touch r (.loc i) = r.set i (some (.node .lst true (frzs ds))) := by
  show (match r[i]? with | some (some d) => r.set i (some (frzB d)) | _ => r) = _
  rw [q]; rfl
theorem StW.mine {i : Nat} {ds : List D} (S : StW G C ow r T s H) (q : r[i]? = some (some (.node .lst true ds))) : ∃ ow' a vs, s[i]? = some (some (.ref a)) ∧ H a = some (.lst vs) ∧ StW G C ow' (r.set i (some (.node .lst true (frzs ds)))) T s H ∧ (r.set i (some (.node .lst true (frzs ds))))[i]? = some (some (.node .lst true (frzs ds))) ∧ (∀ l, Reps G ow' H (frzs ds) l 0 vs) ∧ (∀ b, ow b = none → ow' b = none) ∧ ow' a = some ⟨.sl i, []⟩ := by
  obtain ⟨v, z1, z⟩ := S.sl i _ q
  have e1 : opd r (.loc i) = some (.node .lst true ds) := by
    show (match r[i]? with | some (some d) => some d | _ => none) = _
    rw [q]
  obtain ⟨ow', a, vs, S', ev, h1, rx, hn⟩ := StW.parts (T := T) (x := .loc i) (v := v) (by simpa [pushR] using S) z1 e1
  subst ev
  rw [touch_lst q] at S'
  have q' : (r.set i (some (.node .lst true (frzs ds))))[i]? = some (some (.node .lst true (frzs ds))) := List.getElem?_set_self (List.getElem?_eq_some_iff.mp q).1
  refine ⟨ow', a, vs, z1, h1, S', q', rx, hn, ?_⟩
  obtain ⟨v2, w1, a2, vs2, ev, w2, w3, _⟩ := S'.sl i _ q'
  rw [z1] at w1
  cases w1
  cases ev
  simpa using w3.cases.resolve_left (fun z => nomatch z)
def cPop (i : Nat) : Ev := fun r => match r[i]? with
  | some (some (.node .lst true ds)) => (match (frzs ds)[ds.length - 1]? with
    | some d => .ok (.val d) ((r.set i (some (.node .lst true (frzs ds)))).set i (some (.node .lst true (frzs ds).dropLast)))
    | none => .bad)
  | _ => .bad
def extK (i : Nat) (x : R) (r1 : Rho) : EO := match opd r1 x with
  | some (.node .lst _ es) => (match (touch r1 x)[i]? with
    | some (some (.node .lst true ds)) => if ds.length + es.length ≤ 16777216 then .ok (.val .non) (((touch r1 x).set i (some (.node .lst true (frzs ds)))).set i (some (.node .lst true (frzs ds ++ frzs es)))) else .bad
    | _ => .bad)
  | _ => .bad
def cExt (i : Nat) (fa : Ev) : Ev := fun r => if isLst r i = true then (fa r).bd (extK i) else .bad
theorem ve_ext {i : Nat} {x : Str} {e : Expr} {p apos cpos : Pos} (hN : X.N[i]? = some x) (hv : Vis X.env.scope x) (hd : (x == ("__debug__" : Str)) = false) (hcd : (x == ("__classdict__" : Str)) = false) (ha : VE X G C W e fa)
    (hbase : attributeBase (.Name x p) "extend" X.env (eval (.Name x p) X.env) = eval (.Name x p) X.env := by rfl)
    (hfew : ((backTo cpos (starEach [e] X.env)).all (fun x => !x.1) && (backToKw cpos (keywordEach [] X.env)).all (fun x => x.1.isSome)
      && decide ([e].length + ([] : List Keyword).length + (if ([] : List Keyword).isEmpty then 0 else 1) < 30)) = true := by rfl)
    (hline : (apos.endLine == cpos.line) = true := by rfl) (hs : starEach [e] X.env = (false, eval e X.env) :: starEach [] X.env := by rfl) (hplain : (backTo cpos (starEach [] X.env)).any (·.1) = false := by rfl) :
    VE X G C W (.Call (.Attribute (.Name x p) "extend" apos) [e] [] cpos) (cExt i fa) := by
  refine PE.imp (pe_bm PySem.F.plainAttrs_list PySem.F.slot_list_extend PySem.F.type_list_extend mt_extend (pe_var hN hv hd hcd) (pa_cons ha pa_nil hs) hbase hfew hline hs hplain) fun s H Q h => ?_
  obtain ⟨r, T, S, g⟩ := h
  have g : Goes G C W T s Q (cExt i fa r) := g
  unfold cExt at g
  split at g
  · rename_i hi
    obtain ⟨o, ds, hr⟩ := isLst_at hi
    obtain ⟨ow, S0⟩ := S
    obtain ⟨v, v1, a, vs, ev, v2, v3, v4⟩ := S0.sl i _ hr
    subst ev
    refine ⟨_, v1, .inl ⟨rfl, vs, SqL.of v2⟩, ?_⟩
    refine one (fa := fa) ⟨ow, S0⟩ g fun x v' r1 H1 P g1 => ?_
    unfold extK at g1
    split at g1
    · rename_i o2 es e1
      split at g1
      · rename_i ds2 q
        split at g1
        · rename_i hz
          obtain ⟨ow1, S1⟩ := P.1
          obtain ⟨ow2, b, zs, S2, ev, hB, rxe, hn⟩ := S1.parts P.2 e1
          subst ev
          obtain ⟨ow3, a', vs', z1, hA, S3, q3, rx, hn3, oa⟩ := S2.mine q
          rw [v1] at z1
          cases z1
          have l1 := (rx ⟨.fo, []⟩).length
          have l2 := (rxe ⟨.fo, []⟩).length
          rw [frzs_length] at l1 l2
          have re : Reps G ow3 H1 (frzs es) ⟨.fo, []⟩ 0 zs := Reps.moveF _ (frzs_frzs es) (fun b o z n => ⟨z, hn3 b n⟩) (fun _ _ z _ => z) (rxe ⟨.fo, []⟩)
          have S4 := S3.relist (o' := true) q3 v1 (by rw [frzs_append, frzs_frzs, frzs_frzs]) (Reps.app (frzs_frzs ds2) (frzs_frzs es) (rx ⟨.fo, []⟩) re)
          exact ⟨a, b, vs', zs, rfl, rfl, hA, hB, by rw [sizeLine_eq, ← l1, ← l2]; exact hz, g1 _ _ ⟨StOk.pushN ⟨_, S4⟩, trivial⟩⟩
        · exact g1.elim
      · exact g1.elim
    · exact g1.elim
  · exact g.elim
end
end VL

namespace VL
open PySem PySem.Spec PyProof.Rows L2
end VL
namespace VL
open PySem PySem.Spec PyProof.Rows L2
def FP (k : Nat) (d : D) : Prop := (toPy d).canLay0 = true ∧ (toPy d).depth ≤ k
theorem FP.mono {k m : Nat} {d : D} (h : FP k d) (hm : k ≤ m) : FP m d := ⟨h.1, Nat.le_trans h.2 hm⟩
theorem fp_int (n : Int) (k : Nat) : FP k (.int n) := ⟨rfl, Nat.zero_le _⟩
theorem fp_bl (b : Bool) (k : Nat) : FP k (.bl b) := ⟨rfl, Nat.zero_le _⟩
theorem fp_non (k : Nat) : FP k .non := ⟨rfl, Nat.zero_le _⟩
theorem fps {k : Nat} : ∀ {xs : List D}, (∀ x ∈ xs, FP k x) → PyData.canLayAll0 (toPys xs) = true ∧ PyData.depthAll (toPys xs) ≤ k
  | [], _ => ⟨rfl, Nat.zero_le _⟩
  | x :: xs, h => by
    obtain ⟨h1, h2⟩ := fps (fun y hy => h y (List.mem_cons_of_mem _ hy))
    obtain ⟨h3, h4⟩ := h x List.mem_cons_self
    constructor
    · show ((toPy x).canLay0 && PyData.canLayAll0 (toPys xs)) = true
      rw [h1, h3]; rfl
    · show max (toPy x).depth (PyData.depthAll (toPys xs)) ≤ k
      exact Nat.max_le.mpr ⟨h4, h2⟩
theorem fp_lst {k : Nat} {o : Bool} {xs : List D} (h : ∀ x ∈ xs, FP k x) : FP (k + 1) (.node .lst o xs) := ⟨(fps h).1, Nat.succ_le_succ (fps h).2⟩
theorem fp_tup {k : Nat} {o : Bool} {xs : List D} (h : ∀ x ∈ xs, FP k x) : FP (k + 1) (.node .tup o xs) := ⟨(fps h).1, Nat.succ_le_succ (fps h).2⟩
theorem eqOk_fp {k : Nat} {d : D} (h : FP k d) (hk : k ≤ 64) : eqOk d = true := by
  show ((toPy d).canLay0 && decide ((toPy d).depth ≤ 64)) = true
  rw [h.1, decide_eq_true (Nat.le_trans h.2 hk)]; rfl
mutual
theorem eqv_refl : ∀ d : PyData, d.canLay0 = true → PyData.eqv d d = true
  | .none, _ => rfl
  | .bool b, _ => by cases b <;> rfl
  | .int i, _ => by show (i == i) = true; simp
  | .str x, _ => by show (x == x) = true; simp
  | .list xs, h => eqvAll_refl xs (by simpa [PyData.canLay0] using h)
  | .tuple xs, h => eqvAll_refl xs (by simpa [PyData.canLay0] using h)
  | .dict _, h => by simp [PyData.canLay0] at h
theorem eqvAll_refl : ∀ ds : List PyData, PyData.canLayAll0 ds = true → PyData.eqvAll ds ds = true
  | [], _ => rfl
  | d :: ds, h => by
    have h' : d.canLay0 = true ∧ PyData.canLayAll0 ds = true := by simpa [PyData.canLayAll0] using h
    show (PyData.eqv d d && PyData.eqvAll ds ds) = true
    rw [eqv_refl d h'.1, eqvAll_refl ds h'.2]; rfl
end
theorem eqD_same {k : Nat} {d e : D} (h : FP k d) (hk : k ≤ 64) (he : toPy d = toPy e) : eqD d e = some (.bl true) := by
  have h2 : FP k e := ⟨he ▸ h.1, he ▸ h.2⟩
  unfold eqD
  rw [eqOk_fp h hk, eqOk_fp h2 hk, ← he, eqv_refl _ h.1]; rfl
theorem neD_same {k : Nat} {d e : D} (h : FP k d) (hk : k ≤ 64) (he : toPy d = toPy e) : neD d e = some (.bl false) := by
  have h2 : FP k e := ⟨he ▸ h.1, he ▸ h.2⟩
  unfold neD
  rw [eqOk_fp h hk, eqOk_fp h2 hk, ← he, eqv_refl _ h.1]; rfl
theorem eq_nil {k : Nat} {o o' : Bool} {xs : List D} (h : ∀ x ∈ xs, FP k x) (hk : k < 64) : eqD (.node .lst o xs) (.node .lst o' []) = some (.bl xs.isEmpty) := by
  unfold eqD
  have h2 : eqOk (.node .lst o' []) = true := rfl
  rw [eqOk_fp (fp_lst h) hk, h2]
  cases xs with
  | nil => rfl
  | cons x xs => rfl
def pr (p : Int × Int) : D := .node .tup false [.int p.1, .int p.2]
@[simp] theorem frz_pr (p : Int × Int) : frz (pr p) = pr p := rfl
@[simp] theorem frzs_pr (ps : List (Int × Int)) : frzs (ps.map pr) = ps.map pr := by
  rw [frzs_map, List.map_map]
  exact List.map_congr_left fun _ _ => rfl
@[simp] theorem atom_pr (p : Int × Int) : atom (pr p) = false := rfl
theorem fp_pr (p : Int × Int) (k : Nat) (hk : 1 ≤ k) : FP k (pr p) := ⟨rfl, hk⟩
theorem fp_prs (ps : List (Int × Int)) : ∀ x ∈ ps.map pr, FP 1 x := fun x hx => by
  obtain ⟨p, _, rfl⟩ := List.mem_map.mp hx
  exact fp_pr p 1 (Nat.le_refl 1)
theorem noLs_prs : ∀ ps : List (Int × Int), noLs (ps.map pr) = true
  | [] => rfl
  | p :: ps => by show (true && noLs (ps.map pr)) = true; rw [noLs_prs ps]; rfl
theorem eqv_prs : ∀ xs ys : List (Int × Int), PyData.eqvAll (toPys (xs.map pr)) (toPys (ys.map pr)) = decide (xs = ys)
  | [], [] => rfl
  | [], y :: ys => rfl
  | x :: xs, [] => rfl
  | x :: xs, y :: ys => by
    show (((x.1 == y.1) && ((x.2 == y.2) && true)) && PyData.eqvAll (toPys (xs.map pr)) (toPys (ys.map pr))) = _
    rw [eqv_prs xs ys]
    obtain ⟨a, b⟩ := x
    obtain ⟨c, d⟩ := y
    by_cases h : a = c <;> by_cases h2 : b = d <;> by_cases h3 : xs = ys <;> simp [h, h2, h3]
theorem ne_prs {o o' : Bool} (xs ys : List (Int × Int)) : neD (.node .lst o (xs.map pr)) (.node .lst o' (ys.map pr)) = some (.bl (!decide (xs = ys))) := by
  unfold neD
  rw [eqOk_fp (fp_lst (fp_prs xs)) (by decide), eqOk_fp (fp_lst (fp_prs ys)) (by decide)]
  show some (D.bl (!PyData.eqvAll (toPys (xs.map pr)) (toPys (ys.map pr)))) = _
  rw [eqv_prs]
theorem eq_prs {o o' : Bool} (xs ys : List (Int × Int)) : eqD (.node .lst o (xs.map pr)) (.node .lst o' (ys.map pr)) = some (.bl (decide (xs = ys))) := by
  unfold eqD
  rw [eqOk_fp (fp_lst (fp_prs xs)) (by decide), eqOk_fp (fp_lst (fp_prs ys)) (by decide)]
  show some (D.bl (PyData.eqvAll (toPys (xs.map pr)) (toPys (ys.map pr)))) = _
  rw [eqv_prs]
theorem seq_nx {f g : Sv} {r r1 : Rho} (h : f r = .nx r1) : cSeq f g r = g r1 := by
  rw [q_seq, h]; rfl
theorem seq_rt {f g : Sv} {r r1 : Rho} {x : R} (h : f r = .rt x r1) : cSeq f g r = .rt x r1 := by
  rw [q_seq, h]; rfl
theorem seq_exc {f g : Sv} {r r1 : Rho} {c : Nat} (h : f r = .exc c r1) : cSeq f g r = .exc c r1 := by
  rw [q_seq, h]; rfl
theorem forL_rt {t : Tg} {f : Sv} {d : D} {ds : List D} {r r1 r2 : Rho} {x : R} (h1 : tgt t d r = some r1) (h2 : f r1 = .rt x r2) : forL t f (d :: ds) r = .rt x r2 := by
  show (match tgt t d r with | none => _ | some r1 => _) = _
  rw [h1]
  show (match f r1 with | .nx r2 => forL t f ds r2 | .ct r2 => forL t f ds r2 | .bk r2 => .nx r2 | o => o) = _
  rw [h2]
theorem set_same {r : Rho} {i : Nat} {d : D} (h : r[i]? = some (some d)) : r.set i (some d) = r := by
  refine List.ext_getElem? fun j => ?_
  by_cases hj : i = j
  · subst hj
    rw [List.getElem?_set_self (List.getElem?_eq_some_iff.mp h).1, h]
  · rw [List.getElem?_set_ne hj]
theorem opd_loc' {r : Rho} {i : Nat} {d : D} (h : r[i]? = some (some d)) : opd r (.loc i) = some d := by
  show (match r[i]? with | some (some d) => some d | _ => none) = _
  rw [h]
theorem touch_fz {r : Rho} {i : Nat} {k : Kd} {o : Bool} {ys : List D} (h : r[i]? = some (some (.node k o ys))) (f : frzs ys = ys) : touch r (.loc i) = r := by
  show (match r[i]? with | some (some d) => r.set i (some (frzB d)) | _ => r) = r
  rw [h]
  show r.set i (some (.node k o (frzs ys))) = r
  rw [f]
  exact set_same h
theorem atI_nat {α : Type} {xs : List α} (i : Nat) : atI xs (i : Int) = xs[i]? := by
  unfold atI ixN
  have z1 : (0 : Int) ≤ (i : Int) := by omega
  rw [if_pos z1]
  by_cases h : i < xs.length
  · rw [if_pos (show (i : Int) < (xs.length : Nat) by omega), Int.toNat_natCast]; rfl
  · rw [if_neg (show ¬ (i : Int) < (xs.length : Nat) by omega), List.getElem?_eq_none (by omega)]; rfl
theorem within_le {n : Int} (h1 : -1000000000 ≤ n) (h2 : n ≤ 1000000000) : within n = true := by unfold within; simp; omega
theorem pop_fz {r : Rho} {i : Nat} {xs : List D} {d : D} (h : r[i]? = some (some (.node .lst true (xs ++ [d])))) (f : frzs (xs ++ [d]) = xs ++ [d]) : cPop i r = .ok (.val d) (r.set i (some (.node .lst true xs))) := by
  unfold cPop
  rw [h]
  have e : (frzs (xs ++ [d]))[(xs ++ [d]).length - 1]? = some d := by rw [f]; simp
  have e2 : (frzs (xs ++ [d])).dropLast = xs := by rw [f]; simp
  simp only [e, e2, List.set_set]
@[simp] theorem q_aug {i : Nat} {g : G2} {fb : Ev} {r : Rho} : cAug i g fb r = match r[i]? with
  | some (some d) => if atom d = true then (fb r).st fun y r1 => (g (.val d) y r1).st fun z r2 => match z with
    | .val d' => .nx (r2.set i (some d'))
    | .loc _ => .bad else .bad
  | _ => .bad := rfl
@[simp] theorem q_iAdd {n m : Int} : iAdd (.int n) (.int m) = some (.int (n + m)) := rfl
theorem cvar_loc {r : Rho} {i : Nat} {d : D} (h : r[i]? = some (some d)) (a : atom d = false) : cVar i r = .ok (.loc i) r := by
  rw [q_var, h]
  show (if atom d = true then _ else _) = _
  rw [a]; rfl
theorem cvar_at {r : Rho} {i : Nat} {d : D} (h : r[i]? = some (some d)) (a : atom d = true) : cVar i r = .ok (.val d) r := by
  rw [q_var, h]
  show (if atom d = true then _ else _) = _
  rw [a]; rfl
theorem g2_ok {r : Rho} {f : D → D → Option D} {x y : R} {d e z : D} (h1 : opd r x = some d) (h2 : opd r y = some e) (h : f d e = some z) (a : atom z = true) : g2 f x y r = .ok (.val z) r := by
  rw [q_g2, h1, h2]
  show (match f d e with | some z => if atom z = true then EO.ok (R.val z) r else .bad | none => .bad) = _
  rw [h]
  show (if atom z = true then EO.ok (R.val z) r else .bad) = _
  rw [if_pos a]
theorem bin_ok {fa fb : Ev} {g : G2} {r r1 r2 : Rho} {x y : R} {o : EO} (h1 : fa r = .ok x r1) (h2 : fb r1 = .ok y r2) (h : g x y r2 = o) : cBin g fa fb r = o := by
  rw [q_bin, h1, bd_ok, h2, bd_ok, h]
theorem ifs_ok {fa : Ev} {f g : Sv} {r r1 : Rho} {b : Bool} {o : SO} (h : fa r = .ok (.val (.bl b)) r1) (h2 : (if b = true then f r1 else g r1) = o) : cIfS fa f g r = o := by
  rw [q_ifs, h, q_st1]
  cases b <;> exact h2
theorem for_ok {t : Tg} {fi : Iv} {f : Sv} {r r1 : Rho} {ds : List D} {o : SO} (h : fi r = .ok ds r1) (h2 : forL t f ds r1 = o) : cFor t fi f r = o := by
  rw [q_for, h]
  exact h2
theorem cutD_some (xs : List D) (a b : Nat) : VL.cutD xs (some (a : Int)) (some (b : Int)) = (xs.drop a).take (b - a) := by
  unfold VL.cutD
  show (xs.drop (HT.sIx xs.length 0 (some ((a : Nat) : Int)))).take (HT.sIx xs.length xs.length (some ((b : Nat) : Int)) - HT.sIx xs.length 0 (some ((a : Nat) : Int))) = _
  rw [HT.sIx_nat, HT.sIx_nat]
  by_cases h : a ≤ xs.length
  · rw [Nat.min_eq_left h]
    by_cases h2 : b ≤ xs.length
    · rw [Nat.min_eq_left h2]
    · rw [Nat.min_eq_right (by omega), List.take_of_length_le (by rw [List.length_drop]; omega), List.take_of_length_le (by rw [List.length_drop]; omega)]
  · rw [Nat.min_eq_right (show xs.length ≤ a by omega), List.drop_length, List.drop_of_length_le (show xs.length ≤ a by omega), List.take_nil, List.take_nil]
theorem cutD_to (xs : List D) (b : Nat) : VL.cutD xs none (some (b : Int)) = xs.take b := by
  unfold VL.cutD
  show (xs.drop (HT.sIx xs.length 0 none)).take (HT.sIx xs.length xs.length (some ((b : Nat) : Int)) - HT.sIx xs.length 0 none) = _
  rw [HT.sIx_nat, HT.sIx_none, List.drop_zero, Nat.sub_zero]
  by_cases h2 : b ≤ xs.length
  · rw [Nat.min_eq_left h2]
  · rw [Nat.min_eq_right (by omega), List.take_length, List.take_of_length_le (by omega)]
theorem cutD_of (xs : List D) (a : Nat) : VL.cutD xs (some (a : Int)) none = xs.drop a := by
  unfold VL.cutD
  show (xs.drop (HT.sIx xs.length 0 (some ((a : Nat) : Int)))).take (HT.sIx xs.length xs.length none - HT.sIx xs.length 0 (some ((a : Nat) : Int))) = _
  rw [HT.sIx_nat, HT.sIx_none]
  by_cases h : a ≤ xs.length
  · rw [Nat.min_eq_left h, List.take_of_length_le (by rw [List.length_drop]; omega)]
  · rw [Nat.min_eq_right (by omega), List.drop_length, List.drop_of_length_le (by omega), List.take_nil]
theorem not_ok {fa : Ev} {r r1 : Rho} {b : Bool} (h : fa r = .ok (.val (.bl b)) r1) : cNot fa r = .ok (.val (.bl (!b))) r1 := by
  rw [q_not, h, bd_ok]
section
variable {fa fb : Ev} {r r1 r2 : Rho} {i j : Int}
theorem mod_ok (h1 : fa r = .ok (.val (.int i)) r1) (h2 : fb r1 = .ok (.val (.int j)) r2) (hj : 0 < j) : cBin gMod fa fb r = .ok (.val (.int (i % j))) r2 :=
  bin_ok h1 h2 (g2_ok rfl rfl (by rw [q_fI, if_pos (posOk_of hj)]) rfl)
theorem div_ok (h1 : fa r = .ok (.val (.int i)) r1) (h2 : fb r1 = .ok (.val (.int j)) r2) (hj : 0 < j) (hj2 : j < 1073741824) : cBin gDiv fa fb r = .ok (.val (.int (i / j))) r2 :=
  bin_ok h1 h2 (g2_ok rfl rfl (by rw [q_fI, if_pos (divOk_of' hj hj2)]) rfl)
theorem mul_ok (h1 : fa r = .ok (.val (.int i)) r1) (h2 : fb r1 = .ok (.val (.int j)) r2) (hm : mulOk i j = true) : cBin gMul fa fb r = .ok (.val (.int (i * j))) r2 :=
  bin_ok h1 h2 (by rw [q_mulI, if_pos hm])
theorem add_ok (h1 : fa r = .ok (.val (.int i)) r1) (h2 : fb r1 = .ok (.val (.int j)) r2) : cBin gAdd fa fb r = .ok (.val (.int (i + j))) r2 := bin_ok h1 h2 q_addI
theorem sub_ok (h1 : fa r = .ok (.val (.int i)) r1) (h2 : fb r1 = .ok (.val (.int j)) r2) : cBin VL.gSub fa fb r = .ok (.val (.int (i - j))) r2 := bin_ok h1 h2 (g2_ok rfl rfl rfl rfl)
theorem lt_ok (h1 : fa r = .ok (.val (.int i)) r1) (h2 : fb r1 = .ok (.val (.int j)) r2) : cBin gLt fa fb r = .ok (.val (.bl (decide (i < j)))) r2 := bin_ok h1 h2 (g2_ok rfl rfl rfl rfl)
theorem le_ok (h1 : fa r = .ok (.val (.int i)) r1) (h2 : fb r1 = .ok (.val (.int j)) r2) : cBin gLe fa fb r = .ok (.val (.bl (decide (i ≤ j)))) r2 := bin_ok h1 h2 (g2_ok rfl rfl rfl rfl)
theorem gt_ok (h1 : fa r = .ok (.val (.int i)) r1) (h2 : fb r1 = .ok (.val (.int j)) r2) : cBin gGt fa fb r = .ok (.val (.bl (decide (j < i)))) r2 := bin_ok h1 h2 (g2_ok rfl rfl rfl rfl)
theorem ge_ok (h1 : fa r = .ok (.val (.int i)) r1) (h2 : fb r1 = .ok (.val (.int j)) r2) : cBin gGe fa fb r = .ok (.val (.bl (decide (j ≤ i)))) r2 := bin_ok h1 h2 (g2_ok rfl rfl rfl rfl)
theorem eq_ok (h1 : fa r = .ok (.val (.int i)) r1) (h2 : fb r1 = .ok (.val (.int j)) r2) : cBin gEq fa fb r = .ok (.val (.bl (decide (i = j)))) r2 := bin_ok h1 h2 (g2_ok rfl rfl q_eqI rfl)
theorem ne_ok (h1 : fa r = .ok (.val (.int i)) r1) (h2 : fb r1 = .ok (.val (.int j)) r2) : cBin gNe fa fb r = .ok (.val (.bl (!decide (i = j)))) r2 := bin_ok h1 h2 (g2_ok rfl rfl q_neI rfl)
theorem b1_ok {f : D → Option D} {x : R} {d z : D} (h : fa r = .ok x r1) (ho : opd r1 x = some d) (hf : f d = some z) (a : atom z = true) : cB (b1 f) (cCons fa cNil) r = .ok (.val z) r1 := by
  rw [q_B, q_cons, h]
  show (b1 f [x] r1) = _
  rw [q_b1, ho]
  show (match f d with | some z => if atom z = true then EO.ok (.val z) r1 else .bad | none => .bad) = _
  rw [hf]
  show (if atom z = true then EO.ok (.val z) r1 else .bad) = _
  rw [if_pos a]
theorem ifs_yes {fa : Ev} {f g : Sv} {o : SO} (h : fa r = .ok (.val (.bl true)) r1) (h2 : f r1 = o) : cIfS fa f g r = o := ifs_ok h h2
theorem ifs_not {fa : Ev} {f g : Sv} {o : SO} (h : fa r = .ok (.val (.bl false)) r1) (h2 : g r1 = o) : cIfS fa f g r = o := ifs_ok h h2
theorem ret_ok {fa : Ev} {x : R} (h : fa r = .ok x r1) : cRet fa r = .rt x r1 := by
  rw [q_ret, h]; rfl
end
theorem pow_ok (i j : Int) (h : powOk i j = true) (r : Rho) : gPow (.val (.int i)) (.val (.int j)) r = .ok (.val (.int (i ^ j.toNat))) r :=
  g2_ok rfl rfl (by rw [q_fI, if_pos h]) rfl
theorem runF_ok {n : Nat} {f : Sv} {ds : List D} {x : R} {r : Rho} {d : D} (h : f (startR n ds) = .rt x r) (ho : opd r x = some d) : runF n f ds = .ok d := by
  unfold runF
  rw [h]
  show (match opd r x with | some d => FO.ok d | none => .bad) = _
  rw [ho]
end VL

namespace VL
open PySem PySem.Spec PyProof.Rows L2
section
variable {X : Cx} {G : GX} {C : Fc} {W : WX} {ow ow' : Ow} {r : Rho} {T T1 T2 : List (D × V)} {s : L2.St} {H H' : Hp} {fa fb fc : Ev} {f g : Sv}
end
end VL

namespace VL
open PySem PySem.Spec PyProof.Rows L2
section
variable {X : Cx} {G : GX} {C : Fc} {W : WX} {ow ow' : Ow} {r : Rho} {T T1 T2 : List (D × V)} {s : L2.St} {H H' : Hp} {fa fb fc : Ev} {f g : Sv} {fs : Av}
def enumD : Nat → List D → List D
  | _, [] => []
  | n, d :: ds => .node .tup false [.int (n : Nat), d] :: enumD (n + 1) ds
def gEn (r : Rho) (xs : List R) : IO := match xs with
  | [.val (.node .lst _ ds)] => .ok (enumD 0 (frzs ds)) r
  | [.val (.node .rd _ ds)] => .ok (enumD 0 (frzs ds)) r
  | _ => .bad
end
section
variable {X : Cx} {G : GX} {C : Fc} {W : WX} {ow ow' : Ow} {r : Rho} {T T1 T2 : List (D × V)} {s : L2.St} {H H' : Hp} {fa fb fc : Ev} {f g : Sv} {fs : Av}
def maxL : List Int → Option Int
  | [] => none
  | x :: xs => some (xs.foldl max x)
theorem foldl_max (xs : List Int) : ∀ x : Int, x ≤ xs.foldl max x ∧ (∀ y ∈ xs, y ≤ xs.foldl max x) ∧ (xs.foldl max x = x ∨ xs.foldl max x ∈ xs) := by
  induction xs with
  | nil => exact fun x => ⟨Int.le_refl x, fun y hy => by simp at hy, .inl rfl⟩
  | cons z xs ih =>
    intro x
    obtain ⟨h1, h2, h3⟩ := ih (max x z)
    refine ⟨Int.le_trans (Int.le_max_left x z) h1, fun y hy => ?_, ?_⟩
    · rcases List.mem_cons.mp hy with e | e
      · rw [e]; exact Int.le_trans (Int.le_max_right x z) h1
      · exact h2 y e
    · rcases h3 with e | e
      · show xs.foldl max (max x z) = x ∨ xs.foldl max (max x z) ∈ z :: xs
        rw [e]
        rcases Int.le_total x z with q | q
        · right; rw [Int.max_eq_right q]; exact List.mem_cons_self
        · left; exact Int.max_eq_left q
      · exact .inr (List.mem_cons_of_mem _ e)
def lstInts : D → Option (List Int)
  | .node .lst _ ds => intsOf ds
  | _ => none
def maxD (d : D) : Option D := (lstInts d).bind fun ns => (maxL ns).map .int
theorem lstInts_rep {d : D} {ns : List Int} {l : Loc} {v : V} (K : PySem.W.Frag) (e : lstInts d = some ns) (h : Rep G ow H d l v) : ∃ a, v = .ref a ∧ SqL K H a (ns.map V.int) := by
  cases d with
  | node k o xs =>
    cases k with
    | lst =>
      obtain ⟨a, vs, ev, h1, h2, h3⟩ := h
      exact ⟨a, ev, by rw [← ints_rep e h3]; exact SqL.of h1⟩
    | _ => cases e
  | _ => cases e
theorem cs_maxL (hc : X.calm = true) : CallS X (.builtin "max") (b1 maxD) := by
  refine CallS.scal (cr_max hc) fun G hG ow H d z l v Q h e q => ?_
  unfold maxD at e
  cases e1 : lstInts d with
  | none => rw [e1] at e; cases e
  | some ns =>
    rw [e1] at e
    obtain ⟨a, ev, hs⟩ := lstInts_rep X.K e1 h
    cases ns with
    | nil => cases e
    | cons x xs =>
      cases e
      refine ⟨a, x :: xs, by rw [ev], hs, by simp, fun m hm hy => ?_⟩
      obtain ⟨h1, h2, h3⟩ := foldl_max xs x
      have e : m = xs.foldl max x := by
        refine Int.le_antisymm ?_ ?_
        · rcases List.mem_cons.mp hm with e | e
          · rw [e]; exact h1
          · exact h2 m e
        · rcases h3 with e | e
          · rw [e]; exact hy x List.mem_cons_self
          · exact hy _ (List.mem_cons_of_mem _ e)
      rw [e]
      exact q _ fun _ _ => rfl
end
end VL

namespace VL
open PySem PySem.Spec PyProof.Rows L2
section
variable {X : Cx} {G : GX} {C : Fc} {W : WX} {ow ow' : Ow} {r : Rho} {T T1 T2 : List (D × V)} {s : L2.St} {H H' : Hp} {fa fb fc : Ev} {fs : Av} {f g : Int → Int → Bool}
end
@[simp] theorem q_iEn {fs : Av} {r : Rho} {o : Bool} {ds : List D} {r1 : Rho} (h : fs r = .ok [.val (.node .lst o ds)] r1) : iRng gEn fs r = .ok (enumD 0 (frzs ds)) r1 := by
  rw [q_iRng, h]; rfl
end VL

namespace VL
open PySem PySem.Spec PyProof.Rows L2
section
variable {X : Cx} {G : GX} {C : Fc} {W : WX} {ow ow' : Ow} {r : Rho} {T T1 T2 : List (D × V)} {s : L2.St} {H H' : Hp} {fa fb fc : Ev} {f g : Sv} {fs : Av}
end
end VL
namespace VL
open PySem PySem.Spec PyProof.Rows L2
section
variable {X : Cx} {G : GX} {C : Fc} {W : WX} {ow ow' : Ow} {r : Rho} {T T1 T2 : List (D × V)} {s : L2.St} {H H' : Hp}
end
end VL
namespace VL
open PySem PySem.Spec PyProof.Rows L2
def cPar (is : List Nat) (fs : Av) : Sv := fun r => match fs r with
  | .ok xs r1 => (match valsR xs with
    | some ds => if is.length = ds.length then .nx (setAll r1 is ds) else .bad
    | none => .bad)
  | .exc c r1 => .exc c r1
  | .bad => .bad
section
variable {X : Cx} {G : GX} {C : Fc} {W : WX} {ow ow' : Ow} {r : Rho} {T T1 T2 : List (D × V)} {s : L2.St} {H H' : Hp} {fs : Av}
end
theorem par_ok {is : List Nat} {fs : Av} {r r1 : Rho} {xs : List R} {ds : List D} (h : fs r = .ok xs r1) (h2 : valsR xs = some ds) (hl : is.length = ds.length) : cPar is fs r = .nx (setAll r1 is ds) := by
  unfold cPar
  rw [h]
  show (match valsR xs with | some ds => if is.length = ds.length then SO.nx (setAll r1 is ds) else .bad | none => .bad) = _
  rw [h2]
  show (if is.length = ds.length then SO.nx (setAll r1 is ds) else .bad) = _
  rw [if_pos hl]
end VL

namespace VL
open PySem PySem.Spec PyProof.Rows L2
section
variable {X : Cx} {G : GX} {C : Fc} {W : WX} {ow ow' : Ow} {r : Rho} {T T1 T2 : List (D × V)} {s : L2.St} {H H' : Hp} {fa fb fc : Ev} {f g : Sv} {fs : Av}
end
end VL

namespace VL
open PySem PySem.Spec PyProof.Rows L2
section
variable {X : Cx} {G : GX} {C : Fc} {W : WX} {ow ow' : Ow} {r : Rho} {T T1 T2 : List (D × V)} {s : L2.St} {H H' : Hp}
end
end VL

namespace VL
open PySem PySem.Spec PyProof.Rows L2
def rel (φ : Loc → Option Loc) (ow : Ow) : Ow := fun a => (ow a).bind φ
section
variable {X : Cx} {G : GX} {C : Fc} {W : WX} {ow ow' : Ow} {r : Rho} {T T1 T2 : List (D × V)} {s : L2.St} {H H' : Hp} {fa fb fc : Ev} {f g : Sv} {φ : Loc → Option Loc}
theorem rel_none {a : Addr} (h : ow a = none) : rel φ ow a = none := by unfold rel; rw [h]; rfl
theorem rel_some {a : Addr} {l : Loc} (h : ow a = some l) : rel φ ow a = φ l := by unfold rel; rw [h]; rfl
theorem rel_of {a : Addr} {l : Loc} (h : rel φ ow a = some l) : ∃ l0, ow a = some l0 ∧ φ l0 = some l := by
  unfold rel at h
  cases e : ow a with
  | none => rw [e] at h; cases h
  | some l0 => rw [e] at h; exact ⟨l0, rfl, h⟩
theorem Rep.rel {d : D} {l l' : Loc} {v : V} (h : Rep G ow H d l v) (hφ : ∀ q, φ (l.app q) = some (l'.app q)) : Rep G (VL.rel φ ow) H d l' v :=
  h.mono d (fun _ _ z _ => z) (fun _ _ z _ => z) (fun _ _ _ z => rel_none z) fun a o q _ z => (rel_some z).trans (hφ q)
theorem OwnAt.rel {k : Kd} {o : Bool} {l l' : Loc} {a : Addr} (h : OwnAt k o l (ow a)) (hφ : φ l = some l') : OwnAt k o l' (VL.rel φ ow a) := by
  rcases h.cases with e | e
  · exact .ofR e
  · refine .mk ?_
    cases o with
    | true => rw [rel_some (l := l) (by simpa using e), hφ]; rfl
    | false => rw [rel_none (by simpa using e)]; rfl
theorem StW.reloc {r' : Rho} {T' : List (D × V)} (S : StW G C ow r T s H) (hl : r'.length = r.length) (hf : ∀ l, l.b = .fo → φ l = some l)
    (hsl : ∀ (i : Nat) (d : D), r'[i]? = some (some d) → ∃ v, s[i]? = some (some v) ∧ Rep G (VL.rel φ ow) H d ⟨.sl i, []⟩ v) (htm : ∀ (j : Nat) (d : D) (v : V), T'[j]? = some (d, v) → Rep G (VL.rel φ ow) H d ⟨.tm j, []⟩ v) : StW G C (VL.rel φ ow) r' T' s H where
  len := hl.trans S.len
  sl := hsl
  tm := htm
  old := S.old
  own := fun a l q => by
    obtain ⟨l0, e, q⟩ := rel_of q
    rcases S.own a l0 e with z | z
    · rw [hf l0 z] at q; cases q; exact .inl z
    · exact .inr z
  fo := fun a q => by rw [rel_some (S.fo a q)]; exact hf _ rfl
  mu := fun a l q => by obtain ⟨l0, e, _⟩ := rel_of q; exact S.mu a l0 e
  pin := S.pin
  tabs := S.tabs
def liftF (n i m : Nat) : Loc → Option Loc
  | ⟨.sl j, p⟩ => if j = i ∧ p.head? = some m then some ⟨.tm n, p.tail⟩ else some ⟨.sl j, p⟩
  | ⟨.tm j, p⟩ => if j < n then some ⟨.tm j, p⟩ else none
  | ⟨.fo, p⟩ => some ⟨.fo, p⟩
theorem liftF_fo {n i m : Nat} : ∀ l : Loc, l.b = .fo → liftF n i m l = some l := fun ⟨b, p⟩ h => by
  have h : b = .fo := h
  subst h; rfl
theorem liftF_tm {n i m j : Nat} {p : List Nat} (h : j < n) : liftF n i m ⟨.tm j, p⟩ = some ⟨.tm j, p⟩ := if_pos h
theorem liftF_sl {n i m j : Nat} {p : List Nat} (h : j ≠ i) : liftF n i m ⟨.sl j, p⟩ = some ⟨.sl j, p⟩ := if_neg fun z => h z.1
theorem liftF_in {n i m : Nat} {p : List Nat} (h : p.head? ≠ some m) : liftF n i m ⟨.sl i, p⟩ = some ⟨.sl i, p⟩ := if_neg fun z => h z.2
theorem liftF_at {n i m : Nat} {p : List Nat} : liftF n i m ⟨.sl i, m :: p⟩ = some ⟨.tm n, p⟩ := if_pos ⟨rfl, rfl⟩
theorem getT {p : D × V} {j : Nat} {d : D} {v : V} (q : (T ++ [p])[j]? = some (d, v)) : (j < T.length ∧ T[j]? = some (d, v)) ∨ (j = T.length ∧ p = (d, v)) := by
  by_cases hj : j < T.length
  · rw [List.getElem?_append_left hj] at q
    exact .inl ⟨hj, q⟩
  · rw [List.getElem?_append_right (by omega)] at q
    have e : j = T.length := by
      have := (List.getElem?_eq_some_iff.mp q).1
      simp at this; omega
    subst e
    simp at q
    exact .inr ⟨rfl, q⟩
theorem StW.lift {i m : Nat} {k : Kd} {o : Bool} {ds : List D} {d : D} (S : StW G C ow r T s H) (q : r[i]? = some (some (.node k o ds))) (hd : ds[m]? = some d) :
    ∃ a vs v, s[i]? = some (some (.ref a)) ∧ Holds G H a k vs ∧ OwnAt k o ⟨.sl i, []⟩ (ow a) ∧ vs.length = ds.length ∧ vs[m]? = some v ∧ Reps G ow H ds ⟨.sl i, []⟩ 0 vs ∧ StW G C (VL.rel (liftF T.length i m) ow) (r.set i (some (.node k o (ds.set m .any)))) (T ++ [(d, v)]) s H := by
  obtain ⟨v', z1, a, vs, ev, z2, z3, z4⟩ := S.sl i _ q
  subst ev
  obtain ⟨v, hv, hr⟩ := z4.get m d hd
  have hi : i < r.length := (List.getElem?_eq_some_iff.mp q).1
  refine ⟨a, vs, v, z1, z2, z3, z4.length.symm, hv, z4, S.reloc (by simp) liftF_fo (fun j d' y => ?_) fun j d' w y => ?_⟩
  · by_cases hj : j = i
    · subst hj
      rw [List.getElem?_set_self hi] at y
      cases y
      refine ⟨_, z1, a, vs, rfl, z2, z3.rel (liftF_in (by simp)), Reps.of_get (by simp [z4.length]) fun j' d' v' y1 y2 => ?_⟩
      by_cases hm : j' = m
      · subst hm
        rw [List.getElem?_set_self (List.getElem?_eq_some_iff.mp hd).1] at y1
        cases y1
        trivial
      · rw [List.getElem?_set_ne (Ne.symm hm)] at y1
        obtain ⟨v2, e1, e2⟩ := z4.get j' d' y1
        rw [y2] at e1
        cases e1
        refine e2.rel fun p => ?_
        simp only [Loc.sub, Loc.app]
        exact liftF_in (by simp; omega)
    · rw [List.getElem?_set_ne (Ne.symm hj)] at y
      obtain ⟨w, y1, y2⟩ := S.sl j d' y
      exact ⟨w, y1, y2.rel fun p => liftF_sl hj⟩
  · rcases getT y with ⟨hj, y⟩ | ⟨hj, y⟩
    · exact (S.tm j d' w y).rel fun p => liftF_tm hj
    · cases y
      subst hj
      refine hr.rel fun p => ?_
      simp only [Loc.sub, Loc.app, Nat.zero_add, List.nil_append, List.singleton_append]
      exact liftF_at
def pullF (n i : Nat) : Loc → Option Loc
  | ⟨.sl j, p⟩ => if j = i then some ⟨.tm n, p⟩ else some ⟨.sl j, p⟩
  | ⟨.tm j, p⟩ => if j < n then some ⟨.tm j, p⟩ else none
  | ⟨.fo, p⟩ => some ⟨.fo, p⟩
theorem StW.pull {i : Nat} {d : D} (S : StW G C ow r T s H) (q : r[i]? = some (some d)) : ∃ v, s[i]? = some (some v) ∧ StW G C (VL.rel (pullF T.length i) ow) (r.set i (some .any)) (T ++ [(d, v)]) s H := by
  obtain ⟨v, z1, z2⟩ := S.sl i _ q
  have hi : i < r.length := (List.getElem?_eq_some_iff.mp q).1
  refine ⟨v, z1, S.reloc (by simp) (fun ⟨b, p⟩ h => by have h : b = .fo := h; subst h; rfl) (fun j d' y => ?_) fun j d' w y => ?_⟩
  · by_cases hj : j = i
    · subst hj
      rw [List.getElem?_set_self hi] at y
      cases y
      exact ⟨v, z1, trivial⟩
    · rw [List.getElem?_set_ne (Ne.symm hj)] at y
      obtain ⟨w, y1, y2⟩ := S.sl j d' y
      exact ⟨w, y1, y2.rel fun p => if_neg hj⟩
  · rcases getT y with ⟨hj, y⟩ | ⟨hj, y⟩
    · exact (S.tm j d' w y).rel fun p => if_pos hj
    · cases y
      subst hj
      exact z2.rel fun p => if_pos rfl
def backF (n i m : Nat) : Loc → Option Loc
  | ⟨.sl j, p⟩ => if j = i ∧ p.head? = some m then none else some ⟨.sl j, p⟩
  | ⟨.tm j, p⟩ => if j = n then some ⟨.sl i, m :: p⟩ else if j < n then some ⟨.tm j, p⟩ else none
  | ⟨.fo, p⟩ => some ⟨.fo, p⟩
theorem StW.giveBack {i m : Nat} {k : Kd} {o : Bool} {ds : List D} {d : D} {v : V} {a : Addr} {vs : List V} (S : StW G C ow r (T ++ [(d, v)]) s H) (q : r[i]? = some (some (.node k o ds))) (ha : s[i]? = some (some (.ref a))) (hk : isR k ≠ true) (hh : Holds G H a k vs) (hv : vs[m]? = some v)
    (hu : ∀ us, Holds G H a k us → us = vs) : StW G C (VL.rel (backF T.length i m) ow) (r.set i (some (.node k o (ds.set m d)))) T s H := by
  obtain ⟨v', z1, a', vs', ev, z2, z3, z4⟩ := S.sl i _ q
  rw [ha] at z1
  cases z1
  cases ev
  have ee := hu _ z2
  subst ee
  have hi : i < r.length := (List.getElem?_eq_some_iff.mp q).1
  refine StW.reloc (StW.drop S) (by simp) (fun ⟨b, p⟩ h => by have h : b = .fo := h; subst h; rfl) (fun j d' y => ?_) fun j d' w y => ?_
  · by_cases hj : j = i
    · subst hj
      rw [List.getElem?_set_self hi] at y
      cases y
      refine ⟨_, ha, a, vs', rfl, z2, z3.rel (if_neg (by simp)), Reps.of_get (by simp [z4.length]) fun j' d' v' y1 y2 => ?_⟩
      by_cases hm : j' = m
      · subst hm
        have hlt : j' < ds.length := by
          have := (List.getElem?_eq_some_iff.mp y1).1
          simpa using this
        rw [List.getElem?_set_self hlt] at y1
        cases y1
        rw [hv] at y2
        cases y2
        refine (StW.last S).rel fun p => ?_
        simp only [Loc.sub, Loc.app, Nat.zero_add, List.nil_append, List.singleton_append]
        exact if_pos rfl
      · rw [List.getElem?_set_ne (Ne.symm hm)] at y1
        obtain ⟨v2, e1, e2⟩ := z4.get j' d' y1
        rw [y2] at e1
        cases e1
        refine e2.rel fun p => ?_
        simp only [Loc.sub, Loc.app]
        exact if_neg (by simp; omega)
    · rw [List.getElem?_set_ne (Ne.symm hj)] at y
      obtain ⟨w, y1, y2⟩ := S.sl j d' y
      exact ⟨w, y1, y2.rel fun p => if_neg fun z => hj z.1⟩
  · have hj : j < T.length := (List.getElem?_eq_some_iff.mp y).1
    refine ((StW.drop S).tm j d' w y).rel fun p => ?_
    show (if j = T.length then _ else if j < T.length then _ else _) = _
    rw [if_neg (by omega), if_pos hj]
    rfl
def Fc.bod (C : Fc) (H : Hp) (ow : Ow) (i j : Nat) (u v : V) : Fc := ⟨H, fun b => ∃ l, ow b = some l ∧ l.b ≠ .fo ∧ l.b ≠ .sl i, fun b => C.fo b ∨ ∃ p, ow b = some ⟨.sl i, p⟩, (j, v) :: (i, u) :: C.pin⟩
theorem pinB {C' : Fc} {i j l : Nat} (h : ∀ p ∈ C.pin, p.1 ≠ l) (e : ∃ u v, C'.pin = (j, v) :: (i, u) :: C.pin) (hi : i ≠ l) (hj : j ≠ l) : ∀ p ∈ C'.pin, p.1 ≠ l := fun p hp => by
  obtain ⟨u, v, e⟩ := e
  rw [e] at hp
  rcases List.mem_cons.mp hp with z | hp
  · rw [z]; exact hj
  rcases List.mem_cons.mp hp with z | hp
  · rw [z]; exact hi
  · exact h p hp
theorem pinBo {C' : Fc} {i j : Nat} {l : List Nat} (h : ∀ p ∈ C.pin, p.1 ∉ l) (e : ∃ u v, C'.pin = (j, v) :: (i, u) :: C.pin) (hi : i ∉ l) (hj : j ∉ l) : ∀ p ∈ C'.pin, p.1 ∉ l := fun p hp => by
  obtain ⟨u, v, e⟩ := e
  rw [e] at hp
  rcases List.mem_cons.mp hp with z | hp
  · rw [z]; exact hj
  rcases List.mem_cons.mp hp with z | hp
  · rw [z]; exact hi
  · exact h p hp
def lendF (i : Nat) : Loc → Option Loc := fun l => if l.b = .sl i then some ⟨.fo, []⟩ else some l
theorem StW.lend {i j : Nat} {u v : V} (S : StW G C ow r T s H) (hi : s[i]? = some (some u)) (hj : s[j]? = some (some v)) : StW G (C.bod H ow i j u v) (VL.rel (lendF i) ow) (r.set i (some .any)) T s H where
  len := by simpa using S.len
  sl := fun i' d q => by
    by_cases he : i' = i
    · subst he
      have hlt : i' < r.length := by
        have := (List.getElem?_eq_some_iff.mp q).1
        simpa using this
      rw [List.getElem?_set_self hlt] at q
      cases q
      exact ⟨u, hi, trivial⟩
    · rw [List.getElem?_set_ne (Ne.symm he)] at q
      obtain ⟨w, y1, y2⟩ := S.sl i' d q
      exact ⟨w, y1, y2.rel fun p => if_neg fun z => he (by injection z)⟩
  tm := fun n d w q => (S.tm n d w q).rel fun p => if_neg fun z => nomatch z
  old := fun a o _ z => .inl z
  own := fun b l q => by
    obtain ⟨l0, e, q⟩ := rel_of q
    unfold lendF at q
    split at q
    · cases q; exact .inl rfl
    · rename_i n
      cases q
      by_cases hf : l.b = .fo
      · exact .inl hf
      · exact .inr (.inr ⟨l, e, hf, n⟩)
  fo := fun b q => by
    rcases q with q | ⟨p, q⟩
    · rw [rel_some (S.fo b q)]; exact if_neg fun z => nomatch z
    · rw [rel_some q]; exact if_pos rfl
  mu := fun b l q => by obtain ⟨l0, e, _⟩ := rel_of q; exact S.mu b l0 e
  pin := fun p hp => by
    rcases List.mem_cons.mp hp with z | hp
    · rw [z]; exact hj
    rcases List.mem_cons.mp hp with z | hp
    · rw [z]; exact hi
    · exact S.pin p hp
  tabs := S.tabs
def unl (ow ow3 : Ow) (i j m : Nat) : Ow := fun b => match ow3 b with
  | none => none
  | some ⟨.fo, _⟩ => (match ow b with
    | some ⟨.fo, p⟩ => some ⟨.fo, p⟩
    | some ⟨.sl i', p⟩ => if i' = i then some ⟨.sl i, p⟩ else none
    | _ => none)
  | some ⟨.sl j', p⟩ => if j' = i then none else if j' = j then some ⟨.sl i, m :: p⟩ else some ⟨.sl j', p⟩
  | some ⟨.tm n, p⟩ => some ⟨.tm n, p⟩
theorem unl_none {ow3 : Ow} {i j m : Nat} {b : Addr} (h : ow3 b = none) : unl ow ow3 i j m b = none := by unfold unl; rw [h]
theorem unl_tm {ow3 : Ow} {i j m n : Nat} {p : List Nat} {b : Addr} (h : ow3 b = some ⟨.tm n, p⟩) : unl ow ow3 i j m b = some ⟨.tm n, p⟩ := by unfold unl; rw [h]
theorem unl_sl {ow3 : Ow} {i j m n : Nat} {p : List Nat} {b : Addr} (h : ow3 b = some ⟨.sl n, p⟩) (h1 : n ≠ i) (h2 : n ≠ j) : unl ow ow3 i j m b = some ⟨.sl n, p⟩ := by
  unfold unl; rw [h]
  show (if n = i then none else if n = j then some (Loc.mk (.sl i) (m :: p)) else some ⟨.sl n, p⟩) = _
  rw [if_neg h1, if_neg h2]
theorem unl_j {ow3 : Ow} {i j m : Nat} {p : List Nat} {b : Addr} (h : ow3 b = some ⟨.sl j, p⟩) (h1 : j ≠ i) : unl ow ow3 i j m b = some ⟨.sl i, m :: p⟩ := by
  unfold unl; rw [h]
  show (if j = i then none else if j = j then some (Loc.mk (.sl i) (m :: p)) else some ⟨.sl j, p⟩) = _
  rw [if_neg h1, if_pos rfl]
theorem unl_i {ow3 : Ow} {i j m : Nat} {p q : List Nat} {b : Addr} (h : ow3 b = some ⟨.fo, q⟩) (h1 : ow b = some ⟨.sl i, p⟩) : unl ow ow3 i j m b = some ⟨.sl i, p⟩ := by
  unfold unl; rw [h, h1]
  show (if i = i then some (Loc.mk (.sl i) p) else none) = _
  rw [if_pos rfl]
theorem unl_of {ow3 : Ow} {i j m : Nat} {b : Addr} {l : Loc} (h : unl ow ow3 i j m b = some l) : (∃ l3, ow3 b = some l3) ∧ ((∃ l0, ow b = some l0 ∧ (l.b = .fo ∨ l0.b ≠ .fo)) ∨ ∃ l3, ow3 b = some l3 ∧ l3.b ≠ .fo) := by
  unfold unl at h
  cases e : ow3 b with
  | none => rw [e] at h; cases h
  | some l3 =>
    refine ⟨⟨l3, rfl⟩, ?_⟩
    rw [e] at h
    obtain ⟨b3, p3⟩ := l3
    cases b3 with
    | fo =>
      cases e2 : ow b with
      | none => rw [e2] at h; cases h
      | some l0 =>
        rw [e2] at h
        obtain ⟨b0, p0⟩ := l0
        refine .inl ⟨_, rfl, ?_⟩
        cases b0 with
        | fo => cases h; exact .inl rfl
        | sl n => exact .inr fun z => nomatch z
        | tm n => exact .inr fun z => nomatch z
    | sl n => exact .inr ⟨_, rfl, fun z => nomatch z⟩
    | tm n => exact .inr ⟨_, rfl, fun z => nomatch z⟩
theorem StW.unlend {i j m : Nat} {ds : List D} {d' : D} {a : Addr} {v : V} {vs : List V} {ow3 : Ow} {r3 : Rho} {T3 : List (D × V)} {s3 : L2.St} {H3 : Hp} (S : StW G C ow r T s H) (q : r[i]? = some (some (.node .lst true ds))) (ha : s[i]? = some (some (.ref a)))
    (hH : H a = some (.lst vs)) (hv : vs[m]? = some v) (S3 : StW G (C.bod H ow i j (.ref a) v) ow3 r3 T3 s3 H3) (q3 : r3[j]? = some (some d') ∨ d' = .any) (hij : i ≠ j) :
    StW G C (unl ow ow3 i j m) ((r3.set i (some (.node .lst true (ds.set m d')))).set j (some .any)) T3 s3 H3 := by
  obtain ⟨w, z1, a', vs', ev, z2, z3, z4⟩ := S.sl i _ q
  rw [ha] at z1
  cases z1
  cases ev
  have z2 : H a = some (.lst vs') := z2
  rw [hH] at z2
  cases z2
  have oa : ow a = some ⟨.sl i, []⟩ := by simpa [OwnAt] using z3
  have keep : ∀ b o, H b = some o → ¬ (C.bod H ow i j (.ref a) v).io b → Kt (H3 b) o := fun b o e n => S3.old b o n e
  have nset : ∀ b p, ow b = some ⟨.sl i, p⟩ → ¬ (C.bod H ow i j (.ref a) v).io b := fun b p e n => by
    obtain ⟨l, e2, _, n2⟩ := n
    rw [e] at e2
    cases e2
    exact n2 rfl
  have nnone : ∀ b, ow b = none → ¬ (C.bod H ow i j (.ref a) v).io b := fun b e n => by
    obtain ⟨l, e2, _, _⟩ := n
    rw [e] at e2; cases e2
  have fo3 : ∀ b p, ow b = some ⟨.sl i, p⟩ → ow3 b = some ⟨.fo, []⟩ := fun b p e => S3.fo b (.inr ⟨p, e⟩)
  have nown : ∀ b o, H b = some o → ow b = none → unl ow ow3 i j m b = none := fun b o e n => by
    cases e3 : ow3 b with
    | none => exact unl_none e3
    | some l3 =>
      obtain ⟨b3, p3⟩ := l3
      rcases S3.own b _ e3 with z | z | z
      · have z : b3 = .fo := z
        subst z
        unfold unl
        rw [e3, n]
      · have z : H b = none := z
        rw [z] at e; cases e
      · exact absurd z (nnone b n)
  have p3 : s3[j]? = some (some v) := S3.pin (j, v) List.mem_cons_self
  have p3i : s3[i]? = some (some (.ref a)) := S3.pin (i, .ref a) (List.mem_cons_of_mem _ List.mem_cons_self)
  refine ⟨by simpa using S3.len, fun i' d y => ?_, fun n d w y => ?_, fun b o n y => ?_, fun b l y => ?_, fun b y => ?_, fun b l y => ?_, fun p hp => S3.pin p (List.mem_cons_of_mem _ (List.mem_cons_of_mem _ hp)), S3.tabs⟩
  · by_cases hj : i' = j
    · subst hj
      have hlt : i' < r3.length := by
        have := (List.getElem?_eq_some_iff.mp y).1
        simpa using this
      rw [List.getElem?_set_self (by simpa using hlt)] at y
      cases y
      exact ⟨v, p3, trivial⟩
    · rw [List.getElem?_set_ne (Ne.symm hj)] at y
      by_cases hi : i' = i
      · subst hi
        have hlt : i' < r3.length := by
          have := (List.getElem?_eq_some_iff.mp y).1
          simpa using this
        rw [List.getElem?_set_self hlt] at y
        cases y
        refine ⟨_, p3i, a, vs, rfl, (keep a _ hH (nset a _ oa)).get rfl, .mk ?_, Reps.of_get (by simp [z4.length]) fun n d v' y1 y2 => ?_⟩
        · exact unl_i (fo3 a _ oa) oa
        · by_cases hm : n = m
          · subst hm
            have hlt : n < ds.length := by
              have := (List.getElem?_eq_some_iff.mp y1).1
              simpa using this
            rw [List.getElem?_set_self hlt] at y1
            cases y1
            rw [hv] at y2
            cases y2
            rcases q3 with q3 | q3
            · obtain ⟨w, x1, x2⟩ := S3.sl j _ q3
              rw [p3] at x1
              cases x1
              refine x2.mono d' (fun _ _ z _ => z) (fun _ _ z _ => z) (fun _ _ _ z => unl_none z) fun b o p _ z => ?_
              have z : ow3 b = some ⟨.sl j, p⟩ := by rw [z]; simp [Loc.app]
              rw [unl_j z (Ne.symm hij)]
              simp [Loc.sub, Loc.app]
            · rw [q3]; trivial
          · rw [List.getElem?_set_ne (Ne.symm hm)] at y1
            obtain ⟨v2, e1, e2⟩ := z4.get n d y1
            rw [y2] at e1
            cases e1
            refine e2.mono d (fun b o z u => keep b o z ?_) (fun b o z u => keep b o z ?_) (fun b o z n => nown b o z n) fun b o p _ z => ?_
            · rcases u with u | ⟨p, u⟩
              · exact nnone b u
              · exact nset b _ u
            · rintro ⟨l, x1, _, _⟩
              have := S.mu b l x1
              rw [z] at this
              exact u this
            · exact unl_i (fo3 b _ z) z
      · rw [List.getElem?_set_ne (Ne.symm hi)] at y
        obtain ⟨w, y1, y2⟩ := S3.sl i' d y
        refine ⟨w, y1, y2.mono d (fun _ _ z _ => z) (fun _ _ z _ => z) (fun _ _ _ z => unl_none z) fun b o p _ z => ?_⟩
        exact unl_sl z hi hj
  · exact Rep.mono (l := ⟨.tm n, []⟩) d (fun _ _ z _ => z) (fun _ _ z _ => z) (fun _ _ _ z => unl_none z) (fun b o p _ z => unl_tm (p := [] ++ p) z) (S3.tm n d w y)
  · refine (S.old b o n y).bind fun u0 y0 => keep b u0 y0 ?_
    rintro ⟨l, x1, x2, _⟩
    rcases S.own b l x1 with z | z | z
    · exact x2 z
    · rw [z] at y; cases y
    · exact n z
  · have back : ∀ l0, ow b = some l0 → l0.b ≠ .fo → C.H0 b = none ∨ C.io b := fun l0 e n => (S.own b l0 e).resolve_left n
    rcases (unl_of y).2 with ⟨l0, e, h | h⟩ | ⟨l3, e, h⟩
    · exact .inl h
    · exact .inr (back l0 e h)
    · refine .inr ?_
      rcases S3.own b l3 e with z | z | z
      · exact absurd z h
      · have z : H b = none := z
        cases e0 : C.H0 b with
        | none => exact .inl rfl
        | some o =>
          by_cases hi : C.io b
          · exact .inr hi
          · exact ((S.old b o hi e0).on z).elim
      · obtain ⟨l0, x1, x2, _⟩ := z
        exact back l0 x1 x2
  · have e3 := S3.fo b (.inl y)
    unfold unl
    rw [e3, S.fo b y]
  · obtain ⟨⟨l3, e3⟩, _⟩ := unl_of y
    exact S3.mu b l3 e3
def partD (r : Rho) (j : Nat) : D := match r[j]? with
  | some (some d) => d
  | _ => .any
theorem partD_or (r : Rho) (j : Nat) : r[j]? = some (some (partD r j)) ∨ partD r j = .any := by
  unfold partD
  split
  · rename_i d e; exact .inl e
  · exact .inr rfl
def putM (i j m : Nat) (ds : List D) (r2 : Rho) : Rho := (r2.set i (some (.node .lst true (ds.set m (partD r2 j))))).set j (some .any)
def atL (i j : Nat) : R → Bool
  | .loc l => decide (l = i) || decide (l = j)
  | .val _ => false
def forM (i j n : Nat) (f : Sv) : Nat → Rho → SO
  | 0, r => (match r[i]? with
    | some (some (.node .lst true ds)) => if ds.length = n then .nx r else .bad
    | _ => .bad)
  | k + 1, r => (match r[i]? with
    | some (some (.node .lst true ds)) => if ds.length = n ∧ j < r.length then (match ds[n - (k + 1)]? with
      | some d => (match f ((r.set i (some .any)).set j (some d)) with
        | .nx r2 => forM i j n f k (putM i j (n - (k + 1)) ds r2)
        | .ct r2 => forM i j n f k (putM i j (n - (k + 1)) ds r2)
        | .bk r2 => .nx (putM i j (n - (k + 1)) ds r2)
        | .rt x r2 => if atL i j x = true then .bad else .rt x (putM i j (n - (k + 1)) ds r2)
        | .exc c r2 => .exc c (putM i j (n - (k + 1)) ds r2)
        | .bad => .bad)
      | none => .bad) else .bad
    | _ => .bad)
def cForM (i j : Nat) (f : Sv) : Sv := fun r => match r[i]? with
  | some (some (.node .lst true ds)) => forM i j ds.length f ds.length r
  | _ => .bad
theorem vs_forM {i j : Nat} {x y : Str} {p py : Pos} {body : List Stmt} {pos : Pos} (hp : PassesOwn (model X.prog X.w) X.A X.env X.xe) (hc : X.calm = true) (hND : X.N.Nodup) (hij : i ≠ j) (hN : X.N[i]? = some x) (hv : Vis X.env.scope x) (hd : (x == ("__debug__" : Str)) = false) (hcd : (x == ("__classdict__" : Str)) = false)
    (hj : X.N[j]? = some y) (hx : L2.Loc X.env.scope y) (hpin : ∀ p ∈ C.pin, p.1 ≠ j) (hb : ∀ C' : Fc, (∃ u v, C'.pin = (j, v) :: (i, u) :: C.pin) → VSs X G C' W body f)
    (hf : X.fn y = true ∨ X.env.scope.names.lookup y = some .local := by first | exact .inl rfl | exact .inr rfl | assumption)
    (hs : ∀ y, foldedSetIterable (.Name x p) X.env y = pure y := by intro _; rfl) : VS X G C W (.For (.Name y py) (.Name x p) body [] pos) (cForM i j f) := by
  have hb' : PSs X body (fun D s H => ∃ C' : Fc, (∃ u v, C'.pin = (j, v) :: (i, u) :: C.pin) ∧ tVS G C' W f D s H) := ⟨fun pins s σ H D I w => by
    obtain ⟨C', e, w⟩ := w
    exact (hb C' e).run pins s σ H D I w⟩
  refine PS.imp (ps_for hp hc (pi_list (pe_var hN hv hd hcd)) (pg_name hND hj hx hf) hb' hs) fun E s H h => ?_
  obtain ⟨r, T, S, h⟩ := h
  unfold cForM at h
  split at h
  · rename_i ds0 q0
    obtain ⟨ow, S⟩ := S
    obtain ⟨v, z1, a, vs, ev, z2, z3, z4⟩ := S.sl i _ q0
    subst ev
    refine ⟨_, z1, a, rfl, ⟨vs, SqL.of z2⟩, ?_⟩
    refine ⟨fun l m s' H' => m = ds0.length - l ∧ l ≤ ds0.length ∧ s'[i]? = some (some (.ref a)) ∧ ∃ r', StOk G C r' T s' H' ∧ GoesS G C W T E (forM i j ds0.length f (ds0.length - l) r'), ⟨ds0.length, by simp, Nat.zero_le _, z1, r, ⟨ow, S⟩, by simpa using h⟩, ?_⟩
    rintro l m s' H' ⟨rfl, hl0, hpi, r', ⟨ow', S'⟩, h'⟩
    by_cases hlt : l < ds0.length
    · obtain ⟨k, hk⟩ : ∃ k, ds0.length - l = k + 1 := ⟨ds0.length - l - 1, by omega⟩
      rw [hk] at h'
      unfold forM at h'
      split at h'
      · rename_i ds q
        split at h'
        · rename_i hl
          obtain ⟨hl, hjl⟩ := hl
          have ej : ds0.length - (k + 1) = l := by omega
          rw [ej] at h'
          split at h'
          · rename_i d hd'
            obtain ⟨a2, vs2, v2, w1, hA, oA, hl2, hv2, rx, S2⟩ := S'.lift q hd'
            rw [hpi] at w1
            cases w1
            have hA : H' a = some (.lst vs2) := hA
            refine .inr ⟨⟨vs2, v2, SqL.of hA, hv2⟩, fun s2 H2 => s2[i]? = some (some (.ref a)) ∧ ∃ r2, StOk G C r2 T s2 H2 ∧ GoesS G C W T E (forM i j ds0.length f (ds0.length - (l + 1)) r2), fun s2 H2 n2 => ⟨ds0.length - (l + 1), by omega, rfl, hlt, n2⟩, fun x H2 yl => ?_⟩
            obtain ⟨e1, e2⟩ := yl
            subst e1
            have ex := e2 vs2 (SqL.of hA)
            rw [hv2] at ex
            cases ex
            have kk : ds0.length - (l + 1) = k := by omega
            rw [kk]
            obtain ⟨ow4, S4⟩ : StOk G C ((r'.set i (some (.node .lst true (ds.set l .any)))).set j (some d)) T (s'.set j (some v2)) H2 := ⟨_, S2.set hpin⟩
            have hsl : j < s'.length := by rw [← S'.len]; exact hjl
            have a4 : (s'.set j (some v2))[i]? = some (some (.ref a)) := by rw [List.getElem?_set_ne (Ne.symm hij)]; exact hpi
            have S5 := S4.lend a4 (List.getElem?_set_self hsl)
            have hil : i < r'.length := (List.getElem?_eq_some_iff.mp q).1
            have q4 : ((r'.set i (some (.node .lst true (ds.set l .any)))).set j (some d))[i]? = some (some (.node .lst true (ds.set l .any))) := by
              rw [List.getElem?_set_ne (Ne.symm hij), List.getElem?_set_self hil]
            have er : ((r'.set i (some (.node .lst true (ds.set l .any)))).set j (some d)).set i (some .any) = (r'.set i (some .any)).set j (some d) := by
              rw [List.set_comm _ _ (Ne.symm hij), List.set_set]
            rw [er] at S5
            have un : ∀ {T3 : List (D × V)} {r6 : Rho} {s6 : L2.St} {H6 : Hp}, StOk G (C.bod H2 ow4 i j (.ref a) v2) r6 T3 s6 H6 → StOk G C (putM i j l ds r6) T3 s6 H6 ∧ s6[i]? = some (some (.ref a)) := fun {T3 r6 s6 H6} ⟨ow6, S6⟩ => by
              have z := StW.unlend S4 q4 a4 hA hv2 S6 (partD_or r6 j) hij
              rw [List.set_set] at z
              exact ⟨⟨_, z⟩, S6.pin (i, .ref a) (List.mem_cons_of_mem _ List.mem_cons_self)⟩
            refine ⟨_, ⟨.ref a, v2, rfl⟩, _, T, ⟨_, S5⟩, ?_⟩
            cases e3 : f ((r'.set i (some .any)).set j (some d)) with
            | nx r3 => simp only [e3] at h'; exact fun s4 H4 S4 => ⟨(un S4).2, _, (un S4).1, h'⟩
            | ct r3 => simp only [e3] at h'; exact fun s4 H4 S4 => ⟨(un S4).2, _, (un S4).1, h'⟩
            | bk r3 => simp only [e3] at h'; exact fun s4 H4 S4 => h' s4 H4 (un S4).1
            | rt x r3 =>
              simp only [e3] at h'
              split at h'
              · exact h'.elim
              · exact fun s4 v H4 P4 => h' s4 v H4 ⟨(un P4.1).1, P4.2⟩
            | exc c r3 => simp only [e3] at h'; exact fun s4 H4 S4 => h' s4 H4 (un S4).1
            | bad => simp only [e3] at h'; exact h'.elim
          · exact h'.elim
        · exact h'.elim
      · exact h'.elim
    · have ej : l = ds0.length := by omega
      subst ej
      rw [Nat.sub_self] at h'
      unfold forM at h'
      split at h'
      · rename_i ds q
        split at h'
        · rename_i hl
          obtain ⟨v2, w1, a2, vs2, ev2, w2, w3, w4⟩ := S'.sl i _ q
          rw [hpi] at w1
          cases w1
          cases ev2
          exact .inl ⟨⟨vs2, SqL.of w2, by rw [← w4.length]; omega⟩, h' s' H' ⟨ow', S'⟩⟩
        · exact h'.elim
      · exact h'.elim
  · exact h.elim
end
theorem forM_cons {i j n k : Nat} {f : Sv} {d : D} {ds : List D} {r r2 : Rho} (h : r[i]? = some (some (.node .lst true ds))) (hn : ds.length = n) (hj : j < r.length) (hd : ds[n - (k + 1)]? = some d) (h2 : f ((r.set i (some .any)).set j (some d)) = .nx r2) : forM i j n f (k + 1) r = forM i j n f k (putM i j (n - (k + 1)) ds r2) := by
  conv => lhs; unfold forM
  rw [h]
  show (if ds.length = n ∧ j < r.length then _ else _) = _
  rw [if_pos ⟨hn, hj⟩, hd]
  show (match f ((r.set i (some .any)).set j (some d)) with | .nx r2 => forM i j n f k (putM i j (n - (k + 1)) ds r2) | .ct r2 => forM i j n f k (putM i j (n - (k + 1)) ds r2) | .bk r2 => .nx (putM i j (n - (k + 1)) ds r2) | .rt x r2 => if atL i j x = true then .bad else .rt x (putM i j (n - (k + 1)) ds r2) | .exc c r2 => .exc c (putM i j (n - (k + 1)) ds r2) | .bad => .bad) = _
  rw [h2]
theorem forM_nil {i j n : Nat} {f : Sv} {ds : List D} {r : Rho} (h : r[i]? = some (some (.node .lst true ds))) (hn : ds.length = n) : forM i j n f 0 r = .nx r := by
  unfold forM
  rw [h]
  exact if_pos hn
end VL

namespace VL
open PySem PySem.Spec PyProof.Rows L2
def fcQ (H : Hp) (ow0 : Ow) (q : Nat) (v0 : V) : Fc := ⟨H, fun a => ∃ p, ow0 a = some ⟨.sl q, p⟩, fun a => ow0 a = some ⟨.fo, []⟩, [(q, v0)]⟩
def spQ (G : GX) (q n : Nat) (F : D → List D → MO) : Sp := fun vs H Q E => ∃ (d0 : D) (ds : List D) (v0 : V) (us1 us2 : List V) (ow0 : Ow), vs = us1 ++ v0 :: us2 ∧ us1.length = q ∧ ds.length = n ∧ frzs ds = ds ∧ Rep G ow0 H d0 ⟨.sl q, []⟩ v0 ∧ Reps G ow0 H ds ⟨.fo, []⟩ 0 (us1 ++ us2) ∧
  (∀ a l, ow0 a = some l → OwnO (H a) ∧ (l.b = .sl q ∨ l = ⟨.fo, []⟩)) ∧ LamX.Tabs G.T H ∧ match F d0 ds with
  | .ok d d0' => ∀ v H' (ow1 : Ow) (b : Bs), (∀ a o, (∀ p, ow0 a ≠ some ⟨.sl q, p⟩) → H a = some o → Kt (H' a) o) → b ≠ .fo → b ≠ .sl q → Rep G ow1 H' d ⟨b, []⟩ v → Rep G ow1 H' d0' ⟨.sl q, []⟩ v0 →
      (∀ a l, ow1 a = some l → l.b ≠ .fo → H a = none ∨ ∃ p, ow0 a = some ⟨.sl q, p⟩) → (∀ a, ow0 a = some ⟨.fo, []⟩ → ow1 a = some ⟨.fo, []⟩) → (∀ a l, ow1 a = some l → OwnO (H' a)) → LamX.Tabs G.T H' → Q v H'
  | .bad => False
theorem spQ_len {G : GX} {q n : Nat} {F : D → List D → MO} {vs : List V} {H : Hp} {Q : VK} {E : XK} (h : spQ G q n F vs H Q E) : vs.length = n + 1 := by
  obtain ⟨d0, ds, v0, us1, us2, ow0, e, _, h1, _, _, h4, _⟩ := h
  have := h4.length
  rw [List.length_append] at this
  rw [e, List.length_append, List.length_cons]
  omega
def putQ (q : Nat) (d0 : D) (ds : List D) : List D := ds.take q ++ d0 :: ds.drop q
def runQ (q n : Nat) (f : Sv) (d0 : D) (ds : List D) : MO := match f (startR n (putQ q d0 ds)) with
  | .rt (.val d) r => (match r[q]? with
    | some (some d0') => .ok d d0'
    | _ => .bad)
  | .rt (.loc i) r => if i = q then .bad else (match opd r (.loc i), r[q]? with
    | some d, some (some d0') => .ok d d0'
    | _, _ => .bad)
  | .nx r => (match r[q]? with
    | some (some d0') => .ok .non d0'
    | _ => .bad)
  | _ => .bad
section
variable {G : GX} {H H' : Hp} {ow ow0 : Ow}
theorem startQ_ok {N : List Str} {d0 : D} {ds : List D} {v0 : V} {us1 us2 : List V} {q : Nat} (ht : LamX.Tabs G.T H) (hq : us1.length = q) (hm : ∀ a l, ow0 a = some l → OwnO (H a) ∧ (l.b = .sl q ∨ l = ⟨.fo, []⟩)) (e : frzs ds = ds) (h0 : Rep G ow0 H d0 ⟨.sl q, []⟩ v0) (h : Reps G ow0 H ds ⟨.fo, []⟩ 0 (us1 ++ us2)) : StW G (fcQ H ow0 q v0) ow0 (startR N.length (putQ q d0 ds)) [] (L2.start N (us1 ++ v0 :: us2)) H := by
  have hlen := h.length
  rw [List.length_append] at hlen
  have part : ∀ (i' : Nat) (i : Nat) (d : D), ds[i']? = some d → (us1 ++ v0 :: us2)[i]? = (us1 ++ us2)[i']? → ∃ v, (L2.start N (us1 ++ v0 :: us2))[i]? = some (some v) ∧ Rep G ow0 H d ⟨.sl i, []⟩ v := fun i' i d q2 ev => by
    obtain ⟨v, h1, h2⟩ := h.get i' d q2
    have f : frz d = d := by
      have := congrArg (·[i']?) e
      simp only [frzs_map, List.getElem?_map, q2, Option.map_some] at this
      exact Option.some.inj this
    exact ⟨v, start_get (by rw [ev]; exact h1), Rep.moveF d f (fun a o z q => ⟨z, q⟩) (fun _ _ z _ => z) h2⟩
  exact {
  len := by
    unfold startR L2.start putQ
    simp
    omega
  sl := fun i d y => by
    have y' := startR_get y
    unfold putQ at y'
    by_cases h1 : i < q
    · rw [List.getElem?_append_left (by rw [List.length_take]; omega), List.getElem?_take_of_lt h1] at y'
      exact part i i d y' (by rw [List.getElem?_append_left (by omega), List.getElem?_append_left (by omega)])
    · by_cases h2 : i = q
      · subst h2
        rw [List.getElem?_append_right (by rw [List.length_take]; omega), List.length_take, Nat.min_eq_left (by omega), Nat.sub_self] at y'
        simp at y'
        subst y'
        exact ⟨v0, start_get (by rw [List.getElem?_append_right (by omega), hq, Nat.sub_self]; rfl), h0⟩
      · obtain ⟨m, hm⟩ : ∃ m, i = q + 1 + m := ⟨i - q - 1, by omega⟩
        subst hm
        rw [List.getElem?_append_right (by rw [List.length_take]; omega), List.length_take, Nat.min_eq_left (by omega), show q + 1 + m - q = m + 1 by omega, List.getElem?_cons_succ, List.getElem?_drop] at y'
        refine part (q + m) (q + 1 + m) d y' ?_
        rw [List.getElem?_append_right (by omega), List.getElem?_append_right (by omega), hq, show q + 1 + m - q = m + 1 by omega, List.getElem?_cons_succ, show q + m - q = m by omega]
  tm := fun j d v q => by simp at q
  old := fun a o _ z => .inl z
  own := fun a l y => by
    obtain ⟨_, z | z⟩ := hm a l y
    · obtain ⟨lb, lp⟩ := l
      have z : lb = .sl q := z
      subst z
      exact .inr (.inr ⟨lp, y⟩)
    · subst z; exact .inl rfl
  fo := fun a y => y
  mu := fun a l y => (hm a l y).1
  pin := fun p hp => by
    have e : p = (q, v0) := by simpa [fcQ] using hp
    subst e
    exact start_get (by rw [List.getElem?_append_right (by omega), hq, Nat.sub_self]; rfl)
  tabs := ht }
end
section
variable {P : Program} {w : World} {K : PySem.W.Frag} {mg : Str → Option Value} {base : Heap} {G : GX}
end
section
variable {X : Cx} {G : GX} {C : Fc} {W : WX} {ow ow' : Ow} {r : Rho} {T T1 T2 : List (D × V)} {s : L2.St} {H H' : Hp} {fs : Av}
def homeF (n i : Nat) : Loc → Option Loc
  | ⟨.sl j, p⟩ => if j = i then none else some ⟨.sl j, p⟩
  | ⟨.tm j, p⟩ => if j = n then some ⟨.sl i, p⟩ else if j < n then some ⟨.tm j, p⟩ else none
  | ⟨.fo, p⟩ => some ⟨.fo, p⟩
theorem StW.home {i : Nat} {d : D} {v : V} (S : StW G C ow r (T ++ [(d, v)]) s H) (hv : s[i]? = some (some v)) : StW G C (VL.rel (homeF T.length i) ow) (r.set i (some d)) T s H := by
  refine StW.reloc (StW.drop S) (by simp) (fun ⟨b, p⟩ h => by have h : b = .fo := h; subst h; rfl) (fun j d' y => ?_) fun j d' w y => ?_
  · by_cases hj : j = i
    · subst hj
      have hlt : j < r.length := by
        have := (List.getElem?_eq_some_iff.mp y).1
        simpa using this
      rw [List.getElem?_set_self hlt] at y
      cases y
      exact ⟨v, hv, (StW.last S).rel fun p => if_pos rfl⟩
    · rw [List.getElem?_set_ne (Ne.symm hj)] at y
      obtain ⟨w, y1, y2⟩ := S.sl j d' y
      exact ⟨w, y1, y2.rel fun p => if_neg hj⟩
  · have hj : j < T.length := (List.getElem?_eq_some_iff.mp y).1
    refine ((StW.drop S).tm j d' w y).rel fun p => ?_
    show (if j = T.length then _ else if j < T.length then _ else _) = _
    rw [if_neg (by omega), if_pos hj]
    rfl
def lentT (ow : Ow) (m q : Nat) : Ow := fun a => match ow a with
  | some l => if l.b = .tm m then some ⟨.sl q, l.p⟩ else some ⟨.fo, []⟩
  | none => none
def paidT (ow ow1 : Ow) (m n q : Nat) : Ow := fun a => match ow1 a with
  | some l => if l.b = .fo then ow a else if l.b = .sl q then some ⟨.tm m, l.p⟩ else some ⟨.tm n, l.p⟩
  | none => none
theorem lentT_none {m q : Nat} {a : Addr} : lentT ow m q a = none ↔ ow a = none := by
  unfold lentT
  cases ow a with
  | none => simp
  | some l => by_cases h : l.b = .tm m <;> simp [h]
theorem lentT_tm {m q : Nat} {a : Addr} {p : List Nat} : lentT ow m q a = some ⟨.sl q, p⟩ ↔ ow a = some ⟨.tm m, p⟩ := by
  unfold lentT
  cases ow a with
  | none => simp
  | some l =>
    obtain ⟨lb, lp⟩ := l
    by_cases h : lb = .tm m <;> simp [h]
theorem lentT_fo {m q : Nat} {a : Addr} {l : Loc} (h : ow a = some l) (n : l.b ≠ .tm m) : lentT ow m q a = some ⟨.fo, []⟩ := by
  unfold lentT; rw [h]; simp [n]
theorem tempQ {q n : Nat} {F : D → List D → MO} {d0 : D} {v0 : V} {ds : List D} {us1 us2 : List V} {Q : VK} {E : XK} (S2 : StW G C ow r (T ++ [(d0, v0)]) s H) (hq : us1.length = q) (hn : ds.length = n) (hf : frzs ds = ds) (hr : Reps G ow H ds ⟨.fo, []⟩ 0 (us1 ++ us2))
    (h : match F d0 ds with
      | .ok d d0' => ∀ v H', StOk G C r (T ++ [(d0', v0)] ++ [(d, v)]) s H' → (∀ a o, H a = some o → (∀ p, ow a ≠ some ⟨.tm T.length, p⟩) → Kt (H' a) o) → Q v H'
      | .bad => False) : spQ G q n F (us1 ++ v0 :: us2) H Q E := by
  have z2 : Rep G ow H d0 ⟨.tm T.length, []⟩ v0 := S2.last
  refine ⟨d0, ds, v0, us1, us2, lentT ow T.length q, rfl, hq, hn, hf, ?_, ?_, ?_, S2.tabs, ?_⟩
  · refine Rep.mono (l := ⟨.tm T.length, []⟩) d0 (fun _ _ z _ => z) (fun _ _ z _ => z) (fun a o _ n => lentT_none.mpr n) (fun a o p _ n => ?_) z2
    exact lentT_tm.mpr n
  · exact Reps.moveF _ hf (fun a o z n => ⟨z, lentT_none.mpr n⟩) (fun _ _ z _ => z) hr
  · intro a m y
    unfold lentT at y
    cases x : ow a with
    | none => rw [x] at y; cases y
    | some m' =>
      rw [x] at y
      refine ⟨S2.mu a m' x, ?_⟩
      simp only at y
      split at y
      · cases y; exact .inl rfl
      · cases y; exact .inr rfl
  · cases e3 : F d0 ds with
    | bad => simp only [e3] at h
    | ok d d0' =>
      simp only [e3] at h
      intro v H' ow1 b k1 b1 b2 hr h0 k2 k3 k4 k5
      have kept : ∀ a o, H a = some o → (∀ p, ow a ≠ some ⟨.tm T.length, p⟩) → Kt (H' a) o := fun a o q n => k1 a o (fun p z => n p (lentT_tm.mp z)) q
      refine h v H' ⟨paidT ow ow1 T.length (T.length + 1) q, ?_⟩ kept
      have exn : ∀ a o, H a = some o → ¬ OwnO (some o) → Kt (H' a) o := fun a o q n => kept a _ q fun p z => by
        have m := S2.mu a _ z
        rw [q] at m
        exact n m
      have none_ : ∀ a o, H a = some o → ow a = none → paidT ow ow1 T.length (T.length + 1) q a = none := fun a o q n => by
        unfold paidT
        cases y : ow1 a with
        | none => rfl
        | some m =>
          by_cases hf : m.b = .fo
          · simp only [hf, if_true]; exact n
          · rcases k2 a m y hf with z | ⟨p, z⟩
            · rw [z] at q; cases q
            · rw [lentT_tm.mp z] at n; cases n
      have same_ : ∀ a m, ow a = some m → m.b ≠ .tm T.length → paidT ow ow1 T.length (T.length + 1) q a = some m := fun a m q n => by
        unfold paidT
        rw [k3 a (lentT_fo q n)]
        simp [q]
      have hpush : StW G C (paidT ow ow1 T.length (T.length + 1) q) r (T ++ [(d0', v0)]) s H' := by
        refine ⟨S2.len, fun i' d' y => ?_, fun j' d' w y => ?_, fun a o n y => ?_, fun a m y => ?_, fun a y => ?_, fun a m y => ?_, S2.pin, k5⟩
        · obtain ⟨w, y1, y2⟩ := S2.sl i' d' y
          refine ⟨w, y1, Rep.mono (l := ⟨.sl i', []⟩) d' (fun a o z u => kept a o z fun p z2 => ?_) (fun a o z n => exn a o z n) (fun a o z n => none_ a o z n) (fun a o p _ n => ?_) y2⟩
          · rcases u with u | ⟨p', u⟩
            · rw [u] at z2; cases z2
            · rw [u] at z2
              have z2 := Option.some.inj z2
              unfold Loc.app at z2
              injection z2 with z3 _
              cases z3
          · exact same_ a _ n (fun z => nomatch z)
        · rcases getT y with ⟨hj, y⟩ | ⟨hj, y⟩
          · have z := (StW.drop S2).tm j' d' w y
            refine Rep.mono (l := ⟨.tm j', []⟩) d' (fun a o z u => kept a o z fun p z2 => ?_) (fun a o z n => exn a o z n) (fun a o z n => none_ a o z n) (fun a o p _ n => ?_) z
            · rcases u with u | ⟨p', u⟩
              · rw [u] at z2; cases z2
              · rw [u] at z2
                have z2 := Option.some.inj z2
                unfold Loc.app at z2
                injection z2 with z3 _
                injection z3 with z3
                omega
            · exact same_ a _ n (fun z => by unfold Loc.app at z; injection z with z; omega)
          · cases y
            subst hj
            refine Rep.mono (l := ⟨.sl q, []⟩) d0' (fun _ _ z _ => z) (fun _ _ z _ => z) (fun a o _ n => by unfold paidT; rw [n]) (fun a o p _ n => ?_) h0
            have n' : ow1 a = some ⟨.sl q, [] ++ p⟩ := n
            unfold paidT
            rw [n']
            simp [Loc.app]
        · refine (S2.old a o n y).bind fun u0 y0 => kept a u0 y0 fun p z => ?_
          rcases S2.own a _ z with z2 | z2 | z2
          · cases z2
          · rw [z2] at y; cases y
          · exact n z2
        · unfold paidT at y
          cases y1 : ow1 a with
          | none => rw [y1] at y; cases y
          | some m' =>
            rw [y1] at y
            by_cases hf : m'.b = .fo
            · simp only [hf, if_true] at y
              exact S2.own a m y
            · refine .inr ?_
              rcases k2 a m' y1 hf with z | ⟨p, z⟩
              · cases e : C.H0 a with
                | none => exact .inl rfl
                | some u =>
                  by_cases hi : C.io a
                  · exact .inr hi
                  · exact ((S2.old a u hi e).on z).elim
              · rcases S2.own a _ (lentT_tm.mp z) with z2 | z2
                · cases z2
                · exact z2
        · exact same_ a _ (S2.fo a y) (fun z => nomatch z)
        · unfold paidT at y
          cases y1 : ow1 a with
          | none => rw [y1] at y; cases y
          | some m' => exact k4 a m' y1
      refine hpush.push (Rep.mono (l := ⟨b, []⟩) d (fun _ _ z _ => z) (fun _ _ z _ => z) (fun a o _ n => by unfold paidT; rw [n]) (fun a o p _ n => ?_) hr)
      have n' : ow1 a = some ⟨b, [] ++ p⟩ := n
      unfold paidT
      rw [n']
      simp [Loc.app, b1, b2]
theorem locs_split : ∀ {xs1 : List R} {x0 : R} {xs2 : List R} {vs : List V}, LocsOk s (xs1 ++ x0 :: xs2) vs → ∃ us1 v0 us2, vs = us1 ++ v0 :: us2 ∧ us1.length = xs1.length ∧ us2.length = xs2.length ∧ LocsOk s (xs1 ++ xs2) (us1 ++ us2) ∧ LocsOk s (xs2 ++ xs1) (us2 ++ us1) ∧ LocOk s v0 x0 ∧ pushs (xs1 ++ x0 :: xs2) vs = pushs xs1 us1 ++ (pushR x0 v0 ++ pushs xs2 us2) ∧ pushs (xs1 ++ xs2) (us1 ++ us2) = pushs xs1 us1 ++ pushs xs2 us2 ∧ pushs (xs2 ++ xs1) (us2 ++ us1) = pushs xs2 us2 ++ pushs xs1 us1 := by
  have app : ∀ {xs ys : List R} {us ws : List V}, xs.length = us.length → LocsOk s xs us → LocsOk s ys ws → LocsOk s (xs ++ ys) (us ++ ws) ∧ pushs (xs ++ ys) (us ++ ws) = pushs xs us ++ pushs ys ws := by
    intro xs
    induction xs with
    | nil =>
      intro ys us ws hl _ h2
      have : us = [] := by simpa using hl.symm
      subst this
      exact ⟨h2, rfl⟩
    | cons x xs ih =>
      intro ys us ws hl h1 h2
      cases us with
      | nil => simp at hl
      | cons u us =>
        obtain ⟨a, b⟩ := ih (by simpa using hl) h1.2 h2
        refine ⟨⟨h1.1, a⟩, ?_⟩
        show pushR x u ++ pushs (xs ++ ys) (us ++ ws) = (pushR x u ++ pushs xs us) ++ pushs ys ws
        rw [b, List.append_assoc]
  have spl : ∀ {xs1 : List R} {x0 : R} {xs2 : List R} {vs : List V}, LocsOk s (xs1 ++ x0 :: xs2) vs → ∃ us1 v0 us2, vs = us1 ++ v0 :: us2 ∧ us1.length = xs1.length ∧ us2.length = xs2.length ∧ LocsOk s xs1 us1 ∧ LocsOk s xs2 us2 ∧ LocOk s v0 x0 ∧ pushs (xs1 ++ x0 :: xs2) vs = pushs xs1 us1 ++ (pushR x0 v0 ++ pushs xs2 us2) := by
    intro xs1
    induction xs1 with
    | nil =>
      intro x0 xs2 vs h
      cases vs with
      | nil => exact h.elim
      | cons v vs => exact ⟨[], v, vs, rfl, rfl, h.2.length.symm, trivial, h.2, h.1, rfl⟩
    | cons x xs ih =>
      intro x0 xs2 vs h
      cases vs with
      | nil => exact h.elim
      | cons v vs =>
        obtain ⟨us1, v0, us2, e, l1, l2, h1, h2, h3, h4⟩ := ih h.2
        refine ⟨v :: us1, v0, us2, by rw [e]; rfl, by simp [l1], l2, ⟨h.1, h1⟩, h2, h3, ?_⟩
        show pushR x v ++ pushs (xs ++ x0 :: xs2) vs = (pushR x v ++ pushs xs us1) ++ _
        rw [h4, List.append_assoc]
  intro xs1 x0 xs2 vs h
  obtain ⟨us1, v0, us2, e, l1, l2, h1, h2, h3, h4⟩ := spl h
  obtain ⟨a1, b1⟩ := app l1.symm h1 h2
  obtain ⟨a2, b2⟩ := app l2.symm h2 h1
  exact ⟨us1, v0, us2, e, l1, l2, a1, a2, h3, h4, b1, b2⟩
theorem valsR_app : ∀ {xs ys : List R} {ds es : List D}, valsR xs = some ds → valsR ys = some es → valsR (xs ++ ys) = some (ds ++ es)
  | [], ys, ds, es, h1, h2 => by cases h1; exact h2
  | .loc _ :: _, _, _, _, h1, _ => by cases h1
  | .val d :: xs, ys, ds, es, h1, h2 => by
    unfold valsR at h1
    cases e : valsR xs with
    | none => rw [e] at h1; cases h1
    | some ds' =>
      rw [e] at h1
      cases h1
      show (match valsR (xs ++ ys) with | some ds => some (d :: ds) | none => none) = _
      rw [valsR_app e h2]; rfl
def callKQ (q n : Nat) (F : D → List D → MO) (xs : List R) (r : Rho) : EO := if xs.length = n + 1 then (match xs.drop q with
  | .loc i :: rest => (match valsR (xs.take q), valsR rest, r[i]? with
    | some ds1, some ds2, some (some d0) => (match F d0 (frzs (ds1 ++ ds2)) with
      | .ok d d0' => .ok (.val d) (r.set i (some d0'))
      | .bad => .bad)
    | _, _, _ => .bad)
  | .val d0 :: rest => (match valsR (xs.take q), valsR rest with
    | some ds1, some ds2 => (match F d0 (frzs (ds1 ++ ds2)) with
      | .ok d _ => .ok (.val d) r
      | .bad => .bad)
    | _, _ => .bad)
  | [] => .bad) else .bad
def cCallQ (q n : Nat) (F : D → List D → MO) (fs : Av) : Ev := fun r => (fs r).bd (callKQ q n F)
theorem callQ_go {q n : Nat} {F : D → List D → MO} {Q : VK} {xs : List R} {vs : List V} {E : XK} (hqn : q ≤ n) (S : StOk G C r (T ++ pushs xs vs) s H) (l : LocsOk s xs vs) (h : Goes G C W T s Q (callKQ q n F xs r)) : spQ G q n F vs H Q E := by
  unfold callKQ at h
  split at h
  · rename_i hlen
    obtain ⟨x0, rest, hd⟩ : ∃ x0 rest, xs.drop q = x0 :: rest := by
      cases e : xs.drop q with
      | nil => have := congrArg List.length e; rw [List.length_drop] at this; simp at this; omega
      | cons x y => exact ⟨x, y, rfl⟩
    have hx : xs = xs.take q ++ x0 :: rest := by rw [← hd, List.take_append_drop]
    rw [hd] at h
    have htl : (xs.take q).length = q := by rw [List.length_take]; omega
    generalize hxs : xs.take q = xs1 at h hx htl
    subst hx
    obtain ⟨us1, v0, us2, ev, l1, l2, a1, a2, l0, e1, e2, e3⟩ := locs_split l
    rw [e1] at S
    subst ev
    have hrest : rest.length + q = n := by rw [List.length_append, List.length_cons] at hlen; omega
    cases x0 with
    | loc i =>
      simp only at h
      cases y1 : valsR xs1 with
      | none => simp only [y1] at h; exact h.elim
      | some ds1 =>
        cases y2 : valsR rest with
        | none => simp only [y1, y2] at h; exact h.elim
        | some ds2 =>
          cases y3 : r[i]? with
          | none => simp only [y1, y2, y3] at h; exact h.elim
          | some o =>
            cases o with
            | none => simp only [y1, y2, y3] at h; exact h.elim
            | some d0 =>
              simp only [y1, y2, y3] at h
              obtain ⟨ow, S⟩ := S
              have y12 := valsR_app y1 y2
              obtain ⟨g1, g2, g3⟩ := valsR_frz (r := r) y12
              obtain ⟨ow2, S2, r1, r2, r3⟩ := StW.settles (T := T) (xs := xs1 ++ rest) (vs := us1 ++ us2) (show StW G C ow r (T ++ pushs (xs1 ++ rest) (us1 ++ us2)) s H by rw [e2]; exact S) a1 g1
              rw [g2] at S2
              obtain ⟨v', z1, S3⟩ := S2.pull y3
              have l0 : s[i]? = some (some v0) := l0
              rw [l0] at z1
              cases z1
              refine tempQ (ds := frzs (ds1 ++ ds2)) S3 (by omega) (by rw [frzs_length, g3, List.length_append]; omega) (frzs_frzs _) (Reps.moveF _ (frzs_frzs _) (fun a o z n => ⟨z, rel_none n⟩) (fun _ _ z _ => z) (r1 ⟨.fo, []⟩ 0)) ?_
              cases y4 : F d0 (frzs (ds1 ++ ds2)) with
              | bad => simp only [y4] at h; exact h.elim
              | ok d d0' =>
                simp only [y4] at h
                intro v H' S4 _
                refine h v H' ⟨?_, trivial⟩
                have S5 : StOk G C (r.set i (some .any)) (T ++ ([(d0', v0)] ++ [(d, v)])) s H' := by simpa using S4
                have S6 := S5.swap
                obtain ⟨ow6, S6⟩ := S6
                have S7 : StW G C ow6 (r.set i (some .any)) ((T ++ [(d, v)]) ++ [(d0', v0)]) s H' := by simpa using S6
                have S8 := S7.home l0
                rw [List.set_set] at S8
                exact ⟨_, S8⟩
    | val d0 =>
      simp only at h
      cases y1 : valsR xs1 with
      | none => simp only [y1] at h; exact h.elim
      | some ds1 =>
        cases y2 : valsR rest with
        | none => simp only [y1, y2] at h; exact h.elim
        | some ds2 =>
          simp only [y1, y2] at h
          have S1 : StOk G C r ((T ++ [(d0, v0)]) ++ pushs (rest ++ xs1) (us2 ++ us1)) s H := by
            rw [e3]
            have z := StOk.swap (T := T) (A := pushs xs1 us1) (B := [(d0, v0)] ++ pushs rest us2) S
            simpa using z
          obtain ⟨ow, S1⟩ := S1
          have y21 := valsR_app y2 y1
          obtain ⟨g1, g2, g3⟩ := valsR_frz (r := r) y21
          have k1 := (valsR_frz (r := r) y1).2.2
          have k2 := (valsR_frz (r := r) y2).2.2
          obtain ⟨ow2, S2, r1, r2, r3⟩ := StW.settles S1 a2 g1
          rw [g2] at S2
          refine tempQ (ds := frzs (ds1 ++ ds2)) S2 (by omega) (by rw [frzs_length, List.length_append]; omega) (frzs_frzs _) ?_ ?_
          · have r1 := r1 ⟨.fo, []⟩ 0
            refine Reps.of_get (by rw [frzs_length, List.length_append, List.length_append]; omega) fun j d v x1 x2 => ?_
            have fd : frz d = d := by
              rw [frzs_map, List.getElem?_map] at x1
              cases z : (ds1 ++ ds2)[j]? with
              | none => rw [z] at x1; cases x1
              | some d1 => rw [z] at x1; cases x1; exact frz_frz d1
            have main : ∀ j', (frzs (ds2 ++ ds1))[j']? = some d → (us2 ++ us1)[j']? = some v → Rep G ow2 H d (Loc.sub ⟨.fo, []⟩ (0 + j)) v := fun j' w1 w2 => by
              obtain ⟨v', w3, w4⟩ := r1.get j' d w1
              rw [w2] at w3
              cases w3
              exact Rep.moveF d fd (fun a o z n => ⟨z, n⟩) (fun _ _ z _ => z) w4
            rw [frzs_map, List.map_append] at x1
            by_cases hj : j < ds1.length
            · rw [List.getElem?_append_left (by simpa using hj)] at x1
              rw [List.getElem?_append_left (by omega)] at x2
              refine main (ds2.length + j) ?_ ?_
              · rw [frzs_map, List.map_append, List.getElem?_append_right (by simp), List.length_map, Nat.add_sub_cancel_left]
                exact x1
              · rw [List.getElem?_append_right (by omega), show ds2.length + j - us2.length = j by omega]
                exact x2
            · rw [List.getElem?_append_right (by simpa using hj), List.length_map] at x1
              rw [List.getElem?_append_right (by omega)] at x2
              refine main (j - ds1.length) ?_ ?_
              · rw [frzs_map, List.map_append, List.getElem?_append_left (by
                  have := (List.getElem?_eq_some_iff.mp x1).1
                  exact this)]
                exact x1
              · rw [List.getElem?_append_left (by
                  have := (List.getElem?_eq_some_iff.mp x1).1
                  simp at this; omega), show j - ds1.length = j - us1.length by omega]
                exact x2
          · cases y4 : F d0 (frzs (ds1 ++ ds2)) with
            | bad => simp only [y4] at h; exact h.elim
            | ok d d0' =>
              simp only [y4] at h
              intro v H' S4 _
              exact h v H' (Post.slide (T2 := [(d0', v0)]) (x := .val d) ⟨S4, trivial⟩)
  · exact h.elim
theorem ve_callQ {q n k : Nat} {F : D → List D → MO} {f : Addr} {fd : FuncData} {ps : List Str} {x : Str} {p pos : Pos} {e : Expr} {es : List Expr} (tk : Takes X W) (Fk : FnOk X.prog X.w X.K X.mg X.base (L2.CX X.prog X.w) k f fd ps (spQ G q n F)) (hqn : q ≤ n) (hr : Room k X.A) (hg : Gl X x) (hm : X.mg x = some (.ref f))
    (hk : PySem.W.keepIn X.K (.ref f) = true) (hb : Binds X.K fd ps []) (ha : VA X G C W (e :: es) fs) (hdb : (x == ("__debug__" : Str)) = false := by decide) (he : starEach (e :: es) X.env = (false, eval e X.env) :: starEach es X.env := by rfl) (hpl : (backTo pos (starEach es X.env)).any (·.1) = false := by rfl) :
    VE X G C W (.Call (.Name x p) (e :: es) [] pos) (cCallQ q n F fs) := by
  refine PE.imp (pe_callS Fk hr hg hm hk hb (fun σ => passAt tk σ) ha hdb he hpl) fun s H Q h => ?_
  obtain ⟨r, T, S, g⟩ := h
  exact many (T2 := []) (by simpa using S) g fun xs vs r1 H1 S1 l1 g1 => callQ_go hqn (by simpa using S1) l1 g1
end
end VL

namespace VL
open PySem PySem.Spec PyProof.Rows L2
section
variable {X : Cx} {G : GX} {C : Fc} {W : WX} {ow ow' : Ow} {r : Rho} {T T1 T2 : List (D × V)} {s : L2.St} {H H' : Hp} {fa fb fc fk : Ev} {fs : Av} {f g : Sv}
def unl0 (ow ow3 : Ow) (i : Nat) : Ow := fun b => match ow3 b with
  | none => none
  | some ⟨.fo, _⟩ => (match ow b with
    | some ⟨.fo, p⟩ => some ⟨.fo, p⟩
    | some ⟨.sl i', p⟩ => if i' = i then some ⟨.sl i, p⟩ else none
    | _ => none)
  | some ⟨.sl j', p⟩ => if j' = i then none else some ⟨.sl j', p⟩
  | some ⟨.tm n, p⟩ => some ⟨.tm n, p⟩
theorem unl0_none {ow3 : Ow} {i : Nat} {b : Addr} (h : ow3 b = none) : unl0 ow ow3 i b = none := by unfold unl0; rw [h]
theorem unl0_tm {ow3 : Ow} {i n : Nat} {p : List Nat} {b : Addr} (h : ow3 b = some ⟨.tm n, p⟩) : unl0 ow ow3 i b = some ⟨.tm n, p⟩ := by unfold unl0; rw [h]
theorem unl0_sl {ow3 : Ow} {i n : Nat} {p : List Nat} {b : Addr} (h : ow3 b = some ⟨.sl n, p⟩) (h1 : n ≠ i) : unl0 ow ow3 i b = some ⟨.sl n, p⟩ := by
  unfold unl0; rw [h]
  show (if n = i then none else some (Loc.mk (.sl n) p)) = _
  rw [if_neg h1]
theorem unl0_i {ow3 : Ow} {i : Nat} {p q : List Nat} {b : Addr} (h : ow3 b = some ⟨.fo, q⟩) (h1 : ow b = some ⟨.sl i, p⟩) : unl0 ow ow3 i b = some ⟨.sl i, p⟩ := by
  unfold unl0; rw [h, h1]
  show (if i = i then some (Loc.mk (.sl i) p) else none) = _
  rw [if_pos rfl]
theorem unl0_of {ow3 : Ow} {i : Nat} {b : Addr} {l : Loc} (h : unl0 ow ow3 i b = some l) : (∃ l3, ow3 b = some l3) ∧ ((∃ l0, ow b = some l0 ∧ (l.b = .fo ∨ l0.b ≠ .fo)) ∨ ∃ l3, ow3 b = some l3 ∧ l3.b ≠ .fo) := by
  unfold unl0 at h
  cases e : ow3 b with
  | none => rw [e] at h; cases h
  | some l3 =>
    refine ⟨⟨l3, rfl⟩, ?_⟩
    rw [e] at h
    obtain ⟨b3, p3⟩ := l3
    cases b3 with
    | fo =>
      cases e2 : ow b with
      | none => rw [e2] at h; cases h
      | some l0 =>
        rw [e2] at h
        obtain ⟨b0, p0⟩ := l0
        refine .inl ⟨_, rfl, ?_⟩
        cases b0 with
        | fo => cases h; exact .inl rfl
        | sl n => exact .inr fun z => nomatch z
        | tm n => exact .inr fun z => nomatch z
    | sl n => exact .inr ⟨_, rfl, fun z => nomatch z⟩
    | tm n => exact .inr ⟨_, rfl, fun z => nomatch z⟩
theorem StW.unlend0 {i : Nat} {k : Kd} {o : Bool} {ds : List D} {a : Addr} {vs : List V} {ow3 : Ow} {r3 : Rho} {T3 : List (D × V)} {s3 : L2.St} {H3 : Hp} (S : StW G C ow r T s H) (q : r[i]? = some (some (.node k o ds))) (hk : isR k ≠ true) (ha : s[i]? = some (some (.ref a)))
    (hH : Holds G H a k vs) (hu : ∀ us, Holds G H a k us → us = vs) (S3 : StW G (C.bod H ow i i (.ref a) (.ref a)) ow3 r3 T3 s3 H3) :
    StW G C (unl0 ow ow3 i) (r3.set i (some (.node k o ds))) T3 s3 H3 ∧ Holds G H3 a k vs ∧ s3[i]? = some (some (.ref a)) := by
  obtain ⟨w, z1, a', vs', ev, z2, z3, z4⟩ := S.sl i _ q
  rw [ha] at z1
  cases z1
  cases ev
  have ee := hu _ z2
  subst ee
  have oa : ow a = if o = true then some ⟨.sl i, []⟩ else none := z3.cases.resolve_left hk
  have keep : ∀ b o, H b = some o → ¬ (C.bod H ow i i (.ref a) (.ref a)).io b → Kt (H3 b) o := fun b o e n => S3.old b o n e
  have nset : ∀ b p, ow b = some ⟨.sl i, p⟩ → ¬ (C.bod H ow i i (.ref a) (.ref a)).io b := fun b p e n => by
    obtain ⟨l, e2, _, n2⟩ := n
    rw [e] at e2
    cases e2
    exact n2 rfl
  have nnone : ∀ b, ow b = none → ¬ (C.bod H ow i i (.ref a) (.ref a)).io b := fun b e n => by
    obtain ⟨l, e2, _, _⟩ := n
    rw [e] at e2; cases e2
  have fo3 : ∀ b p, ow b = some ⟨.sl i, p⟩ → ow3 b = some ⟨.fo, []⟩ := fun b p e => S3.fo b (.inr ⟨p, e⟩)
  have nown : ∀ b o, H b = some o → ow b = none → unl0 ow ow3 i b = none := fun b o e n => by
    cases e3 : ow3 b with
    | none => exact unl0_none e3
    | some l3 =>
      obtain ⟨b3, p3⟩ := l3
      rcases S3.own b _ e3 with z | z | z
      · have z : b3 = .fo := z
        subst z
        unfold unl0
        rw [e3, n]
      · have z : H b = none := z
        rw [z] at e; cases e
      · exact absurd z (nnone b n)
  have p3i : s3[i]? = some (some (.ref a)) := S3.pin (i, .ref a) (List.mem_cons_of_mem _ List.mem_cons_self)
  have na : ¬ (C.bod H ow i i (.ref a) (.ref a)).io a := by
    cases o with
    | true => exact nset a [] (by simpa using oa)
    | false => exact nnone a (by simpa using oa)
  have hH3 : Holds G H3 a k vs' := by
    obtain ⟨ob, hob, _⟩ := hH.there hk
    exact hH.keep fun o z => keep a o z na
  refine ⟨⟨by simpa using S3.len, fun i' d y => ?_, fun n d w y => ?_, fun b o n y => ?_, fun b l y => ?_, fun b y => ?_, fun b l y => ?_, fun p hp => S3.pin p (List.mem_cons_of_mem _ (List.mem_cons_of_mem _ hp)), S3.tabs⟩, hH3, p3i⟩
  · by_cases hi : i' = i
    · subst hi
      have hlt : i' < r3.length := by
        have := (List.getElem?_eq_some_iff.mp y).1
        simpa using this
      rw [List.getElem?_set_self hlt] at y
      cases y
      refine ⟨_, p3i, a, vs', rfl, hH3, .mk ?_, Reps.of_get z4.length fun n d v' y1 y2 => ?_⟩
      · obtain ⟨ob, hob, _⟩ := hH.there hk
        cases o with
        | true =>
          have oa' : ow a = some ⟨.sl i', []⟩ := by simpa using oa
          rw [unl0_i (fo3 a _ oa') oa']; rfl
        | false =>
          have oa' : ow a = none := by simpa using oa
          rw [nown a ob hob oa']; rfl
      · obtain ⟨v2, e1, e2⟩ := z4.get n d y1
        rw [y2] at e1
        cases e1
        refine e2.mono d (fun b o z u => keep b o z ?_) (fun b o z u => keep b o z ?_) (fun b o z n => nown b o z n) fun b o p _ z => ?_
        · rcases u with u | ⟨p, u⟩
          · exact nnone b u
          · exact nset b _ u
        · rintro ⟨l, x1, _, _⟩
          have := S.mu b l x1
          rw [z] at this
          exact u this
        · exact unl0_i (fo3 b _ z) z
    · rw [List.getElem?_set_ne (Ne.symm hi)] at y
      obtain ⟨w, y1, y2⟩ := S3.sl i' d y
      refine ⟨w, y1, y2.mono d (fun _ _ z _ => z) (fun _ _ z _ => z) (fun _ _ _ z => unl0_none z) fun b o p _ z => ?_⟩
      exact unl0_sl z hi
  · exact Rep.mono (l := ⟨.tm n, []⟩) d (fun _ _ z _ => z) (fun _ _ z _ => z) (fun _ _ _ z => unl0_none z) (fun b o p _ z => unl0_tm (p := [] ++ p) z) (S3.tm n d w y)
  · refine (S.old b o n y).bind fun u0 y0 => keep b u0 y0 ?_
    rintro ⟨l, x1, x2, _⟩
    rcases S.own b l x1 with z | z | z
    · exact x2 z
    · rw [z] at y; cases y
    · exact n z
  · have back : ∀ l0, ow b = some l0 → l0.b ≠ .fo → C.H0 b = none ∨ C.io b := fun l0 e n => (S.own b l0 e).resolve_left n
    rcases (unl0_of y).2 with ⟨l0, e, h | h⟩ | ⟨l3, e, h⟩
    · exact .inl h
    · exact .inr (back l0 e h)
    · refine .inr ?_
      rcases S3.own b l3 e with z | z | z
      · exact absurd z h
      · have z : H b = none := z
        cases e0 : C.H0 b with
        | none => exact .inl rfl
        | some o =>
          by_cases hi : C.io b
          · exact .inr hi
          · exact ((S.old b o hi e0).on z).elim
      · obtain ⟨l0, x1, x2, _⟩ := z
        exact back l0 x1 x2
  · have e3 := S3.fo b (.inl y)
    unfold unl0
    rw [e3, S.fo b y]
  · obtain ⟨⟨l3, e3⟩, _⟩ := unl0_of y
    exact S3.mu b l3 e3
theorem StW.unlendA {i : Nat} {a : Addr} {ow3 : Ow} {r3 : Rho} {T3 : List (D × V)} {s3 : L2.St} {H3 : Hp} (S : StW G C ow r T s H) (S3 : StW G (C.bod H ow i i (.ref a) (.ref a)) ow3 r3 T3 s3 H3) :
    StW G C (unl0 ow ow3 i) (r3.set i (some .any)) T3 s3 H3 := by
  have keep : ∀ b o, H b = some o → ¬ (C.bod H ow i i (.ref a) (.ref a)).io b → Kt (H3 b) o := fun b o e n => S3.old b o n e
  have p3i : s3[i]? = some (some (.ref a)) := S3.pin (i, .ref a) (List.mem_cons_of_mem _ List.mem_cons_self)
  refine ⟨by simpa using S3.len, fun i' d y => ?_, fun n d w y => ?_, fun b o n y => ?_, fun b l y => ?_, fun b y => ?_, fun b l y => ?_, fun p hp => S3.pin p (List.mem_cons_of_mem _ (List.mem_cons_of_mem _ hp)), S3.tabs⟩
  · by_cases hi : i' = i
    · subst hi
      have hlt : i' < r3.length := by
        have := (List.getElem?_eq_some_iff.mp y).1
        simpa using this
      rw [List.getElem?_set_self hlt] at y
      cases y
      exact ⟨_, p3i, trivial⟩
    · rw [List.getElem?_set_ne (Ne.symm hi)] at y
      obtain ⟨w, y1, y2⟩ := S3.sl i' d y
      refine ⟨w, y1, y2.mono d (fun _ _ z _ => z) (fun _ _ z _ => z) (fun _ _ _ z => unl0_none z) fun b o p _ z => ?_⟩
      exact unl0_sl z hi
  · exact Rep.mono (l := ⟨.tm n, []⟩) d (fun _ _ z _ => z) (fun _ _ z _ => z) (fun _ _ _ z => unl0_none z) (fun b o p _ z => unl0_tm (p := [] ++ p) z) (S3.tm n d w y)
  · refine (S.old b o n y).bind fun u0 y0 => keep b u0 y0 ?_
    rintro ⟨l, x1, x2, _⟩
    rcases S.own b l x1 with z | z | z
    · exact x2 z
    · rw [z] at y; cases y
    · exact n z
  · have back : ∀ l0, ow b = some l0 → l0.b ≠ .fo → C.H0 b = none ∨ C.io b := fun l0 e n => (S.own b l0 e).resolve_left n
    rcases (unl0_of y).2 with ⟨l0, e, h | h⟩ | ⟨l3, e, h⟩
    · exact .inl h
    · exact .inr (back l0 e h)
    · refine .inr ?_
      rcases S3.own b l3 e with z | z | z
      · exact absurd z h
      · have z : H b = none := z
        cases e0 : C.H0 b with
        | none => exact .inl rfl
        | some o =>
          by_cases hi : C.io b
          · exact .inr hi
          · exact ((S.old b o hi e0).on z).elim
      · obtain ⟨l0, x1, x2, _⟩ := z
        exact back l0 x1 x2
  · have e3 := S3.fo b (.inl y)
    unfold unl0
    rw [e3, S.fo b y]
  · obtain ⟨⟨l3, e3⟩, _⟩ := unl0_of y
    exact S3.mu b l3 e3
def seqK : Kd → Bool
  | .lst => true
  | .tup => true
  | _ => false
theorem seqK_of {k : Kd} (h : seqK k = true) : k = .lst ∨ k = .tup := by
  cases k <;> first | exact .inl rfl | exact .inr rfl | cases h
theorem seqK_one {k : Kd} {a : Addr} {us vs : List V} (h : seqK k = true) (h1 : Holds G H a k us) (h2 : Holds G H a k vs) : us = vs := by
  rcases seqK_of h with e | e
  · subst e
    have h1 : H a = some (.lst us) := h1
    have h2 : H a = some (.lst vs) := h2
    rw [h1] at h2; cases h2; rfl
  · subst e
    have h1 : H a = some (.tup us) := h1
    have h2 : H a = some (.tup vs) := h2
    rw [h1] at h2; cases h2; rfl
theorem seqK_ix {K : PySem.W.Frag} {k : Kd} {a : Addr} {vs : List V} {i : Int} {w : V} {Q : VK} (h : seqK k = true) (h1 : Holds G H a k vs) (h2 : atI vs i = some w) (hq : Q w H) : L2.rIx K (.ref a) (.int i) H Q := by
  rcases seqK_of h with e | e
  · subst e
    exact .inl ⟨a, vs, i, w, rfl, rfl, SqL.of h1, h2, hq⟩
  · subst e
    exact .inr (.inl ⟨a, vs, i, w, rfl, rfl, SqT.of h1, h2, hq⟩)
def isSeq (r : Rho) (i : Nat) : Bool := match r[i]? with
  | some (some (.node k _ _)) => seqK k
  | _ => false
theorem isSeq_at {i : Nat} (h : isSeq r i = true) : ∃ k o ds, r[i]? = some (some (.node k o ds)) ∧ seqK k = true := by
  unfold isSeq at h
  split at h
  · rename_i k o ds e; exact ⟨k, o, ds, e, h⟩
  · cases h
def spot (r : Rho) (i : Nat) (y : R) : Option (Kd × Bool × List D × Nat × D) := match y, r[i]? with
  | .val (.int kk), some (some (.node k o ds)) => if seqK k = true then (match ixN ds.length kk with
    | some m => (match ds[m]? with
      | some d => some (k, o, ds, m, d)
      | none => none)
    | none => none) else none
  | _, _ => none
theorem spot_of {i : Nat} {y : R} {k : Kd} {o : Bool} {ds : List D} {m : Nat} {d : D} (h : spot r i y = some (k, o, ds, m, d)) : ∃ kk, y = .val (.int kk) ∧ r[i]? = some (some (.node k o ds)) ∧ seqK k = true ∧ ixN ds.length kk = some m ∧ ds[m]? = some d := by
  unfold spot at h
  split at h
  · rename_i kk k' o' ds' e
    split at h
    · rename_i hk
      split at h
      · rename_i m' em
        split at h
        · rename_i d' ed
          cases h
          exact ⟨kk, rfl, e, hk, em, ed⟩
        · cases h
      · cases h
    · cases h
  · cases h
def cAppP (i : Nat) (fk fa : Ev) : Ev := fun r => if isSeq r i = true then (fk r).bd (fun y r1 => match spot r1 i y with
  | some (k, o, ds, m, .node .lst true acc) => (match cSet fa (r1.set i (some .any)) with
    | .ok (.val d) r2 => if acc.length < 16777216 then .ok (.val .non) (r2.set i (some (.node k o (ds.set m (.node .lst true (acc ++ [d])))))) else .bad
    | .exc c r2 => .exc c (r2.set i (some .any))
    | _ => .bad)
  | _ => .bad) else .bad
theorem spot_go {i : Nat} {y : R} {u : V} {k : Kd} {o : Bool} {ds : List D} {m : Nat} {d : D} (P : Post G C r T s H y u) (h : spot r i y = some (k, o, ds, m, d)) : ∃ kk a vs w ow2, u = .int kk ∧ s[i]? = some (some (.ref a)) ∧ Holds G H a k vs ∧ atI vs kk = some w ∧ vs[m]? = some w ∧
    StW G C ow2 (r.set i (some (.node k o (ds.set m .any)))) (T ++ [(d, w)]) s H ∧ StW G (C.bod H ow2 i i (.ref a) (.ref a)) (VL.rel (lendF i) ow2) (r.set i (some .any)) (T ++ [(d, w)]) s H := by
  obtain ⟨kk, ey, q, hk, em, ed⟩ := spot_of h
  subst ey
  obtain ⟨⟨ow, S⟩, _⟩ := P
  have eu : u = .int kk := StW.last S
  obtain ⟨a, vs, w, w1, hA, oA, hl, hv, rx, S2⟩ := (StW.drop S).lift q ed
  have hat : atI vs kk = some w := by
    unfold atI
    rw [hl, em]
    exact hv
  have S3 := S2.lend w1 w1
  rw [List.set_set] at S3
  exact ⟨kk, a, vs, w, _, eu, w1, hA, hat, hv, S2, S3⟩
theorem ve_appP {i : Nat} {x : Str} {e ek : Expr} {p ps apos cpos : Pos} (hN : X.N[i]? = some x) (hv : Vis X.env.scope x) (hd : (x == ("__debug__" : Str)) = false) (hcd : (x == ("__classdict__" : Str)) = false) (hk : VE X G C W ek fk) (hs1 : PlainIx ek)
    (ha : ∀ C' : Fc, (∃ u v, C'.pin = (i, v) :: (i, u) :: C.pin) → VE X G C' W e fa)
    (hbase : attributeBase (.Subscript (.Name x p) ek ps) "append" X.env (eval (.Subscript (.Name x p) ek ps) X.env) = eval (.Subscript (.Name x p) ek ps) X.env := by rfl)
    (hfew : ((backTo cpos (starEach [e] X.env)).all (fun x => !x.1) && (backToKw cpos (keywordEach [] X.env)).all (fun x => x.1.isSome)
      && decide ([e].length + ([] : List Keyword).length + (if ([] : List Keyword).isEmpty then 0 else 1) < 30)) = true := by rfl)
    (hline : (apos.endLine == cpos.line) = true := by rfl) (hs : starEach [e] X.env = (false, eval e X.env) :: starEach [] X.env := by rfl) (hplain : (backTo cpos (starEach [] X.env)).any (·.1) = false := by rfl) :
    VE X G C W (.Call (.Attribute (.Subscript (.Name x p) ek ps) "append" apos) [e] [] cpos) (cAppP i fk fa) := by
  have he : PE X e (fun s H Q => ∃ C' : Fc, (∃ u v, C'.pin = (i, v) :: (i, u) :: C.pin) ∧ tV G C' W (cSet fa) s H Q) := ⟨fun pins s σ H Q I w => by
    obtain ⟨C', e', w⟩ := w
    exact (ve_set (ha C' e')).run pins s σ H Q I w⟩
  refine PE.imp (pe_bm PySem.F.plainAttrs_list PySem.F.slot_list_append PySem.F.type_list_append mt_append (pe_ix ix_seq (pe_var hN hv hd hcd) hk hs1) (pa_cons he pa_nil hs) hbase hfew hline hs hplain) fun s H Q h => ?_
  obtain ⟨r, T, S, g⟩ := h
  have g : Goes G C W T s Q (cAppP i fk fa r) := g
  unfold cAppP at g
  split at g
  · rename_i hi
    obtain ⟨k0, o0, ds0, hr, _⟩ := isSeq_at hi
    obtain ⟨ow, S0⟩ := S
    obtain ⟨v, v1, a0, vs0, ev, v2, v3, v4⟩ := S0.sl i _ hr
    subst ev
    refine ⟨_, v1, ?_⟩
    refine one (fa := fk) ⟨ow, S0⟩ g fun y u r1 H1 P g1 => ?_
    cases es : spot r1 i y with
    | none => simp only [es] at g1; exact g1.elim
    | some z =>
      obtain ⟨k, o, ds, m, d⟩ := z
      obtain ⟨kk, a, vs, w, ow2, eu, w1, hA, hat, hvm, S2, S3⟩ := spot_go P es
      obtain ⟨_, _, _, hk, _, hdm⟩ := spot_of es
      rw [v1] at w1
      cases w1
      subst eu
      refine seqK_ix hk hA hat ?_
      simp only [es] at g1
      split at g1
      · rename_i k' o' ds' m' acc ee
        cases ee
        obtain ⟨b, ws, eb, hB, oB, _⟩ := StW.last S2
        subst eb
        have hB : H1 b = some (.lst ws) := hB
        refine ⟨.inl ⟨rfl, ws, SqL.of hB⟩, ?_⟩
        refine ⟨_, ⟨_, _, rfl⟩, r1.set i (some .any), _, ⟨_, S3⟩, ?_⟩
        have hil : i < r1.length := by
          have := S2.len
          have h2 := (List.getElem?_eq_some_iff.mp v1).1
          simp at this; omega
        have q2 : (r1.set i (some (.node k o (ds.set m .any))))[i]? = some (some (.node k o (ds.set m .any))) := List.getElem?_set_self hil
        have hkr : isR k ≠ true := by rcases seqK_of hk with e | e <;> (rw [e]; exact fun z => nomatch z)
        cases e3 : cSet fa (r1.set i (some .any)) with
        | bad => simp only [e3] at g1; exact g1.elim
        | exc c r2 =>
          simp only [e3] at g1
          intro H4 S4
          obtain ⟨ow4, S4⟩ := S4
          exact g1 H4 (StOk.drop ⟨_, S2.unlendA S4⟩)
        | ok x r2 =>
          simp only [e3] at g1
          cases x with
          | loc l => exact g1.elim
          | val dv =>
            simp only at g1
            split at g1
            · rename_i hz
              intro v' H4 P4
              obtain ⟨⟨ow4, S4⟩, _⟩ := P4
              obtain ⟨S5, hA5, s5⟩ := S2.unlend0 q2 hkr v1 hA (fun us h => seqK_one hk h hA) S4
              have S5 : StW G C (unl0 ow2 ow4 i) (r2.set i (some (.node k o (ds.set m .any)))) (T ++ [(.node .lst true acc, .ref b), (dv, v')]) s H4 := by simpa [pushR] using S5
              obtain ⟨ws2, h1, h2, S6⟩ := StW.appT S5
              refine ⟨b, ws2, v', rfl, rfl, h1, by rw [h2, sizeLine_eq]; exact hz, ?_⟩
              have hil2 : i < r2.length := by
                have := S5.len
                have h2 := (List.getElem?_eq_some_iff.mp v1).1
                simp at this; omega
              have hne : a0 ≠ b := fun z => by
                subst z
                have o5 := S5.tm T.length (.node .lst true acc) (.ref a0) (by simp)
                obtain ⟨_, _, e5, _, o6, _⟩ := o5
                cases e5
                have o6 := o6.cases.resolve_left (fun z => nomatch z)
                obtain ⟨_, y1, a7, _, e7, _, o7, _⟩ := S5.sl i _ (List.getElem?_set_self hil2)
                rw [s5] at y1
                cases y1
                cases e7
                have o7 := o7.cases.resolve_left hkr
                rw [o6] at o7
                cases o <;> cases o7
              have hA6 : Holds G (upd H4 b (.lst (ws2 ++ [v']))) a0 k vs := hA5.keep fun o z => by rw [upd_ne hne]; exact .inl z
              have S7 := S6.giveBack (List.getElem?_set_self hil2) s5 hkr hA6 hvm (fun us h => seqK_one hk h hA6)
              rw [List.set_set, List.set_set] at S7
              exact g1 _ _ ⟨StOk.pushN ⟨_, S7⟩, trivial⟩
            · exact g1.elim
      · exact g1.elim
  · exact g.elim
def callKP (i n : Nat) (F : D → List D → MO) (fs : Av) (y : R) (r1 : Rho) : EO := match spot r1 i y with
  | some (k, o, ds, m, d0) => (match fs (r1.set i (some .any)) with
    | .ok xs r2 => if xs.length = n then (match valsR xs with
      | some as => (match F d0 (frzs as) with
        | .ok d d0' => .ok (.val d) (r2.set i (some (.node k o (ds.set m d0'))))
        | .bad => .bad)
      | none => .bad) else .bad
    | .exc c r2 => .exc c (r2.set i (some .any))
    | .bad => .bad)
  | none => .bad
def cCallP (i n : Nat) (F : D → List D → MO) (fk : Ev) (fs : Av) : Ev := fun r => if isSeq r i = true then (fk r).bd (callKP i n F fs) else .bad
theorem ve_callP {i n k : Nat} {F : D → List D → MO} {f : Addr} {fd : FuncData} {ps : List Str} {x y : Str} {p py psub pos : Pos} {ek : Expr} {es : List Expr} (tk : Takes X W) (Fk : FnOk X.prog X.w X.K X.mg X.base (L2.CX X.prog X.w) k f fd ps (spQ G 0 n F)) (hr : Room k X.A) (hg : Gl X x) (hm : X.mg x = some (.ref f))
    (hk : PySem.W.keepIn X.K (.ref f) = true) (hb : Binds X.K fd ps []) (hN : X.N[i]? = some y) (hv : Vis X.env.scope y) (hd : (y == ("__debug__" : Str)) = false) (hcd : (y == ("__classdict__" : Str)) = false) (hek : VE X G C W ek fk) (hs1 : PlainIx ek)
    (ha : ∀ C' : Fc, (∃ u v, C'.pin = (i, v) :: (i, u) :: C.pin) → VA X G C' W es fs) (hdb : (x == ("__debug__" : Str)) = false := by decide) (he : starEach (.Subscript (.Name y py) ek psub :: es) X.env = (false, eval (.Subscript (.Name y py) ek psub) X.env) :: starEach es X.env := by rfl) (hpl : (backTo pos (starEach es X.env)).any (·.1) = false := by rfl) :
    VE X G C W (.Call (.Name x p) (.Subscript (.Name y py) ek psub :: es) [] pos) (cCallP i n F fk fs) := by
  have hA : PA X es (fun s H Q => ∃ C' : Fc, (∃ u v, C'.pin = (i, v) :: (i, u) :: C.pin) ∧ tVA G C' W fs s H Q) := ⟨fun pos pins s σ H Q I w => by
    obtain ⟨C', e', w⟩ := w
    exact (ha C' e').run pos pins s σ H Q I w⟩
  refine PE.imp (pe_callS Fk hr hg hm hk hb (fun σ => passAt tk σ) (pa_cons (pe_ix ix_seq (pe_var hN hv hd hcd) hek hs1) hA he) hdb he hpl) fun s H Q h => ?_
  obtain ⟨r, T, S, g⟩ := h
  have g : Goes G C W T s Q (cCallP i n F fk fs r) := g
  unfold cCallP at g
  split at g
  · rename_i hi
    obtain ⟨k0, o0, ds0, hr, _⟩ := isSeq_at hi
    obtain ⟨ow, S0⟩ := S
    obtain ⟨v, v1, a0, vs0, ev, v2, v3, v4⟩ := S0.sl i _ hr
    subst ev
    refine ⟨_, v1, ?_⟩
    refine one (fa := fk) ⟨ow, S0⟩ g fun y u r1 H1 P g1 => ?_
    unfold callKP at g1
    cases es : spot r1 i y with
    | none => simp only [es] at g1; exact g1.elim
    | some z =>
      obtain ⟨k, o, ds, m, d0⟩ := z
      obtain ⟨kk, a, vs, w, ow2, eu, w1, hA, hat, hvm, S2, S3⟩ := spot_go P es
      obtain ⟨_, _, _, hk, _, hdm⟩ := spot_of es
      rw [v1] at w1
      cases w1
      subst eu
      refine seqK_ix hk hA hat ?_
      simp only [es] at g1
      have hil : i < r1.length := by
        have := S2.len
        have h2 := (List.getElem?_eq_some_iff.mp v1).1
        simp at this; omega
      have q2 : (r1.set i (some (.node k o (ds.set m .any))))[i]? = some (some (.node k o (ds.set m .any))) := List.getElem?_set_self hil
      have hkr : isR k ≠ true := by rcases seqK_of hk with e | e <;> (rw [e]; exact fun z => nomatch z)
      refine ⟨_, ⟨_, _, rfl⟩, r1.set i (some .any), _, ⟨_, S3⟩, ?_⟩
      cases e3 : fs (r1.set i (some .any)) with
      | bad => simp only [e3] at g1; exact g1.elim
      | exc c r2 =>
        simp only [e3] at g1
        intro H4 S4
        obtain ⟨ow4, S4⟩ := S4
        exact g1 H4 (StOk.drop ⟨_, S2.unlendA S4⟩)
      | ok xs r2 =>
        simp only [e3] at g1
        split at g1
        · rename_i hn
          cases ex : valsR xs with
          | none => simp only [ex] at g1; exact g1.elim
          | some as =>
            simp only [ex] at g1
            intro us H4 S4 l4
            obtain ⟨ow4, S4⟩ := S4
            obtain ⟨S5, hA5, s5⟩ := S2.unlend0 q2 hkr v1 hA (fun us h => seqK_one hk h hA) S4
            have hil2 : i < r2.length := by
              have := S5.len
              have h2 := (List.getElem?_eq_some_iff.mp v1).1
              simp at this; omega
            obtain ⟨g1', g2', g3'⟩ := valsR_frz (r := r2.set i (some (.node k o (ds.set m .any)))) ex
            obtain ⟨ow6, S6, r1', r2', r3'⟩ := StW.settles S5 l4 g1'
            rw [g2'] at S6
            refine tempQ (ds := frzs as) (us1 := []) S6 rfl (by rw [frzs_length, g3', hn]) (frzs_frzs _) (r1' ⟨.fo, []⟩ 0) ?_
            cases e4 : F d0 (frzs as) with
            | bad => simp only [e4] at g1; exact g1.elim
            | ok d d0' =>
              simp only [e4] at g1
              intro v' H5 S7 kept
              have S7 : StOk G C (r2.set i (some (.node k o (ds.set m .any)))) (T ++ ([(d0', w)] ++ [(d, v')])) s H5 := by simpa using S7
              obtain ⟨ow7, S7⟩ := S7.swap
              have S7 : StW G C ow7 (r2.set i (some (.node k o (ds.set m .any)))) ((T ++ [(d, v')]) ++ [(d0', w)]) s H5 := by simpa using S7
              have hA6 : Holds G H5 a0 k vs := by
                refine hA5.keep fun ob z => kept a0 ob z fun p z2 => ?_
                obtain ⟨_, y1, a7, _, e7, _, o7, _⟩ := S6.sl i _ (List.getElem?_set_self hil2)
                rw [s5] at y1
                cases y1
                cases e7
                have o7 := o7.cases.resolve_left hkr
                rw [z2] at o7
                cases o <;> cases o7
              have S8 := S7.giveBack (List.getElem?_set_self hil2) s5 hkr hA6 hvm (fun us h => seqK_one hk h hA6)
              rw [List.set_set, List.set_set] at S8
              exact g1 _ _ ⟨⟨_, S8⟩, trivial⟩
        · exact g1.elim
  · exact g.elim
end
theorem appP_ok {fk fa : Ev} {i m : Nat} {kk : Int} {k : Kd} {o : Bool} {r r1 r2 : Rho} {ds acc : List D} {d : D} (h0 : isSeq r i = true) (hk : fk r = .ok (.val (.int kk)) r1) (h1 : r1[i]? = some (some (.node k o ds))) (hs : seqK k = true) (hm : ixN ds.length kk = some m) (hd : ds[m]? = some (.node .lst true acc))
    (ha : fa (r1.set i (some .any)) = .ok (.val d) r2) (hl : acc.length < 16777216) : cExpr (cAppP i fk fa) r = .nx (r2.set i (some (.node k o (ds.set m (.node .lst true (acc ++ [d])))))) := by
  have sp : spot r1 i (.val (.int kk)) = some (k, o, ds, m, .node .lst true acc) := by
    unfold spot
    simp only [h1, hs, hm, hd, if_true]
  have e : cSet fa (r1.set i (some .any)) = .ok (.val d) r2 := by rw [q_set, ha, bd_ok]
  rw [q_expr]
  show (if isSeq r i = true then (fk r).bd _ else EO.bad).st _ = _
  rw [if_pos h0, hk, bd_ok]
  simp only [sp, e, if_pos hl]
  rfl
theorem callP_ok {fk : Ev} {fs : Av} {F : D → List D → MO} {i m n : Nat} {kk : Int} {k : Kd} {o : Bool} {r r1 r2 : Rho} {ds as : List D} {xs : List R} {d d0 d0' : D} (h0 : isSeq r i = true) (hk : fk r = .ok (.val (.int kk)) r1) (h1 : r1[i]? = some (some (.node k o ds))) (hs : seqK k = true) (hm : ixN ds.length kk = some m) (hd : ds[m]? = some d0)
    (ha : fs (r1.set i (some .any)) = .ok xs r2) (hn : xs.length = n) (hx : valsR xs = some as) (hF : F d0 (frzs as) = .ok d d0') : cCallP i n F fk fs r = .ok (.val d) (r2.set i (some (.node k o (ds.set m d0')))) := by
  have sp : spot r1 i (.val (.int kk)) = some (k, o, ds, m, d0) := by
    unfold spot
    simp only [h1, hs, hm, hd, if_true]
  unfold cCallP
  rw [if_pos h0, hk, bd_ok]
  unfold callKP
  simp only [sp, ha, if_pos hn, hx, hF]
theorem callQ_loc {q n i : Nat} {F : D → List D → MO} {fs : Av} {r r1 : Rho} {xs rest : List R} {ds1 ds2 : List D} {d d0 d0' : D} (h : fs r = .ok xs r1) (hn : xs.length = n + 1) (hd : xs.drop q = .loc i :: rest) (h1 : valsR (xs.take q) = some ds1) (h2 : valsR rest = some ds2) (h3 : r1[i]? = some (some d0)) (hF : F d0 (frzs (ds1 ++ ds2)) = .ok d d0') : cCallQ q n F fs r = .ok (.val d) (r1.set i (some d0')) := by
  unfold cCallQ
  rw [h]
  show callKQ q n F xs r1 = _
  unfold callKQ
  simp only [if_pos hn, hd, h1, h2, h3, hF]
section
variable {P : Program} {w : World} {K : PySem.W.Frag} {mg : Str → Option Value} {base : Heap} {G : GX}
theorem fnQ2 {x qual : Str} {st : Stmt} {f : Addr} {fd : FuncData} {N ps : List Str} {k q n : Nat} {fb : Sv} (F : Fun K x qual st f fd) (S : FnScope N ps (defScope st)) (hps : ps.length = n + 1)
    (hbody : ∀ (cdv : Value) (A : Around) (outer : List Env) (s : Shared) (H : Hp) (E : XK) (C : Fc), Room k (A.deeper (envOfC qual (defScope st) s.heap.objs.size f cdv)) → (∀ p ∈ C.pin, p.1 = q) → VSs (cxOf (L2.CX P w) P w K mg base N qual (defScope st) f cdv A outer s H E) G C (fun cls d _ H => E cls d H) (defBody st) fb) :
    FnOk P w K mg base (L2.CX P w) (k + 1) f fd ps (spQ G q n (runQ q N.length fb)) := by
  refine F.okX S (fun vs H Q E h => (spQ_len h).trans hps.symm) (fun cdv A outer s H vs Q E hr h => ?_)
  obtain ⟨d0, ds, v0, us1, us2, ow0, ev, hq, h1, h2, h3, h4, h5, ht, h6⟩ := h
  subst ev
  refine ⟨_, hbody cdv A outer s H E (fcQ H ow0 q v0) hr (fun p hp => by
    have e : p = (q, v0) := by simpa [fcQ] using hp
    rw [e]), ?_⟩
  refine ⟨startR N.length (putQ q d0 ds), [], ⟨_, startQ_ok (N := N) ht hq h5 h2 h3 h4⟩, ?_⟩
  have fin : ∀ {d d0' : D} {v : V} {r : Rho} {T : List (D × V)} {s' : L2.St} {H' : Hp} {ow : Ow} {b : Bs}, StW G (fcQ H ow0 q v0) ow r T s' H' → r[q]? = some (some d0') → b ≠ .fo → b ≠ .sl q → Rep G ow H' d ⟨b, []⟩ v →
      (∀ v H' (ow1 : Ow) (b : Bs), (∀ a o, (∀ p, ow0 a ≠ some ⟨.sl q, p⟩) → H a = some o → Kt (H' a) o) → b ≠ .fo → b ≠ .sl q → Rep G ow1 H' d ⟨b, []⟩ v → Rep G ow1 H' d0' ⟨.sl q, []⟩ v0 →
      (∀ a l, ow1 a = some l → l.b ≠ .fo → H a = none ∨ ∃ p, ow0 a = some ⟨.sl q, p⟩) → (∀ a, ow0 a = some ⟨.fo, []⟩ → ow1 a = some ⟨.fo, []⟩) → (∀ a l, ow1 a = some l → OwnO (H' a)) → LamX.Tabs G.T H' → Q v H') → Q v H' :=
    fun {d d0' v r T s' H' ow b} S' h0 b1 b2 hr hq => by
      obtain ⟨v0', z1, z2⟩ := S'.sl q d0' h0
      have p0 := S'.pin (q, v0) (by simp [fcQ])
      have p0 : s'[q]? = some (some v0) := p0
      rw [p0] at z1
      cases z1
      exact hq v H' ow b (fun a o n y => S'.old a o (fun ⟨p, z⟩ => n p z) y) b1 b2 hr z2 (fun a l y n => (S'.own a l y).elim (fun z => absurd z n) id) (fun a y => S'.fo a y) S'.mu S'.tabs
  unfold runQ at h6
  cases e : fb (startR N.length (putQ q d0 ds)) with
  | nx r =>
    rw [e] at h6
    intro s' H' S'
    cases e2 : r[q]? with
    | none => simp only [e2] at h6
    | some o =>
      cases o with
      | none => simp only [e2] at h6
      | some d0' =>
        simp only [e2] at h6
        obtain ⟨ow, S'⟩ := S'
        exact fin (d := .non) (b := .tm 0) S' e2 (fun z => nomatch z) (fun z => nomatch z) rfl h6
  | rt x r =>
    rw [e] at h6
    intro s' v H' P'
    obtain ⟨⟨ow, S'⟩, l⟩ := P'
    cases x with
    | val d =>
      cases e2 : r[q]? with
      | none => simp only [e2] at h6
      | some o =>
        cases o with
        | none => simp only [e2] at h6
        | some d0' =>
          simp only [e2] at h6
          have z := opd_rep (x := .val d) (T := []) (T2 := []) (by simpa using S') l rfl
          exact fin (b := .tm 0) S' e2 (fun z => nomatch z) (fun z => nomatch z) z h6
    | loc i =>
      by_cases hi : i = q
      · simp only [hi, if_true] at h6
      · simp only [hi, if_false] at h6
        cases e3 : opd r (.loc i) with
        | none => simp only [e3] at h6
        | some d =>
          cases e2 : r[q]? with
          | none => simp only [e3, e2] at h6
          | some o =>
            cases o with
            | none => simp only [e3, e2] at h6
            | some d0' =>
              simp only [e3, e2] at h6
              have z := opd_rep (x := .loc i) (T := []) (T2 := []) (by simpa using S') l e3
              exact fin (b := .sl i) S' e2 (fun z => nomatch z) (fun z => hi (by injection z)) z h6
  | exc c r => rw [e] at h6; exact h6.elim
  | bk r => rw [e] at h6; exact h6.elim
  | ct r => rw [e] at h6; exact h6.elim
  | bad => rw [e] at h6; exact h6.elim
end
theorem pinQ {C : Fc} {q : Nat} (h : ∀ p ∈ C.pin, p.1 = q) (i : Nat) (hi : i ≠ q) : ∀ p ∈ C.pin, p.1 ≠ i := fun p hp z => hi ((h p hp).symm.trans z).symm
theorem pinQo {C : Fc} {q : Nat} (h : ∀ p ∈ C.pin, p.1 = q) (l : List Nat) (hl : q ∉ l) : ∀ p ∈ C.pin, p.1 ∉ l := fun p hp z => hl (by rw [h p hp] at z; exact z)
end VL

namespace VL
open PySem PySem.Spec PyProof.Rows L2
section
variable {X : Cx} {G : GX} {C : Fc} {W : WX} {ow ow' : Ow} {r : Rho} {T T1 T2 : List (D × V)} {s : L2.St} {H H' : Hp} {fa fb fc : Ev} {fs : Av} {f g : Sv}
end
def cTake (i : Nat) : Ev := fun r => match r[i]? with
  | some (some d) => .ok (.val d) (r.set i (some .any))
  | _ => .bad
section
variable {X : Cx} {G : GX} {C : Fc} {W : WX}
theorem ve_take {i : Nat} {x : Str} {pos : Pos} (hN : X.N[i]? = some x) (hv : Vis X.env.scope x) (hd : (x == ("__debug__" : Str)) = false := by decide) (hcd : (x == ("__classdict__" : Str)) = false := by decide) : VE X G C W (.Name x pos) (cTake i) := by
  refine PE.imp (pe_var hN hv hd hcd) fun s H Q h => ?_
  obtain ⟨r, T, ⟨ow, S⟩, g⟩ := h
  have g : Goes G C W T s Q (cTake i r) := g
  unfold cTake at g
  split at g
  · rename_i d e
    obtain ⟨v, z1, S2⟩ := S.pull e
    exact ⟨v, z1, g v H ⟨⟨_, S2⟩, trivial⟩⟩
  · exact g.elim
end
theorem take_at {r : Rho} {i : Nat} {d : D} (h : r[i]? = some (some d)) : cTake i r = .ok (.val d) (r.set i (some .any)) := by
  unfold cTake
  rw [h]
end VL

namespace VL
open PySem PySem.Spec PyProof.Rows L2
section
variable {X : Cx} {G : GX} {C : Fc} {W : WX} {fa : Ev}
end
section
variable {X : Cx} {G : GX} {C : Fc} {W : WX} {fk : Ev}
end
theorem lcL_fl {α : Type} {enc g : α → D} {p : α → Bool} {t : Tg} {fc : Option Ev} {fe : Ev} {vs : List Nat} {r0 : Rho} : ∀ (xs : List α) (acc : List D), acc.length + xs.length < 16777216 →
    (∀ a ∈ xs, ∃ r1, tgt t (enc a) r0 = some r1 ∧ ∃ r2, tstR fc r1 = .ok (.val (.bl (p a))) r2 ∧ wipeR r2 vs = r0 ∧ (p a = true → ∃ r3, cSet fe r2 = .ok (.val (g a)) r3 ∧ wipeR r3 vs = r0)) → lcL t fc fe vs (xs.map enc) acc r0 = .ok (acc ++ (xs.filter p).map g) r0
  | [], acc, _, _ => by simp [lcL]
  | d :: ds, acc, hl, hs => by
    simp only [List.length_cons] at hl
    obtain ⟨r1, e1, r2, e2, e3, e4⟩ := hs d List.mem_cons_self
    rw [List.map_cons]
    unfold lcL
    rw [e1]
    show (match tstR fc r1 with | .ok (.val (.bl true)) r2 => (match cSet fe r2 with | .ok (.val e) r3 => if acc.length < 16777216 then lcL t fc fe vs (ds.map enc) (acc ++ [e]) (wipeR r3 vs) else .bad | _ => .bad) | .ok (.val (.bl false)) r2 => lcL t fc fe vs (ds.map enc) acc (wipeR r2 vs) | _ => LO.bad) = _
    rw [e2]
    cases hp : p d with
    | true =>
      obtain ⟨r3, e5, e6⟩ := e4 hp
      show (match cSet fe r2 with | .ok (.val e) r3 => if acc.length < 16777216 then lcL t fc fe vs (ds.map enc) (acc ++ [e]) (wipeR r3 vs) else .bad | _ => LO.bad) = _
      rw [e5]
      show (if acc.length < 16777216 then lcL t fc fe vs (ds.map enc) (acc ++ [g d]) (wipeR r3 vs) else LO.bad) = _
      rw [if_pos (by omega), e6, lcL_fl ds (acc ++ [g d]) (by rw [List.length_append, List.length_singleton]; omega) (fun x hx => hs x (List.mem_cons_of_mem _ hx)), List.filter_cons_of_pos (by rw [hp]), List.map_cons, List.append_assoc]
      rfl
    | false =>
      show lcL t fc fe vs (ds.map enc) acc (wipeR r2 vs) = _
      rw [e3, lcL_fl ds acc (by omega) (fun x hx => hs x (List.mem_cons_of_mem _ hx)), List.filter_cons_of_neg (by rw [hp]; decide)]
theorem lc_fl {α : Type} {enc g : α → D} {p : α → Bool} {fi : Iv} {t : Tg} {fc : Option Ev} {fe : Ev} {vs : List Nat} {r r1 r0 : Rho} (xs : List α) (hi : fi r = .ok (xs.map enc) r1) (h0 : wipeR r1 vs = r0) (hl : xs.length < 16777216)
    (hs : ∀ a ∈ xs, ∃ r1, tgt t (enc a) r0 = some r1 ∧ ∃ r2, tstR fc r1 = .ok (.val (.bl (p a))) r2 ∧ wipeR r2 vs = r0 ∧ (p a = true → ∃ r3, cSet fe r2 = .ok (.val (g a)) r3 ∧ wipeR r3 vs = r0)) : cLc vs t fi fc fe r = .ok (.val (.node .lst true ((xs.filter p).map g))) (backR r1 r0 vs) := by
  rw [q_lc, hi]
  show (match lcL t fc fe vs (xs.map enc) [] (wipeR r1 vs) with | .ok acc r2 => EO.ok (.val (.node .lst true acc)) (backR r1 r2 vs) | .bad => .bad) = _
  rw [h0, lcL_fl xs [] (by simpa using hl) hs]
  rfl
end VL

namespace VL
open PySem PySem.Spec PyProof.Rows L2
section
variable {X : Cx} {G : GX} {C : Fc} {W : WX} {ow ow' : Ow} {r : Rho} {T T1 T2 : List (D × V)} {s : L2.St} {H H' : Hp} {fa fb fc fk fj : Ev} {fs : Av} {f g : Sv}
def scal : D → Bool
  | .int _ => true
  | .bl _ => true
  | .non => true
  | .str _ => true
  | _ => false
end
mutual
theorem Rep.own3 {G : GX} {H' : Hp} : ∀ (d : D) {l l' : Loc} {v : V} {ow1 ow3 : Ow}, (∀ a k vs, isR k ≠ true → Holds G H' a k vs → (isTup k = true ∨ VL.noL d = false) → ow1 a = none → ow3 a = none) → (∀ a p, ow1 a = some (l.app p) → ow3 a = some (l'.app p)) → Rep G ow1 H' d l v → Rep G ow3 H' d l' v
  | .any, _, _, _, _, _, _, _, _ => trivial
  | .non, _, _, _, _, _, _, _, h => h
  | .bl _, _, _, _, _, _, _, _, h => h
  | .int _, _, _, _, _, _, _, _, h => h
  | .str _, _, _, _, _, _, _, _, h => h
  | .exc _, _, _, _, _, _, _, _, h => h
  | .ty _, _, _, _, _, _, _, _, h => h
  | .cls _, _, _, _, _, _, _, _, h => h
  | .node k o xs, l, l', v, ow1, ow3, hz, hn, h => by
    obtain ⟨a, vs, ev, h1, h2, h3⟩ := h
    have un : VL.noLs xs = false → VL.noL (.node k o xs) = false := fun z => by
      show ((o || isTup k) && VL.noLs xs) = false
      rw [z, Bool.and_false]
    refine ⟨a, vs, ev, h1, ?_, Reps.own3 xs (fun a k' vs' nr z y => hz a k' vs' nr z (y.imp id un)) hn h3⟩
    by_cases hrd : isR k = true
    · exact .ofR hrd
    have h2 := h2.cases.resolve_left hrd
    refine .mk ?_
    cases o with
    | true =>
      have q : ow1 a = some l := by simpa using h2
      have e0 : l.app [] = l := by unfold Loc.app; rw [List.append_nil]
      have e1 : l'.app [] = l' := by unfold Loc.app; rw [List.append_nil]
      have z := hn a [] (by rw [e0]; exact q)
      rw [e1] at z
      rw [z]; simp
    | false =>
      have q : ow1 a = none := by simpa using h2
      have hk : isTup k = true ∨ VL.noL (.node k false xs) = false := by
        cases e : isTup k with
        | true => exact .inl rfl
        | false =>
          refine .inr ?_
          show ((false || isTup k) && VL.noLs xs) = false
          rw [e]; rfl
      rw [hz a k vs hrd h1 hk q]; simp
theorem Reps.own3 {G : GX} {H' : Hp} : ∀ (ds : List D) {l l' : Loc} {i : Nat} {vs : List V} {ow1 ow3 : Ow}, (∀ a k vs, isR k ≠ true → Holds G H' a k vs → (isTup k = true ∨ VL.noLs ds = false) → ow1 a = none → ow3 a = none) → (∀ a p, ow1 a = some (l.app p) → ow3 a = some (l'.app p)) → Reps G ow1 H' ds l i vs → Reps G ow3 H' ds l' i vs
  | [], _, _, _, _, _, _, _, _, h => h
  | d :: ds, l, l', i, vs, ow1, ow3, hz, hn, h => by
    obtain ⟨v, ws, ev, h1, h2⟩ := h
    have u1 : VL.noL d = false → VL.noLs (d :: ds) = false := fun z => by show (VL.noL d && VL.noLs ds) = false; rw [z]; rfl
    have u2 : VL.noLs ds = false → VL.noLs (d :: ds) = false := fun z => by show (VL.noL d && VL.noLs ds) = false; rw [z, Bool.and_false]
    refine ⟨v, ws, ev, Rep.own3 (l := l.sub i) (l' := l'.sub i) d (fun a k vs nr z y => hz a k vs nr z (y.imp id u1)) (fun a p q => ?_) h1, Reps.own3 ds (fun a k vs nr z y => hz a k vs nr z (y.imp id u2)) hn h2⟩
    have e : ∀ m : Loc, (m.sub i).app p = m.app (i :: p) := fun m => by unfold Loc.sub Loc.app; simp
    rw [e] at q ⊢
    exact hn a _ q
end
section
variable {X : Cx} {G : GX} {C : Fc} {W : WX} {ow ow' : Ow} {r : Rho} {T T1 T2 : List (D × V)} {s : L2.St} {H H' : Hp} {fa fb fc : Ev} {fs : Av} {f g : Sv}
end
theorem or_yes {fa fb : Ev} {r r1 : Rho} (h : fa r = .ok (.val (.bl true)) r1) : cOr fa fb r = .ok (.val (.bl true)) r1 := by
  rw [q_or, h, bd_ok]
section
variable {X : Cx}
end
end VL

namespace VL
open PySem PySem.Spec PyProof.Rows L2
section
variable {G : GX} {H H' : Hp} {ow ow0 : Ow}
end
section
variable {P : Program} {w : World} {K : PySem.W.Frag} {mg : Str → Option Value} {base : Heap} {G : GX}
end
section
variable {X : Cx} {G : GX} {C : Fc} {W : WX} {ow ow' : Ow} {r : Rho} {T T1 T2 : List (D × V)} {s : L2.St} {H H' : Hp} {fs : Av}
end
end VL

namespace VL
open PySem PySem.Spec PyProof.Rows L2
end VL

namespace VL
open PySem PySem.Spec PyProof.Rows L2
end VL

namespace VL
open PySem PySem.Spec PyProof.Rows L2
theorem units1 {k : Nat} {A : Around} (h : Room k A) : A.units + 1 < cLine := by have := h.un; omega
def keyD : D → Option L2.Key
  | .int i => some (.inl i)
  | .str s => some (.inr s)
  | _ => none
def dix (ks : List L2.Key) (k : L2.Key) : Option Nat := ks.findIdx? fun x => decide (x = k)
theorem dix_cons (x : L2.Key) (ks : List L2.Key) (k : L2.Key) : dix (x :: ks) k = if x = k then some 0 else (dix ks k).map (· + 1) := by
  unfold dix
  rw [List.findIdx?_cons]
  by_cases h : x = k
  · rw [decide_eq_true h, if_pos h]; rfl
  · rw [decide_eq_false h, if_neg h]
    rfl
theorem valV_zip (k : L2.Key) : ∀ {ks : List L2.Key} {vs : List V}, ks.length = vs.length → valV (ks.zip vs) k = (dix ks k).bind fun j => vs[j]?
  | [], _, _ => rfl
  | x :: ks, [], h => by simp at h
  | x :: ks, v :: vs, h => by
    rw [dix_cons]
    show valV ((x, v) :: ks.zip vs) k = _
    by_cases e : x = k
    · rw [valV_pos (p := (x, v)) e, if_pos e]; rfl
    · rw [valV_neg (p := (x, v)) e, if_neg e, valV_zip k (by simpa using h)]
      cases dix ks k <;> rfl
theorem dix_lt {ks : List L2.Key} {k : L2.Key} {j : Nat} (h : dix ks k = some j) : j < ks.length ∧ ks[j]? = some k := by
  unfold dix at h
  rw [List.findIdx?_eq_some_iff_getElem] at h
  obtain ⟨h1, h2, _⟩ := h
  exact ⟨h1, by rw [List.getElem?_eq_getElem h1, of_decide_eq_true h2]⟩
theorem dix_none {ks : List L2.Key} {k : L2.Key} : dix ks k = none ↔ k ∉ ks := by
  unfold dix
  rw [List.findIdx?_eq_none_iff]
  exact ⟨fun h m => by have := h k m; simp at this, fun h x hx => decide_eq_false fun e => h (e ▸ hx)⟩
theorem keyD_rep {G : GX} {ow : Ow} {H : Hp} {d : D} {l : Loc} {u : V} {k : L2.Key} (e : keyD d = some k) (h : Rep G ow H d l u) : u = kV k := by
  cases d with
  | int i => cases e; exact h
  | str s => cases e; exact h
  | _ => cases e
def dgetK : G2 := fun x y r => match opd r x, opd r y with
  | some (.node (.dK ks) _ xs), some e => (match (keyD e).bind (dix ks) with
    | some j => (match xs[j]? with
      | some d => pick r x d
      | none => .bad)
    | none => .bad)
  | _, _ => .bad
def gDIn : G2 := fun x y r => match opd r x, opd r y with
  | some e, some (.node (.dK ks) _ _) => (match keyD e with
    | some k => .ok (.val (.bl (dix ks k).isSome)) r
    | none => .bad)
  | _, _ => .bad
def gDNotIn : G2 := fun x y r => match opd r x, opd r y with
  | some e, some (.node (.dK ks) _ _) => (match keyD e with
    | some k => .ok (.val (.bl (!(dix ks k).isSome))) r
    | none => .bad)
  | _, _ => .bad
section
variable {X : Cx} {G : GX} {C : Fc} {W : WX} {ow ow' : Ow} {r : Rho} {T T1 T2 : List (D × V)} {s : L2.St} {H H' : Hp} {fa fb fc fk : Ev} {f g : Sv} {fs : Av}
theorem pick_okJ {x y : R} {v u : V} {k : Kd} {o : Bool} {xs : List D} {j : Nat} {d : D} {Q : VK} (S : StW G C ow r (T ++ (pushR x v ++ pushR y u)) s H) (lx : LocOk s v x) (e1 : opd r x = some (.node k o xs)) (ej : xs[j]? = some d) (q : Goes G C W T s Q (pick r x d)) :
    ∃ a vs w, v = .ref a ∧ Holds G H a k vs ∧ xs.length = vs.length ∧ vs[j]? = some w ∧ Q w H := by
  by_cases a : atom d = true
  · obtain ⟨p, vs, ev, h1, h2, h3⟩ := opd_rep S lx e1
    obtain ⟨w, ew, rw'⟩ := h3.get j d ej
    unfold pick at q
    rw [if_pos a] at q
    exact ⟨p, vs, w, ev, h1, h3.length, ew, goes_val q ⟨ow, S.drop⟩ a fun _ _ => rw'.of_atom a⟩
  · obtain ⟨ow', p, vs, S', ev, h1, rx, _⟩ := StW.parts (T := T) (StW.drop (T := T ++ pushR x v) (T2 := pushR y u) (by rw [List.append_assoc]; exact S)) lx e1
    have l1 := (rx ⟨.fo, []⟩).length
    rw [frzs_length] at l1
    obtain ⟨w, ew, rw'⟩ := (rx ⟨.fo, []⟩).get j (frz d) (frzs_get ej)
    unfold pick at q
    rw [if_neg a] at q
    exact ⟨p, vs, w, ev, h1, l1, ew, q w H ⟨⟨ow', S'.push (Rep.moveF _ (frz_frz d) (fun a o z q => ⟨z, q⟩) (fun _ _ z _ => z) rw')⟩, trivial⟩⟩
theorem ve_dget {a b : Expr} {pos : Pos} (hu : X.A.units + 1 < cLine) (ha : VE X G C W a fa) (hb : VE X G C W b fb) (hs : NoSl b) : VE X G C W (.Subscript a b pos) (cBin dgetK fa fb) := by
  refine PE.imp (pe_dget hu ha hb hs) fun s H Q h => ?_
  obtain ⟨r, T, S, g⟩ := h
  refine two S g fun x y v u r2 H2 S2 lx ly q => ?_
  obtain ⟨ow, S2⟩ := S2
  unfold dgetK at q
  split at q
  · rename_i ks o xs e e1 e2
    split at q
    · rename_i j ej
      split at q
      · rename_i d ed
        cases ek : keyD e with
        | none => rw [ek] at ej; cases ej
        | some k =>
          rw [ek] at ej
          have ej : dix ks k = some j := ej
          have eu := keyD_rep ek (opd_rep (T := T ++ pushR x v) (T2 := []) (by rw [List.append_nil, List.append_assoc]; exact S2) ly e2)
          obtain ⟨p, vs, w, ev, h1, hl, h2, h3⟩ := pick_okJ S2 lx e1 ed q
          subst ev
          obtain ⟨h1, hkl⟩ : H2 p = some (.dK (ks.zip vs)) ∧ ks.length = vs.length := h1
          refine ⟨p, w, rfl, ?_, h3⟩
          have dg := DGet.k (k := k) h1
          rw [valV_zip k hkl, ej] at dg
          show DGet H2 p u (some w)
          rw [eu]
          have e3 : (some j).bind (fun j => vs[j]?) = some w := h2
          rw [e3] at dg
          exact dg
      · exact q.elim
    · exact q.elim
  · exact q.elim
theorem din_go {x y : R} {v u : V} {e : D} {ks : List L2.Key} {o : Bool} {xs : List D} {k : L2.Key} (S : StW G C ow r (T ++ (pushR x v ++ pushR y u)) s H) (lx : LocOk s v x) (ly : LocOk s u y) (e1 : opd r x = some e) (e2 : opd r y = some (.node (.dK ks) o xs)) (ek : keyD e = some k) :
    ∃ a ov, u = .ref a ∧ DGet H a v ov ∧ ov.isSome = (dix ks k).isSome := by
  have ev := keyD_rep ek (opd_rep S lx e1)
  obtain ⟨a, vs, eu, h1, h2, h3⟩ := opd_rep (T := T ++ pushR x v) (T2 := []) (by rw [List.append_nil, List.append_assoc]; exact S) ly e2
  obtain ⟨h1, hkl⟩ : H a = some (.dK (ks.zip vs)) ∧ ks.length = vs.length := h1
  refine ⟨a, valV (ks.zip vs) k, eu, by rw [ev]; exact DGet.k h1, ?_⟩
  rw [valV_zip k hkl]
  cases e : dix ks k with
  | none => rfl
  | some j =>
    show (vs[j]?).isSome = true
    rw [List.getElem?_eq_getElem (by have := (dix_lt e).1; omega)]
    rfl
theorem vt_din {a b : Expr} {pos : Pos} (hu : X.A.units + 1 < cLine) (ha : VE X G C W a fa) (hb : VE X G C W b fb) (hm : behindInMarks .In b = false := by rfl) : VT X G C W (.Compare a [.In] [b] pos) (cBin gDIn fa fb) := by
  refine PT.imp (pt_cmp (pc_din hu ha hb) hm) fun s H Q h => ?_
  have z := tV_bl h
  obtain ⟨r, T, S, g⟩ := z
  refine two S g fun x y v u r2 H2 S2 lx ly q => ?_
  obtain ⟨ow, S2⟩ := S2
  unfold gDIn at q
  split at q
  · rename_i e ks o xs e1 e2
    split at q
    · rename_i k ek
      obtain ⟨p, ov, eu, dg, eo⟩ := din_go S2 lx ly e1 e2 ek
      refine ⟨p, ov, eu, dg, ?_⟩
      rw [eo]
      exact goes_val (Q := fun v H' => ∃ k, v = .bl k ∧ Q k H') q ⟨ow, S2.drop⟩ rfl fun _ _ => rfl
    · exact q.elim
  · exact q.elim
theorem vt_dnin {a b : Expr} {pos : Pos} (hu : X.A.units + 1 < cLine) (ha : VE X G C W a fa) (hb : VE X G C W b fb) (hm : behindInMarks .NotIn b = false := by rfl) : VT X G C W (.Compare a [.NotIn] [b] pos) (cBin gDNotIn fa fb) := by
  refine PT.imp (pt_cmp (pc_dnotin hu ha hb) hm) fun s H Q h => ?_
  have z := tV_bl h
  obtain ⟨r, T, S, g⟩ := z
  refine two S g fun x y v u r2 H2 S2 lx ly q => ?_
  obtain ⟨ow, S2⟩ := S2
  unfold gDNotIn at q
  split at q
  · rename_i e ks o xs e1 e2
    split at q
    · rename_i k ek
      obtain ⟨p, ov, eu, dg, eo⟩ := din_go S2 lx ly e1 e2 ek
      refine ⟨p, ov, eu, dg, ?_⟩
      rw [eo]
      exact goes_val (Q := fun v H' => ∃ k, v = .bl k ∧ Q k H') q ⟨ow, S2.drop⟩ rfl fun _ _ => rfl
    · exact q.elim
  · exact q.elim
end
end VL

namespace VL
open PySem PySem.Spec PyProof.Rows L2
section
variable {X : Cx} {G : GX} {C : Fc} {W : WX} {ow ow' : Ow} {r : Rho} {T T1 T2 : List (D × V)} {s : L2.St} {H H' : Hp} {fa fb fc fk : Ev} {f : Sv} {g : G2} {fs : Av}
theorem StW.intoG {kd : Kd} (hkd : isR kd ≠ true) {i k : Nat} {ds ds' : List D} {d : D} {a : Addr} {v : V} (S : StW G C ow r (T ++ [(d, v)]) s H) (q : r[i]? = some (some (.node kd true ds))) (ha : s[i]? = some (some (.ref a)))
    (hds : (ds' = ds.set k d ∧ k < ds.length) ∨ (ds' = ds ++ [d] ∧ k = ds.length)) : ∃ vs, Holds G H a kd vs ∧ vs.length = ds.length ∧
    ∀ (kd' : Kd) (ho : HO), OwnO (some ho) → Holds G (upd H a ho) a kd' (if k < ds.length then vs.set k v else vs ++ [v]) →
    StW G C (intoSl ow T.length i k) (r.set i (some (.node kd' true ds'))) T s (upd H a ho) := by
  obtain ⟨v', z1, a', vs, ev, z2, z3, z4⟩ := S.sl i _ q
  rw [ha] at z1
  cases z1
  cases ev
  have oa : ow a = some ⟨.sl i, []⟩ := by simpa using z3.cases.resolve_left hkd
  have hl := z4.length
  refine ⟨vs, z2, hl.symm, fun kd' ho hm hh => ?_⟩
  have exn : ∀ (b : Addr) (o : HO), H b = some o → ¬ OwnO (some o) → upd H a ho b = some o := fun b o z n => by
    rw [upd_ne (fun e => by have m := S.mu a _ oa; rw [e] at z; rw [z] at m; exact n m)]; exact z
  refine StW.write (k := kd) (ow' := intoSl ow T.length i k) hkd S q ha hm (vs' := if k < ds.length then vs.set k v else vs ++ [v]) hh (fun b n => by unfold intoSl; rw [n]) (fun b j p n hj => ?_) (fun b p n => by unfold intoSl; rw [n]) (fun b l y => ?_) (fun b l y n l' y2 => ?_) ?_ ?_ (fun j d' w y => ?_)
  · unfold intoSl; rw [n]; exact if_neg (fun z => hj z.1)
  · obtain ⟨l', y1, y2⟩ := into_fo y
    exact ⟨l', y1, y2.mp⟩
  · obtain ⟨l2, y1, y3⟩ := into_fo y
    rw [y2] at y1
    cases y1
    exact fun z => n (y3.mpr z)
  · unfold intoSl; rw [oa]; simp
  · -- the parts
    have old : ∀ (m : Nat) dm vm, m ≠ k → ds[m]? = some dm → vs[m]? = some vm → Rep G (intoSl ow T.length i k) (upd H a ho) dm (Loc.sub ⟨.sl i, []⟩ (0 + m)) vm := fun m dm vm hm q1 q2 => by
      obtain ⟨vm', y1, y2⟩ := z4.get m dm q1
      rw [q2] at y1
      cases y1
      refine Rep.mono (l := Loc.sub ⟨.sl i, []⟩ (0 + m)) dm (fun b o z w => by rw [upd_ne (apart oa w (.inr (by simp [Loc.sub])))]; exact .inl z) (fun b o z n => exn b o z n) (fun b o _ n => by unfold intoSl; rw [n]) (fun b o p _ n => ?_) y2
      have n' : ow b = some ⟨.sl i, m :: p⟩ := by rw [n]; simp [Loc.sub, Loc.app]
      unfold intoSl
      rw [n']
      have : ¬ (i = i ∧ (m :: p).head? = some k) := by simp [hm]
      simp [Loc.sub, Loc.app, hm]
    have new : Rep G (intoSl ow T.length i k) (upd H a ho) d (Loc.sub ⟨.sl i, []⟩ (0 + k)) v := by
      refine Rep.mono (l := ⟨.tm T.length, []⟩) d (fun b o z w => by rw [upd_ne (apart oa w (.inl (fun z => nomatch z)))]; exact .inl z) (fun b o z n => exn b o z n) (fun b o _ n => by unfold intoSl; rw [n]) (fun b o p _ n => ?_) S.last
      have n' : ow b = some ⟨.tm T.length, [] ++ p⟩ := n
      unfold intoSl
      rw [n']
      simp [Loc.sub, Loc.app]
    rcases hds with ⟨e, hk⟩ | ⟨e, hk⟩
    · subst e
      refine Reps.of_get (by rw [if_pos hk]; simp [hl]) fun m dm vm q1 q2 => ?_
      rw [if_pos hk] at q2
      by_cases hm : m = k
      · subst hm
        rw [List.getElem?_set_self hk] at q1
        rw [List.getElem?_set_self (by omega)] at q2
        cases q1; cases q2
        exact new
      · rw [List.getElem?_set_ne (Ne.symm hm)] at q1 q2
        exact old m dm vm hm q1 q2
    · subst e
      subst hk
      refine Reps.of_get (by rw [if_neg (by omega)]; simp [hl]) fun m dm vm q1 q2 => ?_
      rw [if_neg (by omega)] at q2
      by_cases hm : m < ds.length
      · rw [List.getElem?_append_left hm] at q1
        rw [List.getElem?_append_left (by omega)] at q2
        exact old m dm vm (by omega) q1 q2
      · rw [List.getElem?_append_right (by omega)] at q1
        rw [List.getElem?_append_right (by omega), ← hl] at q2
        have em : m = ds.length := by
          have := (List.getElem?_eq_some_iff.mp q1).1
          simp at this; omega
        subst em
        simp at q1 q2
        subst q1; subst q2
        exact new
  · have hj : j < T.length := (List.getElem?_eq_some_iff.mp y).1
    have z := S.tm j d' w (by rw [List.getElem?_append_left hj]; exact y)
    refine Rep.mono (l := ⟨.tm j, []⟩) d' (fun b o z w => by rw [upd_ne (apart oa w (.inl (fun z => nomatch z)))]; exact .inl z) (fun b o z n => exn b o z n) (fun b o _ n => by unfold intoSl; rw [n]) (fun b o p _ n => ?_) z
    have n' : ow b = some ⟨.tm j, [] ++ p⟩ := n
    unfold intoSl
    rw [n']
    have : ¬ j = T.length := by omega
    simp [Loc.app, this]
def okD (ks : List L2.Key) : Prop := ks.Nodup ∧ ks.length < 16777216
instance (ks : List L2.Key) : Decidable (okD ks) := by unfold okD; exact inferInstance
end
end VL

namespace VL
open PySem PySem.Spec PyProof.Rows L2
def leP (p q : Int × Int) : Bool := decide (p.1 < q.1) || (decide (p.1 = q.1) && decide (p.2 ≤ q.2))
theorem leP_iff {p q : Int × Int} : leP p q = true ↔ p.1 < q.1 ∨ (p.1 = q.1 ∧ p.2 ≤ q.2) := by
  unfold leP
  rw [Bool.or_eq_true, Bool.and_eq_true, decide_eq_true_eq, decide_eq_true_eq, decide_eq_true_eq]
theorem leP_lexB {p q : Int × Int} : SrtO.lexB q p = false ↔ leP p q = true := by
  rw [leP_iff, ← Bool.not_eq_true, SrtO.lexB_iff]
  omega
def insP (x : Int × Int) : List (Int × Int) → List (Int × Int)
  | [] => [x]
  | y :: ys => if leP x y = true then x :: y :: ys else y :: insP x ys
def srtP : List (Int × Int) → List (Int × Int)
  | [] => []
  | x :: xs => insP x (srtP xs)
theorem insP_perm (x : Int × Int) : ∀ ys : List (Int × Int), (insP x ys).Perm (x :: ys)
  | [] => List.Perm.refl _
  | y :: ys => by
    unfold insP
    split
    · exact List.Perm.refl _
    · exact ((insP_perm x ys).cons y).trans (List.Perm.swap x y ys)
theorem srtP_perm : ∀ xs : List (Int × Int), (srtP xs).Perm xs
  | [] => List.Perm.refl _
  | x :: xs => (insP_perm x (srtP xs)).trans ((srtP_perm xs).cons x)
theorem leP_trans {x y z : Int × Int} (h : leP x y = true) (h' : leP y z = true) : leP x z = true := by
  rw [leP_iff] at *
  omega
theorem leP_total {x y : Int × Int} (h : ¬ leP x y = true) : leP y x = true := by
  rw [leP_iff] at *
  omega
theorem insP_up (x : Int × Int) : ∀ ys : List (Int × Int), ys.Pairwise (fun p q => leP p q = true) → (insP x ys).Pairwise (fun p q => leP p q = true)
  | [], _ => by simp [insP]
  | y :: ys, h => by
    unfold insP
    have h1 := List.pairwise_cons.mp h
    split
    · rename_i hx
      refine List.pairwise_cons.mpr ⟨fun z hz => ?_, h⟩
      rcases List.mem_cons.mp hz with e | e
      · rw [e]; exact hx
      · exact leP_trans hx (h1.1 z e)
    · rename_i hx
      refine List.pairwise_cons.mpr ⟨fun z hz => ?_, insP_up x ys h1.2⟩
      rcases List.mem_cons.mp ((insP_perm x ys).mem_iff.mp hz) with e | e
      · rw [e]; exact leP_total hx
      · exact h1.1 z e
theorem srtP_up : ∀ xs : List (Int × Int), (srtP xs).Pairwise (fun p q => leP p q = true)
  | [] => List.Pairwise.nil
  | x :: xs => insP_up x _ (srtP_up xs)
theorem upP_unique : ∀ {xs ys : List (Int × Int)}, xs.Perm ys → xs.Pairwise (fun p q => leP p q = true) → ys.Pairwise (fun p q => leP p q = true) → xs = ys
  | [], ys, p, _, _ => by rw [List.nil_perm.mp p]
  | x :: xs, [], p, _, _ => by have := p.length_eq; simp at this
  | x :: xs, y :: ys, p, h1, h2 => by
    have h1' := List.pairwise_cons.mp h1
    have h2' := List.pairwise_cons.mp h2
    have e1 : x = y ∨ leP x y = true := by
      rcases List.mem_cons.mp (p.mem_iff.mpr (List.mem_cons_self : y ∈ y :: ys)) with e | e
      · exact .inl e.symm
      · exact .inr (h1'.1 y e)
    have e2 : x = y ∨ leP y x = true := by
      rcases List.mem_cons.mp (p.mem_iff.mp (List.mem_cons_self : x ∈ x :: xs)) with e | e
      · exact .inl e
      · exact .inr (h2'.1 x e)
    have e : x = y := by
      rcases e1 with e | e1
      · exact e
      · rcases e2 with e | e2
        · exact e
        · rw [leP_iff] at e1 e2
          exact Prod.ext (by omega) (by omega)
    subst e
    rw [upP_unique ((List.perm_cons x).mp p) h1'.2 h2'.2]
def pairD (p : Int × Int) : D := .node .tup false [.int p.1, .int p.2]
theorem frzs_pairs (ps : List (Int × Int)) : frzs (ps.map pairD) = ps.map pairD := by
  rw [frzs_map, List.map_map]
  rfl
section
variable {X : Cx} {G : GX} {C : Fc} {W : WX} {ow ow' : Ow} {r : Rho} {T T1 T2 : List (D × V)} {s : L2.St} {H H' : Hp} {fa fb fc fk : Ev} {f : Sv} {g : G2} {fs : Av}
end
end VL

namespace VL
open PySem PySem.Spec PyProof.Rows L2
abbrev kI (ks : List Int) : List L2.Key := ks.map Sum.inl
def dD (ks : List Int) (f : Int → D) : D := .node (.dK (kI ks)) true (ks.map f)
theorem kI_nodup {ks : List Int} (h : ks.Nodup) : (kI ks).Nodup := by
  unfold List.Nodup kI
  rw [List.pairwise_map]
  exact List.Pairwise.imp (fun h e => h (by injection e)) h
theorem kI_mem {ks : List Int} {x : Int} : Sum.inl x ∈ kI ks ↔ x ∈ ks := by
  unfold kI
  rw [List.mem_map]
  exact ⟨fun ⟨y, h, e⟩ => by injection e with e; exact e ▸ h, fun h => ⟨x, h, rfl⟩⟩
theorem dix_in {ks : List Int} {x : Int} (h : x ∈ ks) : ∃ j, dix (kI ks) (Sum.inl x) = some j ∧ ks[j]? = some x := by
  cases e : dix (kI ks) (Sum.inl x) with
  | none => exact absurd (kI_mem.mpr h) (dix_none.mp e)
  | some j =>
    refine ⟨j, rfl, ?_⟩
    have e2 := (dix_lt e).2
    unfold kI at e2
    rw [List.getElem?_map] at e2
    cases e3 : ks[j]? with
    | none => rw [e3] at e2; cases e2
    | some y =>
      rw [e3] at e2
      have e4 : (Sum.inl y : L2.Key) = Sum.inl x := Option.some.inj e2
      injection e4 with e4
      rw [e4]
theorem dix_out {ks : List Int} {x : Int} (h : x ∉ ks) : dix (kI ks) (Sum.inl x) = none := dix_none.mpr fun m => h (kI_mem.mp m)
theorem dix_isSome {ks : List Int} {x : Int} : (dix (kI ks) (Sum.inl x)).isSome = decide (x ∈ ks) := by
  by_cases h : x ∈ ks
  · obtain ⟨j, e, _⟩ := dix_in h
    rw [e, decide_eq_true h]; rfl
  · rw [dix_out h, decide_eq_false h]; rfl
theorem dgetK_ok {r : Rho} {x y : R} {ks : List Int} {f : Int → D} {k : Int} {o : Bool} (h1 : opd r x = some (.node (.dK (kI ks)) o (ks.map f))) (h2 : opd r y = some (.int k)) (hk : k ∈ ks) : dgetK x y r = pick r x (f k) := by
  unfold dgetK
  rw [h1, h2]
  obtain ⟨j, e, e2⟩ := dix_in hk
  show (match dix (kI ks) (Sum.inl k) with | some j => (match (ks.map f)[j]? with | some d => pick r x d | none => .bad) | none => .bad) = _
  rw [e]
  simp only [List.getElem?_map, e2, Option.map_some]
theorem gDIn_ok {r : Rho} {x y : R} {ks : List Int} {f : Int → D} {k : Int} {o : Bool} (h1 : opd r y = some (.node (.dK (kI ks)) o (ks.map f))) (h2 : opd r x = some (.int k)) : gDIn x y r = .ok (.val (.bl (decide (k ∈ ks)))) r := by
  unfold gDIn
  rw [h1, h2]
  show EO.ok (.val (.bl (dix (kI ks) (Sum.inl k)).isSome)) r = _
  rw [dix_isSome]
theorem gDNotIn_ok {r : Rho} {x y : R} {ks : List Int} {f : Int → D} {k : Int} {o : Bool} (h1 : opd r y = some (.node (.dK (kI ks)) o (ks.map f))) (h2 : opd r x = some (.int k)) : gDNotIn x y r = .ok (.val (.bl (decide (k ∉ ks)))) r := by
  unfold gDNotIn
  rw [h1, h2]
  show EO.ok (.val (.bl (!(dix (kI ks) (Sum.inl k)).isSome))) r = _
  rw [dix_isSome]
  by_cases h : k ∈ ks
  · rw [decide_eq_true h, decide_eq_false (fun z => z h)]; rfl
  · rw [decide_eq_false h, decide_eq_true h]; rfl
theorem lcL_step {t : Tg} {fe : Ev} {vs : List Nat} {d e : D} {ds acc : List D} {r r1 r3 : Rho} (h1 : tgt t d r = some r1) (h3 : cSet fe r1 = .ok (.val e) r3) (h4 : acc.length < 16777216) :
    lcL t none fe vs (d :: ds) acc r = lcL t none fe vs ds (acc ++ [e]) (wipeR r3 vs) := by
  conv => lhs; unfold lcL
  rw [h1]
  show (match cSet fe r1 with
        | .ok (.val e) r3 => if acc.length < 16777216 then lcL t none fe vs ds (acc ++ [e]) (wipeR r3 vs) else .bad
        | _ => LO.bad) = _
  rw [h3]
  exact if_pos h4
theorem lcL_all {α : Type} {t : Tg} {fe : Ev} {vs : List Nat} (st : α → Rho) (P : α → List D → Prop) : ∀ (ds : List D) (a : α) (acc : List D), acc.length + ds.length < 16777216 → P a acc →
    (∀ a acc d, d ∈ ds → P a acc → ∃ r1 r3 e a', tgt t d (st a) = some r1 ∧ cSet fe r1 = .ok (.val e) r3 ∧ wipeR r3 vs = st a' ∧ P a' (acc ++ [e])) →
    ∃ a' acc', lcL t none fe vs ds acc (st a) = .ok acc' (st a') ∧ P a' acc' ∧ acc'.length = acc.length + ds.length
  | [], a, acc, _, p, _ => ⟨a, acc, rfl, p, rfl⟩
  | d :: ds, a, acc, hl, p, h => by
    obtain ⟨r1, r3, e, a1, h1, h3, h4, p1⟩ := h a acc d List.mem_cons_self p
    rw [List.length_cons] at hl
    obtain ⟨a2, acc2, e2, p2, l2⟩ := lcL_all st P ds a1 (acc ++ [e]) (by rw [List.length_append, List.length_singleton]; omega) p1 fun a acc d hd => h a acc d (List.mem_cons_of_mem _ hd)
    refine ⟨a2, acc2, ?_, p2, by rw [l2, List.length_append, List.length_singleton, List.length_cons]; omega⟩
    rw [lcL_step h1 h3 (by omega), h4, e2]
end VL

namespace VL
open PySem PySem.Spec PyProof.Rows L2
section
variable {X : Cx} {G : GX} {C : Fc} {W : WX} {ow ow' : Ow} {r : Rho} {T T1 T2 : List (D × V)} {s : L2.St} {H H' : Hp} {fa fb fc fk : Ev} {fs : Av}
end
end VL

namespace VL
open PySem PySem.Spec PyProof.Rows L2
theorem first_lex : ∀ (ns ms : List Int) (i : Nat) (e r : Nat → Bool), (∀ j, e (i + j) = decide (ns.getD j 0 = ms.getD j 0) ∧ r (i + j) = decide (ns.getD j 0 < ms.getD j 0)) → PySem.SeqAt.firstLt e r (decide (ns.length < ms.length)) (List.range' i (min ns.length ms.length)) = HT.lexLt ns ms
  | [], [], i, e, r, _ => rfl
  | [], m :: ms, i, e, r, _ => by
    rw [HT.lexLt_nil_cons, show min ([] : List Int).length (m :: ms).length = 0 by simp]
    show decide (([] : List Int).length < (m :: ms).length) = true
    simp
  | n :: ns, [], i, e, r, _ => by
    rw [HT.lexLt_cons_nil, show min (n :: ns).length ([] : List Int).length = 0 by simp]
    show decide ((n :: ns).length < ([] : List Int).length) = false
    simp
  | n :: ns, m :: ms, i, e, r, h => by
    have e0 := h 0
    rw [Nat.add_zero] at e0
    have e1 : e i = decide (n = m) := e0.1
    have r1 : r i = decide (n < m) := e0.2
    have ih := first_lex ns ms (i + 1) e r fun j => by
      have := h (j + 1)
      rw [show i + 1 + j = i + (j + 1) by omega]
      exact this
    rw [show min (n :: ns).length (m :: ms).length = min ns.length ms.length + 1 by simp [Nat.succ_min_succ], List.range'_succ, HT.lexLt_cons]
    rw [show decide ((n :: ns).length < (m :: ms).length) = decide (ns.length < ms.length) from decide_eq_decide.mpr (by simp)]
    by_cases hm : n = m
    · rw [if_pos hm, PySem.SeqAt.firstLt_yes (by rw [e1, decide_eq_true hm])]
      exact ih
    · rw [if_neg hm, PySem.SeqAt.firstLt_no (by rw [e1, decide_eq_false hm]), r1]
theorem ints_get : ∀ {vs : List Value} {ns : List Int}, IntsAre vs ns → ∀ {j : Nat} {v : Value}, vs[j]? = some v → ∃ t, v = .int (ns.getD j 0) t
  | _, _, .nil, j, v, h => by simp at h
  | _, _, .cons n t r, 0, v, h => by
    simp at h
    exact ⟨t, h.symm⟩
  | _, _, .cons n t r, j + 1, v, h => by
    obtain ⟨u, e⟩ := ints_get r (j := j) (v := v) (by simpa using h)
    exact ⟨u, e⟩
def IsIl (h : Heap) (v : Value) (ns : List Int) : Prop := ∃ (a : Addr) (items : List Value) (n : Nat), v = .ref a ∧ h.get? a = some (seqObj "list" items.toArray n) ∧ IntsAre items ns
theorem IsIl.keeps {h h' : Heap} {v : Value} {ns : List Int} (x : IsIl h v ns) (k : ∀ b o, v = .ref b → h.get? b = some o → h'.get? b = some o) : IsIl h' v ns := by
  obtain ⟨a, items, n, e, g, i⟩ := x
  exact ⟨a, items, n, e, k _ _ e g, i⟩
theorem IsIl.type {M : Model} {h : Heap} {v : Value} {ns : List Int} (x : IsIl h v ns) : PySem.W.Looks M h (typeOf v) (.type "list") := by
  obtain ⟨a, items, n, rfl, g, i⟩ := x
  exact (PySem.W.Looks.ld g).andThen .now
section
variable {prog : Program} {w : World} {A : Around} {E : Value → Shared → Prop} {s : Shared}
end
section
variable {prog : Program} {w : World} {A : Around} {s : Shared}
end
theorem lex_eq : ∀ {xs ys : List Int}, HT.lexLt xs ys = false → HT.lexLt ys xs = false → xs = ys
  | [], [], _, _ => rfl
  | [], y :: ys, h, _ => by rw [HT.lexLt_nil_cons] at h; cases h
  | x :: xs, [], _, h => by rw [HT.lexLt_nil_cons] at h; cases h
  | x :: xs, y :: ys, h1, h2 => by
    rw [HT.lexLt_cons] at h1 h2
    by_cases e : x = y
    · rw [if_pos e] at h1
      rw [if_pos e.symm] at h2
      rw [e, lex_eq h1 h2]
    · rw [if_neg e] at h1
      rw [if_neg (Ne.symm e)] at h2
      have a := of_decide_eq_false h1
      have b := of_decide_eq_false h2
      omega
def vI : V → Int
  | .int i => i
  | _ => 0
def kAt (H : Hp) (t : Addr) : List Int := match H t with
  | some (.lst vs) => vs.map vI
  | _ => []
theorem kAt_of {H : Hp} {t : Addr} {ns : List Int} (h : H t = some (.lst (ns.map V.int))) : kAt H t = ns := by
  unfold kAt
  rw [h]
  show (ns.map V.int).map vI = ns
  rw [List.map_map]
  exact (List.map_congr_left fun _ _ => rfl).trans (List.map_id ns)
theorem intsOf_frzs : ∀ {ds : List D} {ns : List Int}, intsOf ds = some ns → frzs ds = ns.map D.int
  | [], ns, e => by cases e; rfl
  | d :: ds, ns, e => by
    cases d with
    | int i =>
      unfold intsOf at e
      split at e
      · rename_i ms e2
        cases e
        show D.int i :: frzs ds = _
        rw [intsOf_frzs e2]; rfl
      · cases e
    | _ => cases e
section
variable {X : Cx} {G : GX} {C : Fc} {W : WX} {ow ow' : Ow} {r : Rho} {T T1 T2 : List (D × V)} {s : L2.St} {H H' : Hp}
end
section
variable {X : Cx} {G : GX} {C : Fc} {W : WX} {ow ow' : Ow} {r : Rho} {T T1 T2 : List (D × V)} {s : L2.St} {H H' : Hp} {fa fb fc : Ev}
end
end VL

namespace RT
open PySem PySem.Spec PyProof.Rows L2
section
variable {prog : Program} {w : World} {A : Around} {E : Value → Shared → Prop} {s : Shared}
end
end RT
namespace RT
open PySem PySem.Spec PyProof.Rows L2
section
variable {prog : Program} {w : World} {A : Around} {E : Value → Shared → Prop} {s : Shared}
end
end RT

namespace L2
open PySem PySem.Spec PyProof.Rows RT
section
variable {X : Cx}
end
end L2
namespace VL
open PySem PySem.Spec PyProof.Rows L2
def gLRev (x : R) (r : Rho) : EO := match opd r x with
  | some (.node .lst _ xs) => .ok (.val (.node .lst true (frzs xs).reverse)) (touch r x)
  | some (.node .rd _ xs) => .ok (.val (.node .lst true (frzs xs).reverse)) (touch r x)
  | some (.node .tup _ xs) => if xs.isEmpty = true then .bad else .ok (.val (.node .lst true (frzs xs).reverse)) (touch r x)
  | _ => .bad
def cLRev (fa : Ev) : Ev := fun r => (fa r).bd gLRev
section
variable {X : Cx} {G : GX} {C : Fc} {W : WX} {ow ow' : Ow} {r : Rho} {T T1 T2 : List (D × V)} {s : L2.St} {H H' : Hp} {fa fb fc : Ev}
end
theorem lrev_ok {fa : Ev} {r r1 : Rho} {x : R} {k : Kd} {o : Bool} {xs : List D} (h : fa r = .ok x r1) (ho : opd r1 x = some (.node k o xs)) (hk : k = .lst ∨ k = .rd ∨ (k = .tup ∧ xs ≠ [])) (f : frzs xs = xs) (t : touch r1 x = r1) : cLRev fa r = .ok (.val (.node .lst true xs.reverse)) r1 := by
  unfold cLRev
  rw [h, bd_ok]
  unfold gLRev
  rw [ho]
  rcases hk with z | z | ⟨z, hne⟩ <;> subst z
  · show EO.ok (.val (.node .lst true (frzs xs).reverse)) (touch r1 x) = _
    rw [f, t]
  · show EO.ok (.val (.node .lst true (frzs xs).reverse)) (touch r1 x) = _
    rw [f, t]
  · show (if xs.isEmpty = true then EO.bad else .ok (.val (.node .lst true (frzs xs).reverse)) (touch r1 x)) = _
    rw [if_neg (by cases xs with | nil => exact absurd rfl hne | cons _ _ => exact Bool.false_ne_true), f, t]
end VL

namespace VL
open PySem PySem.Spec PyProof.Rows L2
section
variable {X : Cx} {G : GX} {C : Fc} {W : WX} {ow ow' : Ow} {r : Rho} {T T1 T2 : List (D × V)} {s : L2.St} {H H' : Hp} {fa fb fc : Ev}
end
end VL

namespace VH
open PySem PySem.Spec PyProof.Rows L2 VL
abbrev nt (k : Nat) : D := .int (k : Nat)
abbrev I (o : Bool) (xs : List Int) : D := .node .lst o (xs.map .int)
abbrev L (o : Bool) (ks : List Nat) : D := .node .lst o (ks.map nt)
class Fz (d : D) (d' : outParam D) : Prop where
  e : frz d = d'
class Fzs (ds : List D) (ds' : outParam (List D)) : Prop where
  e : frzs ds = ds'
instance : Fz (.int i) (.int i) := ⟨rfl⟩
instance : Fz (.bl i) (.bl i) := ⟨rfl⟩
instance : Fz .non .non := ⟨rfl⟩
instance : Fz (.str i) (.str i) := ⟨rfl⟩
instance : Fz (.exc i) (.exc i) := ⟨rfl⟩
instance : Fz (.cls i) (.cls i) := ⟨rfl⟩
instance : Fz (.ty i) (.ty i) := ⟨rfl⟩
instance [h : Fzs xs ys] : Fz (.node k o xs) (.node k false ys) := ⟨by show D.node k false (frzs xs) = _; rw [h.e]⟩
instance : Fz (script ns) (script ns) := ⟨by
  show D.node .rd false (frzs (ns.map D.int)) = _
  rw [frzs_ints]; rfl⟩
instance : Fzs [] [] := ⟨rfl⟩
instance [h : Fz x y] [h2 : Fzs xs ys] : Fzs (x :: xs) (y :: ys) := ⟨by show frz x :: frzs xs = _; rw [h.e, h2.e]⟩
instance [h : Fzs xs xs'] [h2 : Fzs ys ys'] : Fzs (xs ++ ys) (xs' ++ ys') := ⟨by rw [frzs_append, h.e, h2.e]⟩
theorem frzs_nt (ks : List Nat) : frzs (ks.map nt) = ks.map nt := by
  rw [frzs_map, List.map_map]
  exact List.map_congr_left fun _ _ => rfl
instance : Fzs (List.map nt ks) (List.map nt ks) := ⟨frzs_nt ks⟩
instance : Fzs (List.map D.int ks) (List.map D.int ks) := ⟨frzs_ints ks⟩
instance : Fzs (List.map pr ks) (List.map pr ks) := ⟨frzs_pr ks⟩
theorem frzs_take (n : Nat) (xs : List D) : frzs (xs.take n) = (frzs xs).take n := by rw [frzs_map, frzs_map, List.map_take]
theorem frzs_drop (n : Nat) (xs : List D) : frzs (xs.drop n) = (frzs xs).drop n := by rw [frzs_map, frzs_map, List.map_drop]
theorem frzs_set (xs : List D) (n : Nat) (d : D) : frzs (xs.set n d) = (frzs xs).set n (frz d) := by rw [frzs_map, frzs_map, List.map_set]
theorem frzs_replicate (n : Nat) (d : D) : frzs (List.replicate n d) = List.replicate n (frz d) := by rw [frzs_map, List.map_replicate]
instance [h : Fzs xs ys] : Fzs (xs.take n) (ys.take n) := ⟨by rw [frzs_take, h.e]⟩
instance [h : Fzs xs ys] : Fzs (xs.drop n) (ys.drop n) := ⟨by rw [frzs_drop, h.e]⟩
instance [h : Fzs xs ys] [h2 : Fz d e] : Fzs (xs.set n d) (ys.set n e) := ⟨by rw [frzs_set, h.e, h2.e]⟩
instance [h2 : Fz d e] : Fzs (List.replicate n d) (List.replicate n e) := ⟨by rw [frzs_replicate, h2.e]⟩
theorem fz {d d' : D} [h : Fz d d'] : frz d = d' := h.e
class Nl (d : D) : Prop where
  e : noL d = true
class Nls (ds : List D) : Prop where
  e : noLs ds = true
instance : Nl (.int i) := ⟨rfl⟩
instance : Nl (.bl i) := ⟨rfl⟩
instance : Nl .non := ⟨rfl⟩
instance : Nl (.str i) := ⟨rfl⟩
instance : Nl (.exc i) := ⟨rfl⟩
instance : Nl (.cls i) := ⟨rfl⟩
instance : Nl (.ty i) := ⟨rfl⟩
instance [h : Nls xs] : Nl (.node k true xs) := ⟨by show ((true || isTup k) && noLs xs) = true; rw [h.e]; rfl⟩
instance (priority := low) [h : Nls xs] : Nl (.node .tup o xs) := ⟨by show ((o || true) && noLs xs) = true; rw [h.e]; cases o <;> rfl⟩
instance : Nls [] := ⟨rfl⟩
instance [h : Nl x] [h2 : Nls xs] : Nls (x :: xs) := ⟨by show (noL x && noLs xs) = true; rw [h.e, h2.e]; rfl⟩
theorem noLs_of {xs : List D} (h : ∀ x ∈ xs, noL x = true) : noLs xs = true := by
  induction xs with
  | nil => rfl
  | cons x xs ih =>
    show (noL x && noLs xs) = true
    rw [h x List.mem_cons_self, ih fun y hy => h y (List.mem_cons_of_mem _ hy)]; rfl
theorem noLs_app {xs ys : List D} (h : noLs xs = true) (h2 : noLs ys = true) : noLs (xs ++ ys) = true := by
  induction xs with
  | nil => exact h2
  | cons x xs ih =>
    have h : (noL x && noLs xs) = true := h
    rw [Bool.and_eq_true] at h
    show (noL x && noLs (xs ++ ys)) = true
    rw [h.1, ih h.2]; rfl
instance [h : Nls xs] [h2 : Nls ys] : Nls (xs ++ ys) := ⟨noLs_app h.e h2.e⟩
theorem noLs_enc {α : Type} {f : α → D} (h : ∀ a, noL (f a) = true) (xs : List α) : noLs (xs.map f) = true := noLs_of fun x hx => by
  obtain ⟨a, _, rfl⟩ := List.mem_map.mp hx
  exact h a
instance : Nls (List.map nt ks) := ⟨noLs_enc (fun _ => rfl) _⟩
instance : Nls (List.map D.int ks) := ⟨noLs_enc (fun _ => rfl) _⟩
instance : Nls (List.map pr ks) := ⟨noLs_prs _⟩
instance [h : Nl d] : Nls (List.replicate n d) := ⟨noLs_of fun x hx => by rw [List.eq_of_mem_replicate hx]; exact h.e⟩
class Fq (k : outParam Nat) (d : D) : Prop where
  e : FP k d
class Fqs (k : outParam Nat) (ds : List D) : Prop where
  e : ∀ x ∈ ds, FP k x
instance : Fq 0 (.int i) := ⟨fp_int i 0⟩
instance : Fq 0 (.bl i) := ⟨fp_bl i 0⟩
instance : Fq 0 .non := ⟨fp_non 0⟩
instance [h : Fqs k xs] : Fq (k + 1) (.node .lst o xs) := ⟨fp_lst h.e⟩
instance [h : Fqs k xs] : Fq (k + 1) (.node .tup o xs) := ⟨fp_tup h.e⟩
instance : Fqs 0 [] := ⟨fun x hx => by cases hx⟩
instance [h : Fq k x] [h2 : Fqs m xs] : Fqs (max k m) (x :: xs) := ⟨fun y hy => by
  rcases List.mem_cons.mp hy with e | hy
  · rw [e]; exact h.e.mono (Nat.le_max_left _ _)
  · exact (h2.e y hy).mono (Nat.le_max_right _ _)⟩
instance [h : Fqs k xs] [h2 : Fqs m ys] : Fqs (max k m) (xs ++ ys) := ⟨fun y hy => by
  rcases List.mem_append.mp hy with hy | hy
  · exact (h.e y hy).mono (Nat.le_max_left _ _)
  · exact (h2.e y hy).mono (Nat.le_max_right _ _)⟩
theorem fqs_enc {α : Type} {f : α → D} {k : Nat} (h : ∀ a, FP k (f a)) (xs : List α) : ∀ x ∈ xs.map f, FP k x := fun x hx => by
  obtain ⟨a, _, rfl⟩ := List.mem_map.mp hx
  exact h a
instance : Fqs 0 (List.map nt ks) := ⟨fqs_enc (fun _ => fp_int _ 0) _⟩
instance : Fqs 0 (List.map D.int ks) := ⟨fqs_enc (fun _ => fp_int _ 0) _⟩
instance : Fqs 1 (List.map pr ks) := ⟨fp_prs ks⟩
def sq3 : Kd → Bool
  | .lst => true
  | .rd => true
  | .tup => true
  | _ => false
def sq2 : Kd → Bool
  | .lst => true
  | .rd => true
  | _ => false
section
variable {fa fb fc : Ev} {fs : Av} {r r1 r2 r3 : Rho} {x y : R} {d e z : D} {b c : Bool} {i j : Int}
theorem cc_d (d : D) (r : Rho) : cC d r = .ok (.val d) r := rfl
theorem set_val (h : fa r = .ok (.val d) r1) : cSet fa r = .ok (.val d) r1 := by
  rw [q_set, h, bd_ok]
theorem set_loc {i : Nat} {d d' : D} (h : r[i]? = some (some d)) (a : atom d = false) (f : Fz d d') (h2 : r.set i (some d') = r1) : cSet (cVar i) r = .ok (.val d') r1 := by
  rw [q_set, cvar_loc h a, bd_ok]
  show (match opd r (.loc i) with | some d => EO.ok (.val (frz d)) (settle r (.loc i)) | none => .bad) = _
  rw [opd_loc' h, q_settle2, h]
  show EO.ok (R.val (frz d)) (r.set i (some (frz d))) = _
  rw [f.e, h2]
theorem cons_ok {xs : List R} (h : fa r = .ok x r1) (h2 : fs r1 = .ok xs r2) : cCons fa fs r = .ok (x :: xs) r2 := by
  rw [q_cons, h]
  show (match fs r1 with | .ok xs r2 => AO.ok (x :: xs) r2 | .exc c r2 => .exc c r2 | .bad => .bad) = _
  rw [h2]
theorem nil_ok (r : Rho) : cNil r = .ok [] r := rfl
theorem lst_ok {xs : List R} {ds : List D} (h : fs r = .ok xs r1) (h2 : valsR xs = some ds) (hl : ds.length ≤ 16777216) : cLst fs r = .ok (.val (.node .lst true ds)) r1 := by
  rw [q_lst, h]
  show (match valsR xs with | some ds => if ds.length ≤ 16777216 then EO.ok (.val (.node .lst true ds)) r1 else .bad | none => .bad) = _
  rw [h2]
  show (if ds.length ≤ 16777216 then EO.ok (.val (.node .lst true ds)) r1 else .bad) = _
  rw [if_pos hl]
theorem tup_ok {xs : List R} {ds : List D} (h : fs r = .ok xs r1) (h2 : valsR xs = some ds) (hl : ds.length ≤ 16777216) : cTup fs r = .ok (.val (.node .tup false ds)) r1 := by
  rw [q_tup, h]
  show (match valsR xs with | some ds => if ds.length ≤ 16777216 then EO.ok (.val (.node .tup false ds)) r1 else .bad | none => .bad) = _
  rw [h2]
  show (if ds.length ≤ 16777216 then EO.ok (.val (.node .tup false ds)) r1 else .bad) = _
  rw [if_pos hl]
theorem call_go {n : Nat} {F : List D → FO} {xs : List R} {ds ds' : List D} (h : fs r = .ok xs r1) (h2 : opds r1 xs = some ds) (hf : Fzs ds ds') (hn : xs.length = n) (hF : F ds' = .ok d) (nl : Nl d) : cCall n F fs r = .ok (.val d) r1 := by
  rw [q_call, h]
  show (if xs.length = n then callK F xs r1 else .bad) = _
  rw [if_pos hn, q_callK, h2]
  show (match F (frzs ds) with | .ok d => if noL d = true then EO.ok (.val d) r1 else .ok (.val d) (settles r1 xs) | .exc c => .exc c r1 | .bad => .bad) = _
  rw [hf.e, hF]
  show (if noL d = true then EO.ok (.val d) r1 else .ok (.val d) (settles r1 xs)) = _
  rw [if_pos nl.e]
theorem call_set {n : Nat} {F : List D → FO} {xs : List R} {ds ds' : List D} (h : fs r = .ok xs r1) (h2 : opds r1 xs = some ds) (hf : Fzs ds ds') (hn : xs.length = n) (hF : F ds' = .ok d) (nl : noL d = false) (hs : settles r1 xs = r2) : cCall n F fs r = .ok (.val d) r2 := by
  rw [q_call, h]
  show (if xs.length = n then callK F xs r1 else .bad) = _
  rw [if_pos hn, q_callK, h2]
  show (match F (frzs ds) with | .ok d => if noL d = true then EO.ok (.val d) r1 else .ok (.val d) (settles r1 xs) | .exc c => .exc c r1 | .bad => .bad) = _
  rw [hf.e, hF]
  show (if noL d = true then EO.ok (.val d) r1 else .ok (.val d) (settles r1 xs)) = _
  rw [if_neg (by rw [nl]; decide), hs]
theorem call_exc {n k : Nat} {F : List D → FO} {xs : List R} {ds ds' : List D} (h : fs r = .ok xs r1) (h2 : opds r1 xs = some ds) (hf : Fzs ds ds') (hn : xs.length = n) (hF : F ds' = .exc k) : cCall n F fs r = .exc k r1 := by
  rw [q_call, h]
  show (if xs.length = n then callK F xs r1 else .bad) = _
  rw [if_pos hn, q_callK, h2]
  show (match F (frzs ds) with | .ok d => if noL d = true then EO.ok (.val d) r1 else .ok (.val d) (settles r1 xs) | .exc c => .exc c r1 | .bad => .bad) = _
  rw [hf.e, hF]
theorem expr_exc {k : Nat} (h : fa r = .exc k r1) : cExpr fa r = .exc k r1 := by
  rw [q_expr, h]; rfl
theorem asg_exc {k : Nat} {t : Tg} (h : fa r = .exc k r1) : cAsg t fa r = .exc k r1 := by
  rw [q_asg, q_set, h]; rfl
theorem len_go {k : Kd} {o : Bool} {xs : List D} (h : fa r = .ok x r1) (ho : opd r1 x = some (.node k o xs)) (hk : sq3 k = true) : cB (b1 lenD) (cCons fa cNil) r = .ok (.val (.int xs.length)) r1 :=
  b1_ok h ho (by cases k <;> first | rfl | cases hk) rfl
theorem lenE_go {α : Type} {k : Kd} {o : Bool} {f : α → D} {xs : List α} (h : fa r = .ok x r1) (ho : opd r1 x = some (.node k o (xs.map f))) (hk : sq3 k = true) : cB (b1 lenD) (cCons fa cNil) r = .ok (.val (.int xs.length)) r1 := by
  have e := len_go h ho hk
  rw [List.length_map] at e
  exact e
theorem neg_ok {n : Int} (h : fa r = .ok (.val (.int n)) r1) : cNeg fa r = .ok (.val (.int (-n))) r1 := by
  unfold cNeg
  rw [h]
  rfl
theorem max_ok (h1 : fa r = .ok (.val (.int i)) r1) (h2 : fb r1 = .ok (.val (.int j)) r2) : cB gMax2 (cCons fa (cCons fb cNil)) r = .ok (.val (.int (max i j))) r2 := by
  rw [q_B, cons_ok h1 (cons_ok h2 (nil_ok r2))]
  show gMax2 [.val (.int i), .val (.int j)] r2 = _
  rw [q_max2]
  congr 3
  by_cases hn : j > i
  · rw [if_pos hn]; omega
  · rw [if_neg hn]; omega
theorem min_ok (h1 : fa r = .ok (.val (.int i)) r1) (h2 : fb r1 = .ok (.val (.int j)) r2) : cB gMin2 (cCons fa (cCons fb cNil)) r = .ok (.val (.int (min i j))) r2 := by
  rw [q_B, cons_ok h1 (cons_ok h2 (nil_ok r2))]
  show gMin2 [.val (.int i), .val (.int j)] r2 = _
  rw [q_min2]
  congr 3
  by_cases hn : j < i
  · rw [if_pos hn]; omega
  · rw [if_neg hn]; omega
theorem and_no (h : fa r = .ok (.val (.bl false)) r1) : cAnd fa fb r = .ok (.val (.bl false)) r1 := by
  rw [q_and, h, bd_ok]
theorem and_go (h : fa r = .ok (.val (.bl true)) r1) {o : EO} (h2 : fb r1 = o) : cAnd fa fb r = o := by
  rw [q_and, h, bd_ok]; exact h2
theorem or_yes (h : fa r = .ok (.val (.bl true)) r1) : cOr fa fb r = .ok (.val (.bl true)) r1 := by
  rw [q_or, h, bd_ok]
theorem or_go (h : fa r = .ok (.val (.bl false)) r1) {o : EO} (h2 : fb r1 = o) : cOr fa fb r = o := by
  rw [q_or, h, bd_ok]; exact h2
theorem and_b (h : fa r = .ok (.val (.bl b)) r) (h2 : fb r = .ok (.val (.bl c)) r) : cAnd fa fb r = .ok (.val (.bl (b && c))) r := by
  rw [q_and, h, bd_ok]
  cases b with
  | true => exact h2
  | false => rfl
theorem or_b (h : fa r = .ok (.val (.bl b)) r) (h2 : fb r = .ok (.val (.bl c)) r) : cOr fa fb r = .ok (.val (.bl (b || c))) r := by
  rw [q_or, h, bd_ok]
  cases b with
  | true => rfl
  | false => exact h2
theorem tru_bl (h : fa r = .ok (.val (.bl b)) r1) : cTru fa r = .ok (.val (.bl b)) r1 := by
  unfold cTru
  rw [h]
  rfl
theorem ix_go {k : Kd} {o : Bool} {xs : List D} {n : Int} (h : fa r = .ok x r1) (h2 : fb r1 = .ok (.val (.int n)) r2) (ho : opd r2 x = some (.node k o xs)) (hk : sq3 k = true) (hd : atI xs n = some d) (fd : Fz d e) (t : touch r2 x = r3) (ht : atom d = true → r3 = r2) : cBin gIx fa fb r = .ok (.val e) r3 := by
  refine bin_ok h h2 ?_
  have z : gIx x (.val (.int n)) r2 = pick r2 x d := by
    rw [q_ix, ho]
    cases k <;> first | (cases hk; done) | (show (match atI xs n with | some d => pick r2 x d | none => EO.bad) = _; rw [hd])
  rw [z, q_pick]
  by_cases a : atom d = true
  · rw [if_pos a, ht a, ← fd.e, frz_atom a]
  · rw [if_neg a, fd.e, t]
theorem at_enc {α : Type} {f : α → D} {xs : List α} {i : Nat} (h : i < xs.length) : atI (xs.map f) (i : Int) = some (f xs[i]) := by
  rw [VL.atI_nat, List.getElem?_map, List.getElem?_eq_getElem h]; rfl
theorem touch_v (d : D) (r : Rho) : touch r (.val d) = r := rfl
theorem touch_l {i : Nat} {k : Kd} {o : Bool} {ys : List D} (h : r[i]? = some (some (.node k o ys))) (f : Fzs ys ys) : touch r (.loc i) = r := touch_fz h f.e
theorem addL_go {o o' : Bool} {xs ys xs' ys' : List D} (h1 : fa r = .ok x r1) (h2 : fb r1 = .ok y r2) (e1 : opd r2 x = some (.node .lst o xs)) (e2 : opd r2 y = some (.node .lst o' ys)) (f1 : Fzs xs xs') (f2 : Fzs ys ys') (hl : xs.length + ys.length ≤ 16777216) (t1 : touch r2 y = r2) (t2 : touch r2 x = r2) : cBin gAdd fa fb r = .ok (.val (.node .lst true (xs' ++ ys'))) r2 := by
  refine bin_ok h1 h2 ?_
  rw [q_addL e1 e2 hl, f1.e, f2.e, t1, t2]
theorem listOf_go {o : Bool} {k : Kd} {xs xs' : List D} (h : fa r = .ok x r1) (ho : opd r1 x = some (.node k o xs)) (hk : sq3 k = true) (f : Fzs xs xs') (t : touch r1 x = r2) : cB gListOf (cCons fa cNil) r = .ok (.val (.node .lst true xs')) r2 := by
  rw [q_B, cons_ok h (nil_ok r1), q_abd1, q_listOf, ho]
  cases k <;> first | (cases hk; done) | (show EO.ok (.val (.node .lst true (frzs xs))) (touch r1 x) = _; rw [f.e, t])
theorem isi_go {n : String} {E : ETab} (h : fa r = .ok x r1) (ho : opd r1 x = some d) (hb : isi1 E d (.ty n) = some b) : cB (gIsi E) (cCons fa (cCons (cC (.ty n)) cNil)) r = .ok (.val (.bl b)) r1 := by
  rw [q_B, cons_ok h (cons_ok (cc_d _ _) (nil_ok r1)), q_abd1]
  show (match opd r1 x with | some d => (match isi1 E d (.ty n) with | some b => EO.ok (.val (.bl b)) r1 | none => .bad) | none => .bad) = _
  rw [ho]
  show (match isi1 E d (.ty n) with | some b => EO.ok (.val (.bl b)) r1 | none => .bad) = _
  rw [hb]
theorem eqD_go (h1 : fa r = .ok x r1) (h2 : fb r1 = .ok y r2) (e1 : opd r2 x = some d) (e2 : opd r2 y = some e) (h : eqD d e = some (.bl b)) : cBin gEq fa fb r = .ok (.val (.bl b)) r2 := bin_ok h1 h2 (g2_ok e1 e2 h rfl)
theorem neD_go (h1 : fa r = .ok x r1) (h2 : fb r1 = .ok y r2) (e1 : opd r2 x = some d) (e2 : opd r2 y = some e) (h : neD d e = some (.bl b)) : cBin gNe fa fb r = .ok (.val (.bl b)) r2 := bin_ok h1 h2 (g2_ok e1 e2 h rfl)
theorem seq_go {f g : Sv} {o : SO} (h : f r = .nx r1) (h2 : g r1 = o) : cSeq f g r = o := (seq_nx h).trans h2
theorem skip_go (r : Rho) : cSkip r = .nx r := rfl
theorem asg_go {i : Nat} (h : cSet fa r = .ok (.val d) r1) (h2 : r1.set i (some d) = r2) : cAsg (.nm i) fa r = .nx r2 := by
  rw [q_asg, h]
  show SO.nx (r1.set i (some d)) = _
  rw [h2]
theorem asgT_go {t : Tg} (h : cSet fa r = .ok (.val d) r1) (h2 : tgt t d r1 = some r2) : cAsg t fa r = .nx r2 := by
  rw [q_asg, h]
  show asgK t (.val d) r1 = _
  rw [q_asgK, h2]
theorem expr_go (h : fa r = .ok x r1) : cExpr fa r = .nx r1 := by
  rw [q_expr, h]; rfl
theorem app_go {i : Nat} {ds : List D} (hi : isLst r i = true) (h : cSet fa r = .ok (.val d) r1) (h2 : r1[i]? = some (some (.node .lst true ds))) (hl : ds.length < 16777216) (h3 : r1.set i (some (.node .lst true (ds ++ [d]))) = r2) : cExpr (cApp i fa) r = .nx r2 := by
  rw [q_expr, q_app, if_pos hi, h, bd_ok]
  show (appK i (.val d) r1).st _ = _
  rw [q_appK, h2]
  show (if ds.length < 16777216 then EO.ok (.val .non) (r1.set i (some (.node .lst true (ds ++ [d])))) else .bad).st _ = _
  rw [if_pos hl, h3]
  rfl
theorem ext_go {i : Nat} {o : Bool} {ds es ds' es' : List D} (hi : isLst r i = true) (h : fa r = .ok x r1) (ho : opd r1 x = some (.node .lst o es)) (ht : touch r1 x = r1) (h2 : r1[i]? = some (some (.node .lst true ds))) (f1 : Fzs ds ds') (f2 : Fzs es es') (hl : ds.length + es.length ≤ 16777216) (h3 : r1.set i (some (.node .lst true (ds' ++ es'))) = r2) : cExpr (cExt i fa) r = .nx r2 := by
  rw [q_expr]
  have e : cExt i fa r = (fa r).bd (extK i) := by
    unfold cExt; rw [if_pos hi]
  rw [e, h, bd_ok]
  have e2 : extK i x r1 = .ok (.val .non) r2 := by
    unfold extK
    rw [ho]
    simp only
    rw [ht, h2]
    simp only
    rw [if_pos hl, f1.e, f2.e, List.set_set, h3]
  rw [e2]
  rfl
theorem ret_go (h : fa r = .ok x r1) : cRet fa r = .rt x r1 := ret_ok h
theorem for_go {t : Tg} {fi : Iv} {f : Sv} {ds : List D} {o : SO} (h : fi r = .ok ds r1) (h2 : forL t f ds r1 = o) : cFor t fi f r = o := for_ok h h2
theorem aug_go {i : Nat} {a c : Int} (h : r[i]? = some (some (.int a))) (h2 : fa r = .ok (.val (.int c)) r1) (h3 : r1.set i (some (.int (a + c))) = r2) : cAug i (g2 iAdd) fa r = .nx r2 := by
  rw [q_aug, h]
  show (if true = true then (fa r).st fun y r1 => (g2 iAdd (.val (.int a)) y r1).st fun z r2 => match z with
    | .val d' => SO.nx (r2.set i (some d'))
    | .loc _ => .bad else .bad) = _
  rw [h2]
  show SO.nx (r1.set i (some (.int (a + c)))) = _
  rw [h3]
theorem augG_go {i : Nat} {g : G2} (h : r[i]? = some (some d)) (a : atom d = true) (h2 : fa r = .ok y r1) (h4 : g (.val d) y r1 = .ok (.val e) r2) (h3 : r2.set i (some e) = r3) : cAug i g fa r = .nx r3 := by
  rw [q_aug, h]
  show (if atom d = true then (fa r).st fun y r1 => (g (.val d) y r1).st fun z r2 => match z with
    | .val d' => SO.nx (r2.set i (some d'))
    | .loc _ => .bad else .bad) = _
  rw [if_pos a, h2]
  show (g (.val d) y r1).st _ = _
  rw [h4]
  show SO.nx (r2.set i (some e)) = _
  rw [h3]
theorem par_go {is : List Nat} {xs : List R} {ds : List D} (h : fs r = .ok xs r1) (h2 : valsR xs = some ds) (hl : is.length = ds.length) (h3 : setAll r1 is ds = r2) : cPar is fs r = .nx r2 := by
  rw [← h3]; exact par_ok h h2 hl
theorem setIx_go {i : Nat} {fk : Ev} {k : Int} {jj : Nat} {ds : List D} (h : cSet fa r = .ok (.val d) r1) (h1 : isLst r1 i = true) (h2 : fk r1 = .ok (.val (.int k)) r2) (h3 : r2[i]? = some (some (.node .lst true ds))) (h4 : ixN ds.length k = some jj) (h5 : r2.set i (some (.node .lst true (ds.set jj d))) = r3) : cSetIx i fk fa r = .nx r3 := by
  rw [q_setIx, h, q_st1, if_pos h1, h2, q_st1, q_setIxK]
  show (match opd r2 (.val (.int k)), r2[i]? with
  | some (.int k), some (some (.node .lst true ds)) => (match ixN ds.length k with
    | some j => SO.nx (r2.set i (some (.node .lst true (ds.set j d))))
    | none => .bad)
  | _, _ => .bad) = _
  rw [h3]
  show (match ixN ds.length k with
    | some j => SO.nx (r2.set i (some (.node .lst true (ds.set j d))))
    | none => .bad) = _
  rw [h4]
  show SO.nx (r2.set i (some (.node .lst true (ds.set jj d)))) = _
  rw [h5]
theorem ixN_nat {n k : Nat} (h : k < n) : ixN n (k : Int) = some k := by
  unfold ixN
  rw [if_pos (by omega), if_pos (by omega), Int.toNat_natCast]
theorem wh_go {ft : Ev} {f : Sv} {n : Nat} (h : ft r = .ok (.val (.bl true)) r1) (h2 : f r1 = .nx r2) : whileL ft f (n + 1) r = whileL ft f n r2 := by
  conv => lhs; unfold whileL
  rw [h]
  show (match f r1 with | .nx r2 => whileL ft f n r2 | .ct r2 => whileL ft f n r2 | .bk r2 => .nx r2 | o => o) = _
  rw [h2]
theorem wh_no {ft : Ev} {f : Sv} {n : Nat} (h : ft r = .ok (.val (.bl false)) r1) : whileL ft f (n + 1) r = .nx r1 := by
  unfold whileL
  rw [h]
  rfl
end
theorem it_rngI {fa : Ev} {r r1 : Rho} {n : Int} (h : fa r = .ok (.val (.int n)) r1) (h1 : within n = true) : iRng rngI1 (cCons fa cNil) r = .ok (rngD 0 1 n.toNat) r1 := by
  rw [q_iRng, cons_ok h (nil_ok r1)]
  show rngI1 r1 [.val (.int n)] = _
  rw [q_rng1, if_pos h1]
theorem it_rng2 {fa fb : Ev} {r r1 r2 : Rho} {n m : Int} (h : fa r = .ok (.val (.int n)) r1) (h2 : fb r1 = .ok (.val (.int m)) r2) (hn : within n = true) (hm : within m = true) : iRng rngI2 (cCons fa (cCons fb cNil)) r = .ok (rngD n 1 (m - n).toNat) r2 := by
  rw [q_iRng, cons_ok h (cons_ok h2 (nil_ok r2))]
  show rngI2 r2 [.val (.int n), .val (.int m)] = _
  rw [q_rng2, if_pos (by rw [hn, hm]; rfl)]
theorem it_lstG {fa : Ev} {r r1 : Rho} {o : Bool} {k : Kd} {ds : List D} (h : cSet fa r = .ok (.val (.node k o ds)) r1) (hk : sq2 k = true) : iLst fa r = .ok ds r1 := by
  rw [q_iLst, h]
  cases k <;> first | (cases hk; done) | rfl
theorem it_enumG {fa : Ev} {r r1 : Rho} {o : Bool} {ds ds' : List D} (h : fa r = .ok (.val (.node .lst o ds)) r1) (f : Fzs ds ds') : iRng gEn (cCons fa cNil) r = .ok (enumD 0 ds') r1 := by
  rw [q_iEn (cons_ok h (nil_ok r1)), f.e]
theorem rng_nt (n : Nat) : rngD 0 1 n = (List.range n).map nt := by
  unfold rngD
  refine List.map_congr_left fun i _ => ?_
  show D.int ((0 : Int) + (i : Nat) * 1) = D.int (i : Nat)
  congr 1; omega
end VH
namespace VH
open PySem PySem.Spec PyProof.Rows L2 VL
section
variable {fa fb fc : Ev} {fs : Av} {f g h : Sv} {r r1 r2 r3 : Rho} {x y : R} {d e z : D} {b c : Bool} {i j : Int} {o : SO}
theorem set_0 {a : Option D} {x : Option D} {l : Rho} : (a :: l).set 0 x = x :: l := rfl
theorem set_s {a : Option D} {x : Option D} {l l' : Rho} {n : Nat} (h : l.set n x = l') : (a :: l).set (n + 1) x = a :: l' := by
  rw [List.set_cons_succ, h]
theorem setAll_n (r : Rho) : setAll r [] [] = r := rfl
theorem setAll_c {i : Nat} {is : List Nat} {ds : List D} (h : r.set i (some d) = r1) (h2 : setAll r1 is ds = r2) : setAll r (i :: is) (d :: ds) = r2 := by
  show setAll (r.set i (some d)) is ds = _
  rw [h, h2]
theorem tgt_nm {i : Nat} (h : r.set i (some d) = r1) : tgt (.nm i) d r = some r1 := by
  show some (r.set i (some d)) = _
  rw [h]
theorem tgt_tp {is : List Nat} {o : Bool} {ds : List D} (hl : is.length = ds.length) (h : setAll r is ds = r1) : tgt (.tp is) (.node .tup o ds) r = some r1 := by
  show (if is.length = ds.length then some (setAll r is ds) else none) = _
  rw [if_pos hl, h]
theorem tgt_tl {is : List Nat} {o : Bool} {ds : List D} (hl : is.length = ds.length) (h : setAll r is ds = r1) : tgt (.tl is) (.node .lst o ds) r = some r1 := by
  show (if is.length = ds.length then some (setAll r is ds) else none) = _
  rw [if_pos hl, h]
theorem seq_as (h1 : cSeq f (cSeq g h) r = o) : cSeq (cSeq f g) h r = o := by
  rw [← h1]
  simp only [q_seq]
  cases f r <;> rfl
theorem seq_ret (h1 : fa r = .ok x r1) (h2 : SO.rt x r1 = o) : cSeq (cRet fa) h r = o := by
  rw [seq_rt (ret_ok h1), h2]
theorem seq_yes (h1 : fa r = .ok (.val (.bl b)) r1) (hb : b = true) (h2 : cSeq f h r1 = o) : cSeq (cIfS fa f g) h r = o := by
  subst hb
  rw [← h2]
  simp only [q_seq]
  rw [ifs_yes h1 rfl]
theorem seq_no (h1 : fa r = .ok (.val (.bl b)) r1) (hb : b = false) (h2 : cSeq g h r1 = o) : cSeq (cIfS fa f g) h r = o := by
  subst hb
  rw [← h2]
  simp only [q_seq]
  rw [ifs_not h1 rfl]
theorem ifs_y (h1 : fa r = .ok (.val (.bl b)) r1) (hb : b = true) (h2 : f r1 = o) : cIfS fa f g r = o := by
  subst hb
  exact ifs_yes h1 h2
theorem ifs_n (h1 : fa r = .ok (.val (.bl b)) r1) (hb : b = false) (h2 : g r1 = o) : cIfS fa f g r = o := by
  subst hb
  exact ifs_not h1 h2
theorem seq_sk (h2 : h r = o) : cSeq cSkip h r = o := by
  rw [q_seq, q_skip]; exact h2
theorem seq_ra {k : Nat} (h2 : SO.exc k r = o) : cSeq (cRaise k) h r = o := by
  rw [q_seq, q_raise]; exact h2
theorem runF_go {n : Nat} {ds : List D} (h1 : startR n ds = r) (h2 : f r = .rt x r1) (ho : opd r1 x = some d) : runF n f ds = .ok d := by
  subst h1
  exact runF_ok h2 ho
theorem runF_nx {n : Nat} {ds : List D} (h1 : startR n ds = r) (h2 : f r = .nx r1) : runF n f ds = .ok .non := by
  subst h1
  unfold runF
  rw [h2]
theorem runF_exc {n k : Nat} {ds : List D} (h1 : startR n ds = r) (h2 : f r = .exc k r1) : runF n f ds = .exc k := by
  subst h1
  unfold runF
  rw [h2]
theorem forL_c {t : Tg} {ds : List D} (h1 : tgt t d r = some r1) (h2 : f r1 = .nx r2) (h3 : forL t f ds r2 = o) : forL t f (d :: ds) r = o := (forL_cons h1 h2).trans h3
end
theorem mulOk_l {i j : Int} (h : i.natAbs < 2 ^ 64) : mulOk i j = true := by
  unfold mulOk
  rw [decide_eq_true h]; rfl
theorem mulOk_r {i j : Int} (h : j.natAbs < 2 ^ 64) : mulOk i j = true := by
  unfold mulOk
  rw [decide_eq_true h, Bool.or_true, Bool.true_or]
end VH
namespace VH
open PySem PySem.Spec PyProof.Rows L2 VL
theorem set_any {r : Rho} {i : Nat} {d : D} (h : r[i]? = some (some d)) (f : frz d = d) : cSet (cVar i) r = .ok (.val d) r := by
  cases ha : atom d with
  | true => rw [q_set, cvar_at h ha, bd_ok]
  | false => exact set_loc h ha ⟨f⟩ (set_same h)
theorem start_c {n : Nat} {d : D} {ds : List D} {r : Rho} (h : startR n ds = r) : startR (n + 1) (d :: ds) = some d :: r := by
  subst h
  unfold startR
  simp
theorem start_n {n : Nat} {r : Rho} (h : startR n [] = r) : startR (n + 1) [] = none :: r := by
  subst h
  unfold startR
  simp [List.replicate_succ]
theorem start_z : startR 0 [] = [] := rfl
end VH
namespace VH
open PySem PySem.Spec PyProof.Rows L2 VL
end VH
namespace VH
open PySem PySem.Spec PyProof.Rows L2 VL
end VH
namespace VH
open PySem PySem.Spec PyProof.Rows L2 VL
theorem touch_g {r r1 : Rho} {i : Nat} {k : Kd} {o : Bool} {ys ys' : List D} (h : r[i]? = some (some (.node k o ys))) (f : Fzs ys ys') (h2 : r.set i (some (.node k o ys')) = r1) : touch r (.loc i) = r1 := by
  rw [q_touch2, h, ← h2, ← f.e]
  rfl
end VH
namespace VH
open PySem PySem.Spec PyProof.Rows L2 VL
theorem se_n (r : Rho) : settles r [] = r := rfl
theorem se_v {r r1 : Rho} {d : D} {xs : List R} (h : settles r xs = r1) : settles r (.val d :: xs) = r1 := h
theorem se_l {r r1 r2 : Rho} {i : Nat} {d d' : D} {xs : List R} (h : r[i]? = some (some d)) (f : Fz d d') (h2 : r.set i (some d') = r1) (h3 : settles r1 xs = r2) : settles r (.loc i :: xs) = r2 := by
  rw [q_settles1, q_settle2, h, ← h3, ← h2, ← f.e]
end VH
namespace VH
open PySem PySem.Spec PyProof.Rows L2 VL
theorem not_t {fa : Ev} {r r1 : Rho} (h : fa r = .ok (.val (.bl true)) r1) : cNot fa r = .ok (.val (.bl false)) r1 := not_ok h
theorem not_f {fa : Ev} {r r1 : Rho} (h : fa r = .ok (.val (.bl false)) r1) : cNot fa r = .ok (.val (.bl true)) r1 := not_ok h
end VH
namespace VH
open PySem PySem.Spec PyProof.Rows L2 VL
theorem wh_y {ft : Ev} {f : Sv} {n : Nat} {r r1 r2 : Rho} {b : Bool} {o : SO} (h : ft r = .ok (.val (.bl b)) r1) (hb : b = true) (h2 : f r1 = .nx r2) (h3 : whileL ft f n r2 = o) : whileL ft f (n + 1) r = o := by
  subst hb
  exact (wh_go h h2).trans h3
theorem wh_n {ft : Ev} {f : Sv} {n : Nat} {r r1 : Rho} {b : Bool} (h : ft r = .ok (.val (.bl b)) r1) (hb : b = false) : whileL ft f (n + 1) r = .nx r1 := by
  subst hb
  exact wh_no h
theorem int_bl {fa : Ev} {r r1 : Rho} {b : Bool} (h : fa r = .ok (.val (.bl b)) r1) : cB (b1 intD) (cCons fa cNil) r = .ok (.val (.int (if b then 1 else 0))) r1 := b1_ok h rfl rfl rfl
theorem int_int {fa : Ev} {r r1 : Rho} {i : Int} (h : fa r = .ok (.val (.int i)) r1) : cB (b1 intD) (cCons fa cNil) r = .ok (.val (.int i)) r1 := b1_ok h rfl rfl rfl
theorem call_any {n : Nat} {F : List D → FO} {fs : Av} {r r1 : Rho} {d : D} {xs : List R} {ds ds' : List D} (h : fs r = .ok xs r1) (h2 : opds r1 xs = some ds) (hf : Fzs ds ds') (hn : xs.length = n) (hF : F ds' = .ok d) (hs : settles r1 xs = r1) : cCall n F fs r = .ok (.val d) r1 := by
  cases nl : noL d with
  | true => exact call_go h h2 hf hn hF ⟨nl⟩
  | false => exact call_set h h2 hf hn hF nl hs
theorem lt_fuel {n : Nat} (h : n < 1000000000) : n < fuel := Nat.lt_of_lt_of_le h fuel_ge
end VH
namespace VH
open PySem PySem.Spec PyProof.Rows L2 VL
theorem atom_of_frz {d : D} {k : Kd} {o : Bool} {xs : List D} (h : frz d = .node k o xs) : atom d = false := by
  cases d with
  | node _ _ _ => rfl
  | _ => cases h
theorem frz_dD (ks : List Int) (f : Int → D) : frzB (dD ks f) = dD ks (fun x => frz (f x)) := by
  show D.node (.dK (kI ks)) true (frzs (ks.map f)) = D.node (.dK (kI ks)) true (ks.map fun x => frz (f x))
  rw [frzs_map, List.map_map]; rfl
theorem dget_go {fb : Ev} {r r2 : Rho} {i : Nat} {ks : List Int} {f : Int → D} {k : Int} {kd : Kd} {o : Bool} {xs : List D} (h : r[i]? = some (some (dD ks f))) (h2 : fb r = .ok (.val (.int k)) r) (hk : k ∈ ks) (h3 : frz (f k) = .node kd o xs) (h4 : r.set i (some (dD ks (fun x => frz (f x)))) = r2) : cBin dgetK (cVar i) fb r = .ok (.val (.node kd o xs)) r2 := by
  refine bin_ok (cvar_loc h rfl) h2 ?_
  rw [dgetK_ok (o := true) (ks := ks) (f := f) (k := k) (opd_loc' h) rfl hk, q_pick, if_neg (by rw [atom_of_frz h3]; decide), h3, q_touch2, h]
  show EO.ok (R.val (.node kd o xs)) (r.set i (some (frzB (dD ks f)))) = _
  rw [frz_dD, h4]
theorem dnin_go {fa : Ev} {r r1 : Rho} {i : Nat} {ks : List Int} {f : Int → D} {k : Int} (h2 : fa r = .ok (.val (.int k)) r1) (h : r1[i]? = some (some (dD ks f))) : cBin gDNotIn fa (cVar i) r = .ok (.val (.bl (decide (k ∉ ks)))) r1 :=
  bin_ok h2 (cvar_loc h rfl) (gDNotIn_ok (o := true) (ks := ks) (f := f) (opd_loc' h) rfl)
theorem din_go {fa : Ev} {r r1 : Rho} {i : Nat} {ks : List Int} {f : Int → D} {k : Int} (h2 : fa r = .ok (.val (.int k)) r1) (h : r1[i]? = some (some (dD ks f))) : cBin gDIn fa (cVar i) r = .ok (.val (.bl (decide (k ∈ ks)))) r1 :=
  bin_ok h2 (cvar_loc h rfl) (gDIn_ok (o := true) (ks := ks) (f := f) (opd_loc' h) rfl)
end VH
namespace VH
open PySem PySem.Spec PyProof.Rows L2 VL
theorem nx_to {f : Sv} {r r1 r2 : Rho} (h : f r = .nx r1) (h2 : r1 = r2) : f r = .nx r2 := by rw [← h2]; exact h
end VH
namespace VH
open PySem PySem.Spec PyProof.Rows L2 VL
theorem augS_go {fa : Ev} {r r1 r2 : Rho} {i : Nat} {a c : Int} (h : r[i]? = some (some (.int a))) (h2 : fa r = .ok (.val (.int c)) r1) (h3 : r1.set i (some (.int (a - c))) = r2) : cAug i VL.gSub fa r = .nx r2 :=
  augG_go h rfl h2 (g2_ok rfl rfl rfl rfl) h3
theorem augM_go {fa : Ev} {r r1 r2 : Rho} {i : Nat} {a c : Int} (h : r[i]? = some (some (.int a))) (h2 : fa r = .ok (.val (.int c)) r1) (hm : mulOk a c = true) (h3 : r1.set i (some (.int (a * c))) = r2) : cAug i VL.gMul fa r = .nx r2 :=
  augG_go h rfl h2 (by rw [q_mulI, if_pos hm]) h3
theorem pop_go {r r2 : Rho} {i : Nat} {xs ys : List D} {d : D} (h : r[i]? = some (some (.node .lst true ys))) (e : ys = xs ++ [d]) (f : Fzs (xs ++ [d]) (xs ++ [d])) (h3 : r.set i (some (.node .lst true xs)) = r2) : cPop i r = .ok (.val d) r2 := by
  subst e
  rw [← h3]
  exact pop_fz h f.e
theorem lrev_go {fa : Ev} {r r1 : Rho} {o : Bool} {xs : List D} {x : R} {d : D} (h : fa r = .ok x r1) (ho : opd r1 x = some (.node .tup o (d :: xs))) (f : Fzs (d :: xs) (d :: xs)) (t : touch r1 x = r1) : cLRev fa r = .ok (.val (.node .lst true (d :: xs).reverse)) r1 :=
  lrev_ok (k := .tup) (o := o) (xs := d :: xs) h ho (.inr (.inr ⟨rfl, fun h => by cases h⟩)) f.e t
theorem lrevL_go {fa : Ev} {r r1 : Rho} {o : Bool} {xs : List D} {x : R} (h : fa r = .ok x r1) (ho : opd r1 x = some (.node .lst o xs)) (f : Fzs xs xs) (t : touch r1 x = r1) : cLRev fa r = .ok (.val (.node .lst true xs.reverse)) r1 :=
  lrev_ok (k := .lst) (o := o) (xs := xs) h ho (.inl rfl) f.e t
end VH
namespace VH
open PySem PySem.Spec PyProof.Rows L2 VL
theorem frzs_reverse (xs : List D) : frzs xs.reverse = (frzs xs).reverse := by rw [frzs_map, frzs_map, List.map_reverse]
instance [h : Fzs xs ys] : Fzs xs.reverse ys.reverse := ⟨by rw [frzs_reverse, h.e]⟩
end VH
namespace VH
open PySem PySem.Spec PyProof.Rows L2 VL
theorem nt_lst (o : Bool) (xs : List Nat) : D.node .lst o (xs.map nt) = .node .lst o ((xs.map fun x => ((x : Nat) : Int)).map .int) := by
  rw [List.map_map]; rfl
theorem cast_inj {xs ys : List Nat} : (xs.map fun x => ((x : Nat) : Int)) = (ys.map fun x => ((x : Nat) : Int)) ↔ xs = ys := by
  constructor
  · intro h
    have := congrArg (List.map Int.toNat) h
    simpa [List.map_map, Function.comp_def] using this
  · intro h; rw [h]
theorem neL (o o' : Bool) (xs ys : List Nat) : neD (L o xs) (L o' ys) = some (.bl (!decide (xs = ys))) := by
  rw [L, L, nt_lst, nt_lst, ne_lints]
  congr 3
  exact decide_eq_decide.mpr cast_inj
theorem eqL (o o' : Bool) (xs ys : List Nat) : eqD (L o xs) (L o' ys) = some (.bl (decide (xs = ys))) := by
  rw [L, L, nt_lst, nt_lst, eq_lints]
  congr 2
  exact decide_eq_decide.mpr cast_inj
section
variable {fa fl fh : Ev} {r r1 r2 r3 : Rho} {x : R} {k : Kd} {o : Bool} {xs xs' : List D} {i j : Int}
theorem cutD_ss (xs : List D) (h1 : 0 ≤ i) (h2 : 0 ≤ j) : VL.cutD xs (some i) (some j) = (xs.drop i.toNat).take (j.toNat - i.toNat) := by
  obtain ⟨a, rfl⟩ : ∃ a : Nat, i = a := ⟨i.toNat, by omega⟩
  obtain ⟨b, rfl⟩ : ∃ b : Nat, j = b := ⟨j.toNat, by omega⟩
  exact cutD_some xs a b
theorem cutD_ns (xs : List D) (h2 : 0 ≤ j) : VL.cutD xs none (some j) = xs.take j.toNat := by
  obtain ⟨b, rfl⟩ : ∃ b : Nat, j = b := ⟨j.toNat, by omega⟩
  exact cutD_to xs b
theorem cutD_sn (xs : List D) (h1 : 0 ≤ i) : VL.cutD xs (some i) none = xs.drop i.toNat := by
  obtain ⟨b, rfl⟩ : ∃ b : Nat, i = b := ⟨i.toNat, by omega⟩
  exact cutD_of xs b
theorem part_ok {f : Ev} {r r1 : Rho} {i : Int} {k : Option Int → Rho → EO} (h : f r = .ok (.val (.int i)) r1) : VL.part (some f) r k = k (some i) r1 := by
  show (f r).bd _ = _
  rw [h]
  rfl
theorem sl_ss (h : fa r = .ok x r1) (ho : opd r1 x = some (.node k o xs)) (hk : sq2 k = true) (f : Fzs xs xs') (h1 : fl r1 = .ok (.val (.int i)) r1) (h2 : fh r1 = .ok (.val (.int j)) r1) (t : touch r1 x = r2) (p1 : 0 ≤ i) (p2 : 0 ≤ j) : cSl fa (some fl) (some fh) r = .ok (.val (.node .lst true ((xs'.drop i.toNat).take (j.toNat - i.toNat)))) r2 := by
  rw [q_sl, h, bd_ok, part_ok h1, part_ok h2, q_gSl, ho]
  cases k <;> first | (cases hk; done) | (show EO.ok (.val (.node .lst true (VL.cutD (frzs xs) (some i) (some j)))) (touch r1 x) = _; rw [f.e, t, cutD_ss _ p1 p2])
theorem sl_ns (h : fa r = .ok x r1) (ho : opd r1 x = some (.node k o xs)) (hk : sq2 k = true) (f : Fzs xs xs') (h2 : fh r1 = .ok (.val (.int j)) r1) (t : touch r1 x = r2) (p2 : 0 ≤ j) : cSl fa none (some fh) r = .ok (.val (.node .lst true (xs'.take j.toNat))) r2 := by
  rw [q_sl, h, bd_ok, q_part0, part_ok h2, q_gSl, ho]
  cases k <;> first | (cases hk; done) | (show EO.ok (.val (.node .lst true (VL.cutD (frzs xs) none (some j)))) (touch r1 x) = _; rw [f.e, t, cutD_ns _ p2])
theorem sl_sn (h : fa r = .ok x r1) (ho : opd r1 x = some (.node k o xs)) (hk : sq2 k = true) (f : Fzs xs xs') (h1 : fl r1 = .ok (.val (.int i)) r1) (t : touch r1 x = r2) (p1 : 0 ≤ i) : cSl fa (some fl) none r = .ok (.val (.node .lst true (xs'.drop i.toNat))) r2 := by
  rw [q_sl, h, bd_ok, part_ok h1, q_part0, q_gSl, ho]
  cases k <;> first | (cases hk; done) | (show EO.ok (.val (.node .lst true (VL.cutD (frzs xs) (some i) none))) (touch r1 x) = _; rw [f.e, t, cutD_sn _ p1])
theorem pow_go {fb : Ev} {v : Int} (h1 : fa r = .ok (.val (.int i)) r1) (h2 : fb r1 = .ok (.val (.int j)) r2) (hp : powOk i j = true) (hv : i ^ j.toNat = v) : cBin gPow fa fb r = .ok (.val (.int v)) r2 := by
  rw [← hv]
  exact bin_ok h1 h2 (pow_ok i j hp r2)
theorem sum_go {ns : List Int} (h : fa r = .ok x r1) (ho : opd r1 x = some (.node .lst o (ns.map .int))) : cB (b1 VL.sumD) (cCons fa cNil) r = .ok (.val (.int ns.sum)) r1 := by
  refine b1_ok h ho ?_ rfl
  show (intsOf (ns.map D.int)).map _ = _
  rw [intsOf_map]; rfl
end
theorem lcL_all {α : Type} {enc g : α → D} {t : Tg} {fe : Ev} {vs : List Nat} {r0 : Rho} : ∀ (xs : List α) (acc : List D), acc.length + xs.length < 16777216 →
    (∀ a ∈ xs, ∃ r2, tgt t (enc a) r0 = some r2 ∧ ∃ r3, cSet fe r2 = .ok (.val (g a)) r3 ∧ wipeR r3 vs = r0) → lcL t none fe vs (xs.map enc) acc r0 = .ok (acc ++ xs.map g) r0
  | [], acc, _, _ => by simp [lcL]
  | a :: xs, acc, hl, hs => by
    simp only [List.length_cons] at hl
    obtain ⟨r2, e1, r3, e2, e3⟩ := hs a List.mem_cons_self
    rw [List.map_cons]
    unfold lcL
    rw [e1]
    show (match cSet fe r2 with | .ok (.val e) r3 => if acc.length < 16777216 then lcL t none fe vs (xs.map enc) (acc ++ [e]) (wipeR r3 vs) else .bad | _ => LO.bad) = _
    rw [e2]
    show (if acc.length < 16777216 then lcL t none fe vs (xs.map enc) (acc ++ [g a]) (wipeR r3 vs) else LO.bad) = _
    rw [if_pos (by omega), e3, lcL_all xs (acc ++ [g a]) (by rw [List.length_append, List.length_singleton]; omega) (fun x hx => hs x (List.mem_cons_of_mem _ hx)), List.append_assoc]
    rfl
theorem lc_all {α : Type} {enc g : α → D} {fi : Iv} {t : Tg} {fe : Ev} {vs : List Nat} {r r1 r0 : Rho} (xs : List α) (hi : fi r = .ok (xs.map enc) r1) (h0 : wipeR r1 vs = r0) (hl : xs.length < 16777216)
    (hs : ∀ a ∈ xs, ∃ r2, tgt t (enc a) r0 = some r2 ∧ ∃ r3, cSet fe r2 = .ok (.val (g a)) r3 ∧ wipeR r3 vs = r0) : cLc vs t fi none fe r = .ok (.val (.node .lst true (xs.map g))) (backR r1 r0 vs) := by
  rw [q_lc, hi]
  show (match lcL t none fe vs (xs.map enc) [] (wipeR r1 vs) with | .ok acc r2 => EO.ok (.val (.node .lst true acc)) (backR r1 r2 vs) | .bad => .bad) = _
  rw [h0, lcL_all xs [] (by simpa using hl) hs]
  rfl
end VH

namespace VL
open PySem PySem.Spec PyProof PyProof.Rows L2
section
variable {X : Cx}
end
section
variable {X : Cx} {G : GX} {C : Fc} {W : WX} {ow ow' : Ow} {r : Rho} {T T1 T2 : List (D × V)} {s : L2.St} {H H' : Hp} {fa fb fc : Ev}
end
end VL

namespace VH
open PySem PySem.Spec PyProof.Rows L2 VL
section
variable {fa fb fl fh : Ev} {fs : Av} {r r1 r2 r3 : Rho} {x : R} {d : D} {b : Bool} {i j : Int} {k : Kd} {o : Bool} {xs xs' : List D}
theorem isiC_go {c : Nat} {E : ETab} (h : fa r = .ok x r1) (ho : opd r1 x = some d) (hb : isi1 E d (.cls c) = some b) : cB (gIsi E) (cCons fa (cCons (cC (.cls c)) cNil)) r = .ok (.val (.bl b)) r1 := by
  rw [q_B, cons_ok h (cons_ok (cc_d _ _) (nil_ok r1)), q_abd1]
  show (match opd r1 x with | some d => (match isi1 E d (.cls c) with | some b => EO.ok (.val (.bl b)) r1 | none => .bad) | none => .bad) = _
  rw [ho]
  show (match isi1 E d (.cls c) with | some b => EO.ok (.val (.bl b)) r1 | none => .bad) = _
  rw [hb]
theorem it_rng3 {fc : Ev} {z : Int} (h : fa r = .ok (.val (.int i)) r1) (h2 : fb r1 = .ok (.val (.int j)) r2) (h3 : fc r2 = .ok (.val (.int z)) r3) (hc : (decide (z ≠ 0) && decide (z.natAbs < 1073741824) && Builtin.Range.small i j z) = true) : iRng rngI3 (cCons fa (cCons fb (cCons fc cNil))) r = .ok (rngD i z (turns i j z)) r3 := by
  rw [q_iRng, cons_ok h (cons_ok h2 (cons_ok h3 (nil_ok r3)))]
  show (if (decide (z ≠ 0) && decide (z.natAbs < 1073741824) && Builtin.Range.small i j z) = true then IO.ok (rngD i z (turns i j z)) r3 else .bad) = _
  rw [if_pos hc]
theorem try_go {tb : Nat → Option Bool} {f g : Sv} {c jj : Nat} (h : f r = .exc c r1) (ht : tb c = some true) (h0 : r1.set jj (some (.exc c)) = r2) (h2 : g r2 = .nx r3) {r4 : Rho} (h3 : r3.set jj none = r4) : cTry tb (some jj) f g r = .nx r4 := by
  rw [q_try, h]
  show (match tb c with | some true => inClause (some jj) (g (putE (some jj) c r1)) | some false => SO.exc c r1 | none => SO.bad) = _
  rw [ht]
  show inClause (some jj) (g (r1.set jj (some (.exc c)))) = _
  rw [h0, h2]
  show SO.nx (r3.set jj none) = _
  rw [h3]
theorem try_no {tb : Nat → Option Bool} {f g : Sv} {jj : Option Nat} (h : f r = .nx r1) : cTry tb jj f g r = .nx r1 := by
  rw [q_try, h]
end
end VH
namespace VH
open PySem PySem.Spec PyProof.Rows L2 VL
end VH
namespace VH
open PySem PySem.Spec PyProof.Rows L2 VL
theorem ixA_go {fa fb : Ev} {r r1 r2 : Rho} {x : R} {k : Kd} {o : Bool} {xs : List D} {n : Int} {d : D} (h : fa r = .ok x r1) (h2 : fb r1 = .ok (.val (.int n)) r2) (ho : opd r2 x = some (.node k o xs)) (hk : sq3 k = true) (hd : atI xs n = some d) (a : atom d = true) : cBin gIx fa fb r = .ok (.val d) r2 := by
  refine bin_ok h h2 ?_
  have z : gIx x (.val (.int n)) r2 = pick r2 x d := by
    rw [q_ix, ho]
    cases k <;> first | (cases hk; done) | (show (match atI xs n with | some d => pick r2 x d | none => EO.bad) = _; rw [hd])
  rw [z, q_pick, if_pos a]
theorem mulL_go {fa fb : Ev} {r r1 r2 : Rho} {o : Bool} {xs xs' : List D} {n : Int} (h : fa r = .ok (.val (.node .lst o xs)) r1) (h2 : fb r1 = .ok (.val (.int n)) r2) (f : Fzs xs xs') (h0 : 0 ≤ n) (h1 : n < 1000000) (hl : xs.length * n.toNat ≤ 16777216) : cBin gMul fa fb r = .ok (.val (.node .lst true (List.replicate n.toNat xs').flatten)) r2 := by
  refine bin_ok h h2 ?_
  rw [q_mulL ⟨h0, by omega, hl⟩, f.e]
end VH

namespace L2
open PySem PySem.Spec PyProof.Rows
section
variable {P : Program} {w : World} {A : Around} {E : Value → Shared → Prop} {s : Shared}
end
section
variable {X : Cx}
end
end L2
namespace VL
open PySem PySem.Spec PyProof.Rows L2
section
variable {X : Cx} {G : GX} {C : Fc} {W : WX} {ow ow' : Ow} {r : Rho} {T T1 T2 : List (D × V)} {s : L2.St} {H H' : Hp} {fa fb fc : Ev}
end
end VL

namespace L2
open PySem PySem.Spec PyProof.Rows
section
variable {X : Cx} {CX : CXT} {k : Nat} {f C : Addr} {fd : FuncData} {ps : List Str} {sp : Sp} {E : L2.St → XK} {x m : Str} {p pos apos : Pos} {e o : Expr} {es : List Expr} {ta : TE} {t : TA}
end
end L2
namespace VL
open PySem PySem.Spec PyProof.Rows L2
inductive NO where
  | ok (d0 : D) | exc (c : Nat) | bad
section
variable {P : Program} {w : World} {K : PySem.W.Frag} {mg : Str → Option Value} {base : Heap} {G : GX}
end
section
variable {X : Cx} {G : GX} {C : Fc} {W : WX} {ow ow' : Ow} {r : Rho} {T T1 T2 : List (D × V)} {s : L2.St} {H H' : Hp} {fa fo : Ev} {fs : Av}
theorem look_at {α β : Type} : ∀ (fs : List Str) (ds : List α) (f : Str) (d : α), (fs.zip ds).lookup f = some d → ∃ j : Nat, fs[j]? = some f ∧ ds[j]? = some d ∧ ∀ (ws : List β) (w : β), ws.length = ds.length → ws[j]? = some w → (fs.zip ws).lookup f = some w
  | [], _, _, _, h => by cases h
  | g :: fs, [], _, _, h => by cases h
  | g :: fs, e :: ds, f, d, h => by
    rw [List.zip_cons_cons, List.lookup_cons] at h
    by_cases hg : f = g
    · subst hg
      rw [beq_self_eq_true] at h
      cases h
      refine ⟨0, rfl, rfl, fun ws w hl hw => ?_⟩
      cases ws with
      | nil => cases hl
      | cons w' ws =>
        cases hw
        rw [List.zip_cons_cons, List.lookup_cons, beq_self_eq_true]
    · have hb : (f == g) = false := beq_eq_false_iff_ne.mpr hg
      rw [hb] at h
      obtain ⟨j, h1, h2, h3⟩ := look_at (β := β) fs ds f d h
      refine ⟨j + 1, h1, h2, fun ws w hl hw => ?_⟩
      cases ws with
      | nil => cases hl
      | cons w' ws =>
        rw [List.zip_cons_cons, List.lookup_cons, hb]
        exact h3 ws w (by simpa using hl) hw
variable {fb fd fk fz : Ev}
theorem StW.madeK {ks : List L2.Key} {ds : List D} {vs : List V} {l : Loc} {i : Nat} {Q : VK} (S : StW G C ow r T s H) (hk : ks.length = vs.length) (e : frzs ds = ds) (h : Reps G ow H ds l i vs) (hq : ∀ v H', Post G C r T s H' (.val (.node (.dK ks) true ds)) v → Q v H') :
    ∀ p, H p = none → Q (.ref p) (upd H p (.dK (ks.zip vs))) := fun p hp =>
  hq _ _ ⟨StOk.alloc true ⟨ow, S.pushFs e h⟩ h.length hp ⟨upd_same, hk⟩ (fun _ => trivial), trivial⟩
def gTupOf (x : R) (r : Rho) : EO := match opd r x with
  | some (.node .lst _ ds) => .ok (.val (.node .tup false (frzs ds))) (touch r x)
  | _ => .bad
def cTupOf (fa : Ev) : Ev := fun r => (fa r).bd gTupOf
theorem ve_tupOf {x : Str} {e : Expr} {p pos : Pos} (hg : Gl X x) (hm : X.mg x = none) (hb : bootBuiltins x = some (.type "tuple")) (ha : VE X G C W e fa) (hn : x ≠ "__name__" := by decide) (hdb : (x == ("__debug__" : Str)) = false := by decide)
    (hs : starEach [e] X.env = (false, eval e X.env) :: starEach [] X.env := by rfl) (hpl : (backTo pos (starEach [] X.env)).any (·.1) = false := by rfl) :
    VE X G C W (.Call (.Name x p) [e] [] pos) (cTupOf fa) := by
  refine PE.imp (pe_callTy call_tuple_of hg hm hb (pa_cons ha pa_nil hs) hn hdb hs hpl) fun s H Q h => ?_
  obtain ⟨r, T, S, g⟩ := h
  refine one S g fun x v r1 H1 P g1 => ?_
  obtain ⟨ow, S3⟩ := P.1
  unfold gTupOf at g1
  split at g1
  · rename_i o ds e1
    obtain ⟨ow', p, vs, S', ev, h1, rx, _⟩ := S3.parts P.2 e1
    subst ev
    exact ⟨p, vs, rfl, .inl ⟨SqL.of h1, S'.madeT (frzs_frzs ds) (rx ⟨.fo, []⟩) g1⟩⟩
  · exact g1.elim
end
end VL
namespace VH
open PySem PySem.Spec PyProof.Rows L2 VL
section
variable {fa fb fo fk fz fd : Ev} {fs : Av} {r r1 r2 r3 : Rho} {x : R} {d e : D}
theorem tupOf_go {o : Bool} {xs xs' : List D} (h : fa r = .ok x r1) (ho : opd r1 x = some (.node .lst o xs)) (f : Fzs xs xs') (t : touch r1 x = r2) : cTupOf fa r = .ok (.val (.node .tup false xs')) r2 := by
  unfold cTupOf
  rw [h]
  show gTupOf x r1 = _
  unfold gTupOf
  rw [ho]
  show EO.ok (R.val (.node .tup false (frzs xs))) (touch r1 x) = _
  rw [f.e, t]
end
end VH

namespace LamY
open PySem PySem.Spec PyProof.Rows L2 LamX
structure LamS1 (sc scope : Scope) (a : Str) : Prop where
  kind : scope.kind = .function
  co : scope.isCoroutine = false
  gen : scope.isGenerator = false
  par : scope.names.lookup a = some .local
  own : ∀ y ∈ scope.names, (y.2 = .local → y.1 = a) ∧ y.2 ≠ .cell
  free : ∀ y ∈ scope.names, y.2 = .free → sc.names.lookup y.1 = some .cell ∨ sc.names.lookup y.1 = some .free
theorem LamS1.has {X : Cx} {scope : Scope} {a : Str} (L : LamS1 X.env.scope scope a) (ok : X.Ok) : ∀ y ∈ scope.names, y.2 = .free → ∃ c, X.env.cells.lookup y.1 = some c := fun y hy e => by
  rcases L.free y hy e with k | k
  · exact ok.has _ (.inl k)
  · exact ok.has _ (.inr k)
section
variable {X : Cx} {pins : List (Addr × Obj)} {σ : L2.St} {H : Hp} {s : Shared}
end
end LamY

namespace LamY
open PySem PySem.Spec PySem.Calls PySem.W PyProof.Rows L2 LamX SrtO
section
variable {prog : Program} {w : World} {A : Around} {E : Value → Shared → Prop} {s : Shared} {a kS : Addr} {keys : Array Value} {e e1 : Nat} {P : PySem.Fin → Shared → Prop} {vs : List Value} {k : Value → List Int}
end
end LamY

namespace LamY
open PySem PySem.Spec PySem.Calls PySem.W PyProof.Rows L2 LamX SrtO
section
variable {X : Cx} {pins pins' : List (Addr × Obj)} {σ : L2.St} {H : Hp} {s : Shared}
end
section
variable {X : Cx} {pins : List (Addr × Obj)} {σ : L2.St} {H1 : Hp} {s : Shared}
end
end LamY

namespace LamY
open PySem PySem.Spec PySem.Calls PySem.W PyProof.Rows L2 LamX SrtO
section
variable {X : Cx} {pins : List (Addr × Obj)} {σ : L2.St} {H : Hp} {s : Shared}
end
end LamY

namespace LamY
open PySem PySem.Spec PySem.Calls PySem.W PyProof.Rows L2 LamX SrtO
section
variable {X : Cx} {pins : List (Addr × Obj)} {σ : L2.St} {H1 : Hp} {s : Shared}
end
end LamY
namespace VL
open PySem PySem.Spec PySem.Calls PySem.W PyProof.Rows L2 LamX LamY
section
variable {X : Cx} {G : GX} {C : Fc} {W : WX} {ow ow' : Ow} {r : Rho} {T T1 T2 : List (D × V)} {s : L2.St} {H H' : Hp} {fa fe fk : Ev}
end
end VL

namespace VL
open PySem PySem.Spec PyProof.Rows L2 LamX LamY
structure FunC (K : PySem.W.Frag) (x qual : Str) (st : Stmt) (f : Addr) (fd : FuncData) (cdv : Value) : Prop where
  ex : ∃ (oc : Value) (od : Option Addr) (kV doc pm : Value) (an : Option Addr) (ct : Value) (osl : Array (Option Value)),
    fd = PySem.W.fnOf x qual (defArgs st) (defBody st) (defScope st) .none kV doc pm an cdv ct ∧ K.lookup f = some ⟨oc, od, .func fd, osl⟩ ∧ PySem.W.codeIn K cdv qual = true
  kp : PySem.W.keepIn K (.ref f) = true
section
variable {P : Program} {w : World} {K : PySem.W.Frag} {mg : Str → Option Value} {base : Heap} {G : GX}
theorem FunC.fn {x qual : Str} {st : Stmt} {f : Addr} {fd : FuncData} {cdv : Value} (F : FunC K x qual st f fd cdv) : Fun K x qual st f fd := by
  obtain ⟨oc, od, kV, doc, pm, an, ct, osl, e, lk, hcd⟩ := F.ex
  exact ⟨⟨oc, od, kV, doc, pm, an, cdv, ct, osl, e, lk, hcd⟩, F.kp⟩
theorem FunC.okX {x qual : Str} {st : Stmt} {f : Addr} {fd : FuncData} {N ps : List Str} {k : Nat} {sp : Sp} {cdv : Value} (F : FunC K x qual st f fd cdv) (S : FnScope N ps (defScope st)) (len : ∀ vs H Q E, sp vs H Q E → vs.length = ps.length)
    (hbody : ∀ (A : Around) (outer : List Env) (s : Shared) (H : Hp) (vs : List V) (Q : VK) (E : XK), Room k (A.deeper (envOfC qual (defScope st) s.heap.objs.size f cdv)) → sp vs H Q E →
      ∃ t, PSs (cxOf (L2.CX P w) P w K mg base N qual (defScope st) f cdv A outer s H E) (defBody st) t ∧ t { nx := fun _ H' => Q .non H', rt := Q } (start N vs) H) : FnOk P w K mg base (L2.CX P w) (k + 1) f fd ps sp := by
  obtain ⟨oc, od, kV, doc, pm, an, ct, osl, rfl, lk, hcd⟩ := F.ex
  exact fn_of lk hcd S len fun A outer s H vs Q E hr hsp => hbody A outer s H vs Q E hr hsp
end
end VL

namespace VL
open PySem PySem.Spec PyProof.Rows L2
section
variable {X : Cx}
end
end VL

namespace VL
open PySem PySem.Spec PyProof.Rows L2
section
variable {X : Cx} {G : GX} {C : Fc} {W : WX} {ow : Ow} {r : Rho} {T : List (D × V)} {s : L2.St} {H : Hp} {fk f1 f2 ft : Ev}
end
end VL

namespace VL
open PySem PySem.Spec PyProof.Rows L2
section
variable {X : Cx} {G : GX} {C : Fc} {W : WX} {ow ow' : Ow} {r : Rho} {T T1 T2 : List (D × V)} {s : L2.St} {H H' : Hp} {fa : Ev}
end
end VL

namespace VL
open PySem PySem.Spec PyProof.Rows L2
section
variable {X : Cx} {G : GX} {C C' : Fc} {W : WX} {ow ow' : Ow} {r : Rho} {T T1 T2 : List (D × V)} {s : L2.St} {H H' : Hp} {fa fk : Ev}
def Fc.lk (C : Fc) (H : Hp) (ow : Ow) (i : Nat) (a : Addr) : Fc := ⟨H, fun b => ∃ l, ow b = some l ∧ l.b ≠ .fo ∧ b ≠ a, C.fo, (i, .ref a) :: (i, .ref a) :: C.pin⟩
mutual
theorem Rep.unlk {G : GX} {H H' : Hp} {ow ow' : Ow} {a : Addr} {od : Obj} {kvs : List (L2.Key × V)} (hne : ∀ b, b ≠ a → H' b = H b) (how : ∀ b, b ≠ a → ow' b = ow b) (ha : H a = some (.frz od (.dK kvs))) : ∀ (d : D) {l : Loc} {v : V}, Rep G ow H d l v → Rep G ow' H' d l v
  | .any, _, _, _ => trivial
  | .non, _, _, h => h
  | .bl _, _, _, h => h
  | .int _, _, _, h => h
  | .str _, _, _, h => h
  | .exc c, _, _, h => by
    obtain ⟨b, e, q⟩ := h
    have nb : b ≠ a := fun z => by subst z; rw [ha] at q; cases q
    exact ⟨b, e, by rw [hne b nb]; exact q⟩
  | .ty _, _, _, h => h
  | .cls _, _, _, h => h
  | .node k o xs, l, v, h => by
    obtain ⟨b, vs, ev, h1, h2, h3⟩ := h
    have h3' := Reps.unlk hne how ha xs h3
    cases k with
    | lst =>
      have h1 : H b = some (.lst vs) := h1
      have nb : b ≠ a := fun z => by subst z; rw [ha] at h1; cases h1
      exact ⟨b, vs, ev, (hne b nb).trans h1, by rw [how b nb]; exact h2, h3'⟩
    | tup =>
      have h1 : H b = some (.tup vs) := h1
      have nb : b ≠ a := fun z => by subst z; rw [ha] at h1; cases h1
      exact ⟨b, vs, ev, (hne b nb).trans h1, by rw [how b nb]; exact h2, h3'⟩
    | rd =>
      refine ⟨b, vs, ev, ?_, trivial, h3'⟩
      rcases h1 with ⟨o2, h1⟩ | h1
      · have nb : b ≠ a := fun z => by subst z; rw [ha] at h1; cases h1
        exact .inl ⟨o2, (hne b nb).trans h1⟩
      · exact .inr h1
    | dK ks =>
      obtain ⟨h1, h4⟩ : H b = some (.dK (ks.zip vs)) ∧ ks.length = vs.length := h1
      have nb : b ≠ a := fun z => by subst z; rw [ha] at h1; cases h1
      exact ⟨b, vs, ev, ⟨(hne b nb).trans h1, h4⟩, by rw [how b nb]; exact h2, h3'⟩
    | dT ks =>
      obtain ⟨h1, h4⟩ : H b = some (.dT (ks.zip vs)) ∧ ks.length = vs.length := h1
      have nb : b ≠ a := fun z => by subst z; rw [ha] at h1; cases h1
      exact ⟨b, vs, ev, ⟨(hne b nb).trans h1, h4⟩, by rw [how b nb]; exact h2, h3'⟩
    | ins c fs =>
      obtain ⟨⟨dx, h1⟩, h4⟩ : (∃ dx, H b = some (.ins (G c) dx (fs.zip vs))) ∧ fs.length = vs.length := h1
      have nb : b ≠ a := fun z => by subst z; rw [ha] at h1; cases h1
      exact ⟨b, vs, ev, ⟨⟨dx, (hne b nb).trans h1⟩, h4⟩, by rw [how b nb]; exact h2, h3'⟩
theorem Reps.unlk {G : GX} {H H' : Hp} {ow ow' : Ow} {a : Addr} {od : Obj} {kvs : List (L2.Key × V)} (hne : ∀ b, b ≠ a → H' b = H b) (how : ∀ b, b ≠ a → ow' b = ow b) (ha : H a = some (.frz od (.dK kvs))) : ∀ (ds : List D) {l : Loc} {i : Nat} {vs : List V}, Reps G ow H ds l i vs → Reps G ow' H' ds l i vs
  | [], _, _, _, h => h
  | d :: ds, _, _, _, h => by
    obtain ⟨v, ws, e, h1, h2⟩ := h
    exact ⟨v, ws, e, Rep.unlk hne how ha d h1, Reps.unlk hne how ha ds h2⟩
end
end
end VL

namespace VL
open PySem PySem.Spec PyProof.Rows L2
def prOf : D → Option (Int × Int)
  | .node .tup _ [.int a, .int b] => some (a, b)
  | _ => none
def prsOf : List D → Option (List (Int × Int))
  | [] => some []
  | d :: ds => match prOf d, prsOf ds with
    | some p, some ps => some (p :: ps)
    | _, _ => none
theorem prsOf_map : ∀ ps : List (Int × Int), prsOf (ps.map pairD) = some ps
  | [] => rfl
  | p :: ps => by
    show (match prOf (pairD p), prsOf (ps.map pairD) with | some p, some ps => some (p :: ps) | _, _ => none) = _
    rw [prsOf_map ps]
    rfl
def gSortedP : List R → Rho → EO := fun xs r => match xs with
  | [x] => (match opd r x with
    | some (.node .lst _ ds) => (match prsOf ds with
      | some ps => .ok (.val (.node .lst true ((srtP ps).map pairD))) (touch r x)
      | none => .bad)
    | _ => .bad)
  | _ => .bad
def kPr (H : Hp) (v : V) : Int × Int := match v with
  | .ref t => (match H t with
    | some (.tup [.int a, .int b]) => (a, b)
    | _ => (0, 0))
  | _ => (0, 0)
theorem kPr_of {H : Hp} {t : Addr} {p : Int × Int} (h : H t = some (.tup [.int p.1, .int p.2])) : kPr H (.ref t) = p := by
  unfold kPr
  simp only [h]
theorem prOf_eq {d : D} {p : Int × Int} (h : prOf d = some p) : ∃ o, d = .node .tup o [.int p.1, .int p.2] := by
  unfold prOf at h
  split at h
  · cases h; exact ⟨_, rfl⟩
  · cases h
section
variable {X : Cx} {G : GX} {C C' : Fc} {W : WX} {ow ow' : Ow} {r : Rho} {T T1 T2 : List (D × V)} {s : L2.St} {H H' : Hp} {fa fk : Ev}
theorem prs_rep : ∀ {ds : List D} {ps : List (Int × Int)} {l : VL.Loc} {i : Nat} {ws : List V}, prsOf ds = some ps → Reps G ow H (frzs ds) l i ws → ∃ zs : List (Addr × Int × Int), zs.map (·.2) = ps ∧ ws = zs.map (fun z => V.ref z.1) ∧ ∀ z ∈ zs, H z.1 = some (.tup [.int z.2.1, .int z.2.2]) ∧ ow z.1 = none
  | [], ps, l, i, ws, e, h => by
    cases e
    exact ⟨[], rfl, h, fun z hz => nomatch hz⟩
  | d :: ds, ps, l, i, ws, e, h => by
    unfold prsOf at e
    split at e
    · rename_i p ps' e1 e2
      cases e
      obtain ⟨o, ed⟩ := prOf_eq e1
      subst ed
      obtain ⟨v, ws', ev, h1, h2⟩ := h
      obtain ⟨zs, z1, z2, z3⟩ := prs_rep e2 h2
      obtain ⟨a, us, ea, hA, oA, rA⟩ := h1
      obtain ⟨v1, u1, e3, r1, rA⟩ := rA
      obtain ⟨v2, u2, e4, r2, rA⟩ := rA
      have e5 : u2 = [] := rA
      have r1 : v1 = .int p.1 := r1
      have r2 : v2 = .int p.2 := r2
      subst e5 e4 e3 r1 r2
      exact ⟨(a, p) :: zs, by rw [List.map_cons, z1], by rw [ev, ea, z2]; rfl, fun z hz => by
        rcases List.mem_cons.mp hz with e | e
        · rw [e]; exact ⟨hA, oA⟩
        · exact z3 z e⟩
    · cases e
theorem cs_sortedP : CallS X (.builtin "sorted") gSortedP := by
  refine ⟨_, cr_sortedPO, fun G hG C W r T s H xs vs Q S l q => ?_⟩
  unfold gSortedP at q
  split at q
  · rename_i x
    obtain ⟨v, ev, lx, ep⟩ := one_arg l
    rw [ep] at S
    subst ev
    obtain ⟨ow, S⟩ := S
    split at q
    · rename_i o ds e1
      split at q
      · rename_i ps e2
        obtain ⟨ow', a, ws, S', ea, h1, rx, _⟩ := StW.parts S lx e1
        subst ea
        obtain ⟨zs, z1, z2, z3⟩ := prs_rep e2 (rx ⟨.fo, []⟩)
        have ek : ∀ z ∈ zs, kPr H (.ref z.1) = z.2 := fun z hz => kPr_of (z3 z hz).1
        refine ⟨a, ws, kPr H, rfl, SqL.of h1, fun x hx => ?_, fun ys p hs hp hn => ?_⟩
        · rw [z2] at hx
          obtain ⟨z, hz, rfl⟩ := List.mem_map.mp hx
          exact ⟨z.1, rfl, by rw [ek z hz]; exact (z3 z hz).1⟩
        · have hpm := hp.perm
          have eps : ws.map (kPr H) = ps := by
            rw [z2, List.map_map, ← z1]
            exact List.map_congr_left fun z hz => ek z hz
          have es : ys.map (kPr H) = srtP ps := by
            refine upP_unique ((hpm.map (kPr H)).trans ?_) (List.pairwise_map.mpr (hs.imp fun {u w} y => leP_lexB.mp y)) (srtP_up ps)
            rw [eps]
            exact (srtP_perm ps).symm
          rw [← es] at q
          have hys : ∀ y ∈ ys, ∃ z ∈ zs, y = V.ref z.1 := fun y hy => by
            have := hpm.mem_iff.mp hy
            rw [z2] at this
            obtain ⟨z, hz, e⟩ := List.mem_map.mp this
            exact ⟨z, hz, e.symm⟩
          have rep : ∀ (ys : List V) (l : VL.Loc) (i : Nat), (∀ y ∈ ys, ∃ z ∈ zs, y = V.ref z.1) → Reps G ow' H ((ys.map (kPr H)).map pairD) l i ys := fun ys => by
            induction ys with
            | nil => exact fun _ _ _ => rfl
            | cons y ys ih =>
              intro l i hy
              obtain ⟨z, hz, e⟩ := hy y List.mem_cons_self
              refine ⟨_, _, rfl, ?_, ih l (i + 1) fun w hw => hy w (List.mem_cons_of_mem _ hw)⟩
              subst e
              rw [ek z hz]
              exact ⟨z.1, _, rfl, (z3 z hz).1, (z3 z hz).2, _, _, rfl, rfl, _, _, rfl, rfl, rfl⟩
          exact S'.made (l := ⟨.fo, []⟩) (i := 0) (frzs_pairs _) (rep ys _ _ hys) q p hn
      · exact q.elim
    · exact q.elim
  · exact q.elim
end
theorem sortedP_ok {fa : Ev} {r r1 : Rho} {o : Bool} {ps : List (Int × Int)} (h : fa r = .ok (.val (.node .lst o (ps.map pairD))) r1) : cB gSortedP (cCons fa cNil) r = .ok (.val (.node .lst true ((srtP ps).map pairD))) r1 := by
  rw [q_B, q_cons, h]
  show (match prsOf (ps.map pairD) with | some ps => EO.ok (.val (.node .lst true ((srtP ps).map pairD))) r1 | none => .bad) = _
  rw [prsOf_map]
section
variable {X : Cx} {G : GX} {C C' : Fc} {W : WX} {ow ow' : Ow} {r : Rho} {T T1 T2 : List (D × V)} {s : L2.St} {H H' : Hp} {fa fk : Ev}
end
end VL

namespace VL
open PySem PySem.Spec PyProof.Rows L2
section
variable {X : Cx} {G : GX} {C C' : Fc} {W : WX} {ow ow' : Ow} {r : Rho} {T T1 T2 : List (D × V)} {s : L2.St} {H H' : Hp} {fa fk : Ev}
def gSlV (x : R) (lo hi : Option Int) (r : Rho) : EO := match x with
  | .val (.node .lst true xs) => .ok (.val (.node .lst true (cutD xs lo hi))) r
  | _ => .bad
def cSlV (fa : Ev) (lo hi : Option Ev) : Ev := fun r => (fa r).bd fun x r1 => part lo r1 fun l r2 => part hi r2 fun h r3 => gSlV x l h r3
theorem zip_get {α β : Type} {xs : List α} {ys : List β} {i : Nat} {p : α × β} : (xs.zip ys)[i]? = some p ↔ xs[i]? = some p.1 ∧ ys[i]? = some p.2 := by
  rw [List.getElem?_zip_eq_some]
theorem cut_get {α : Type} {xs : List α} {a b j : Nat} {x : α} (h : ((xs.drop a).take b)[j]? = some x) : j < b ∧ xs[a + j]? = some x := by
  have hj : j < b := by
    have := (List.getElem?_eq_some_iff.mp h).1
    simp at this; omega
  rw [List.getElem?_take_of_lt hj, List.getElem?_drop] at h
  exact ⟨hj, h⟩
theorem ve_sliceV {a : Expr} {lo hi : Option Expr} {flo fhi : Option Ev} {p2 pos : Pos} (ha : VE X G C W a fa) (hl : VO X G C W lo flo) (hh : VO X G C W hi fhi) : VE X G C W (.Subscript a (.Slice lo hi none p2) pos) (cSlV fa flo fhi) := by
  obtain ⟨tl, l1, l2⟩ := hl
  obtain ⟨th, h1, h2⟩ := hh
  refine PE.imp (pe_slice (sl_list.or sl_tupA) ha l1 h1) fun s H Q h => ?_
  obtain ⟨r, T, S, g⟩ := h
  refine one S g fun x v r1 H1 P g1 => ?_
  refine l2 r1 T (pushR x v) s H1 _ _ _ P.1 g1 fun lo' r2 H2 S2 g2 => ?_
  refine h2 r2 T (pushR x v) s H2 _ _ _ S2 g2 fun hi' r3 H3 S3 g3 => ?_
  unfold gSlV at g3
  split at g3
  · rename_i xs
    obtain ⟨ow, S3⟩ := S3
    have S3 : StW G C ow r3 (T ++ [(.node .lst true xs, v)]) s H3 := S3
    obtain ⟨p, vs, ev, hH, hlen, S'⟩ := S3.spread
    subst ev
    refine .inl ⟨p, vs, rfl, SqL.of hH, fun q hq => ?_⟩
    refine g3 _ _ ⟨StOk.alloc (k := .lst) (ho := .lst (cutV vs lo' hi')) (ds := cutD xs lo' hi') (vs := cutV vs lo' hi') true ⟨permT (VL.spread ow T.length) (fun i => if i < T.length then i else if i < T.length + HT.sIx xs.length 0 lo' then i + 1000000000000 + xs.length else i - HT.sIx xs.length 0 lo'), ?_⟩ ?_ hq holds_lst (fun _ => trivial), trivial⟩
    · refine S'.perm fun j pr q => ?_
      by_cases hj : j < T.length
      · refine ⟨j, ?_, if_pos hj⟩
        rw [List.getElem?_append_left hj] at q ⊢
        exact q
      · rw [List.getElem?_append_right (by omega)] at q
        obtain ⟨q1, q2⟩ := zip_get.mp q
        unfold cutD at q1
        unfold cutV at q2
        rw [← hlen] at q2
        obtain ⟨_, q1⟩ := cut_get q1
        obtain ⟨_, q2⟩ := cut_get q2
        refine ⟨j + HT.sIx xs.length 0 lo', ?_, ?_⟩
        · rw [List.getElem?_append_right (by omega)]
          refine zip_get.mpr ⟨?_, ?_⟩
          · rw [← q1]; congr 1; omega
          · rw [← q2]; congr 1; omega
        · show (if j + _ < T.length then _ else if j + _ < T.length + _ then _ else _) = j
          rw [if_neg (by omega), if_neg (by omega)]; omega
    · unfold cutD cutV
      rw [← hlen, List.length_take, List.length_take, List.length_drop, List.length_drop, hlen]
  · exact g3.elim
end
end VL

namespace VL
open PySem PySem.Spec PyProof.Rows L2
section
variable {X : Cx} {G : GX} {C C' : Fc} {W : WX} {ow ow' : Ow} {r : Rho} {T T1 T2 : List (D × V)} {s : L2.St} {H H' : Hp} {fa fb fc fk fv : Ev} {fs : Av} {f g : Sv}
structure DOk (q : List L2.Key × List D) : Prop where
  nd : q.1.Nodup
  ln : q.1.length = q.2.length
  sc : q.2.all scal = true
end
end VL

namespace VL
open PySem PySem.Spec PyProof.Rows L2
abbrev LK := List Int × Int
theorem intsAre_eq : ∀ {vs : List Value} {ns ms : List Int}, IntsAre vs ns → IntsAre vs ms → ns = ms
  | _, _, _, .nil, .nil => rfl
  | _, _, _, .cons n t r, .cons _ _ r2 => by rw [intsAre_eq r r2]
def IsTl (h : Heap) (v : Value) (p : LK) : Prop := ∃ (a : Addr) (o : Obj) (u : Value) (t : Tok) (n : Nat), v = .ref a ∧ h.get? a = some o ∧ o.cls = .type "tuple" ∧ o.data = .seq #[u, .int p.2 t] n ∧ IsIl h u p.1
theorem IsTl.keeps {h h' : Heap} {v : Value} {p : LK} (x : IsTl h v p) (k : ∀ b o, h.get? b = some o → (o.cls = .type "tuple" ∨ ∃ ns, IsIl h (.ref b) ns) → h'.get? b = some o) : IsTl h' v p := by
  obtain ⟨a, o, u, t, n, e, ho, hc, hd, hi⟩ := x
  refine ⟨a, o, u, t, n, e, k _ _ ho (.inl hc), hc, hd, hi.keeps fun b o' e' g => k b o' g (.inr ⟨_, e' ▸ hi⟩)⟩
section
variable {prog : Program} {w : World} {A : Around} {E : Value → Shared → Prop} {s : Shared}
theorem eq_il {v u : Value} {ns ms : List Int} (hu : A.units < cLine) (hv : IsIl s.heap v ns) (hw : IsIl s.heap u ms) : PySem.SeqAt.EqAt A s v u (decide (ns = ms)) := by
  obtain ⟨a, items, n, rfl, ga, ia⟩ := hv
  obtain ⟨b, items2, n2, rfl, gb, ib⟩ := hw
  by_cases hab : a = b
  · subst hab
    have e : items = items2 := by
      rw [ga] at gb
      have := Option.some.inj gb
      unfold seqObj at this
      injection this with _ _ q
      injection q with q
      exact congrArg Array.toList q
    subst e
    rw [decide_eq_true (intsAre_eq ia ib)]
    exact PySem.SeqAt.EqAt.same _
  · have la : s.heap.IsList a items.toArray := ⟨_, ga, rfl, n, rfl⟩
    have lb : s.heap.IsList b items2.toArray := ⟨_, gb, rfl, n2, rfl⟩
    have l1 := ia.length
    have l2 := ib.length
    refine PySem.SeqAt.EqAt.of_refs hab ?_
    by_cases hl : items.length = items2.length
    · have r := PySem.SeqAt.RcAt.lists (A := A) (s := s) (e := fun j => decide (ns.getD j 0 = ms.getD j 0)) la lb (by simpa using hl) hu (fun j h1 h2 => by
        obtain ⟨t, e1⟩ := ints_get ia (j := j) (v := items.toArray[j]) (by rw [List.getElem_toArray]; exact List.getElem?_eq_getElem _)
        obtain ⟨t2, e2⟩ := ints_get ib (j := j) (v := items2.toArray[j]) (by rw [List.getElem_toArray]; exact List.getElem?_eq_getElem _)
        rw [e1, e2]
        exact PySem.SeqAt.EqAt.int_int _ t _ t2)
      have e : (List.range items.toArray.size).all (fun j => decide (ns.getD j 0 = ms.getD j 0)) = decide (ns = ms) := by
        rw [List.size_toArray, l1]
        by_cases hn : ns = ms
        · subst hn
          rw [decide_eq_true rfl, List.all_eq_true]
          intro j _
          exact decide_eq_true rfl
        · rw [decide_eq_false hn, List.all_eq_false]
          refine Classical.byContradiction fun hc => hn ?_
          refine List.ext_getElem (by omega) fun j h1 h2 => ?_
          refine Classical.byContradiction fun hj => hc ⟨j, List.mem_range.mpr h1, ?_⟩
          simp only [List.getD_eq_getElem?_getD, List.getElem?_eq_getElem h1, List.getElem?_eq_getElem h2, Option.getD_some, decide_eq_true_eq]
          exact hj
      rw [e] at r
      exact r
    · have r := PySem.SeqAt.RcAt.lists_lengths (A := A) (s := s) la lb (by simpa using hl) hu
      rw [decide_eq_false (fun e : ns = ms => hl (by rw [l1, l2, e]))]
      exact r
end
section
variable {X : Cx} {G : GX} {C : Fc} {W : WX} {ow ow' : Ow} {r : Rho} {T T1 T2 : List (D × V)} {s : L2.St} {H H' : Hp}
end
end VL

namespace VL
open PySem PySem.Spec PyProof.Rows L2
section
variable {X : Cx} {G : GX} {C C' : Fc} {W : WX} {ow ow' : Ow} {r : Rho} {T T1 T2 : List (D × V)} {s : L2.St} {H H' : Hp} {fa fb fc fk : Ev} {fs : Av} {f g : Sv} {i j n : Nat}
def HbOk (G : GX) (C : Fc) (i j n : Nat) (r : Rho) (T : List (D × V)) (s : L2.St) (H : Hp) : Prop :=
  StOk G C r T s H ∧ ∃ (a : Addr) (vs : List V) (v : V), s[i]? = some (some (.ref a)) ∧ H a = some (.lst vs) ∧ vs[n]? = some v ∧ s[j]? = some (some v)
theorem HbOk.fin {ds2 : List D} {d2 : D} (h : HbOk G C i j n r T s H) (hij : i ≠ j) (q : r[i]? = some (some (.node .lst true ds2))) (q2 : r[j]? = some (some d2)) : StOk G C ((r.set j (some .any)).set i (some (.node .lst true (ds2.set n d2)))) T s H := by
  obtain ⟨⟨ow, S⟩, a, vs, v, v1, hA, hn, hj⟩ := h
  obtain ⟨v', z1, S2⟩ := S.pull q2
  rw [hj] at z1
  cases z1
  exact ⟨_, S2.giveBack (k := .lst) (o := true) (by rw [List.getElem?_set_ne (Ne.symm hij)]; exact q) v1 (fun z => nomatch z) hA hn (fun us h2 => by
    have h2 : H a = some (.lst us) := h2
    rw [hA] at h2
    injection h2 with h2; injection h2 with h2; exact h2.symm)⟩
end
end VL

namespace VL
open PySem PySem.Spec PyProof.Rows L2
section
variable {X : Cx} {G : GX} {C C' : Fc} {W : WX} {ow ow' : Ow} {r : Rho} {T T1 T2 : List (D × V)} {s : L2.St} {H H' : Hp} {fa fb fc fk fo : Ev} {fs : Av} {f g : Sv} {i j n : Nat}
end
end VL

namespace VL
open PySem PySem.Spec PyProof.Rows L2
def keysD : List D → Option (List L2.Key)
  | [] => some []
  | x :: xs => match keyD x, keysD xs with
    | some k, some ks => some (k :: ks)
    | _, _ => none
def keyT : D → Option (List L2.Key)
  | .node .tup _ xs => keysD xs
  | _ => none
theorem keysD_rep {G : GX} {ow : Ow} {H : Hp} : ∀ {xs : List D} {l : Loc} {i : Nat} {ks : List L2.Key} {vs : List V}, keysD xs = some ks → Reps G ow H xs l i vs → vs = ks.map kV
  | [], l, i, ks, vs, e, h => by cases e; exact h
  | x :: xs, l, i, ks, vs, e, h => by
    obtain ⟨v, ws, rfl, h1, h2⟩ := h
    unfold keysD at e
    cases e1 : keyD x with
    | none => rw [e1] at e; cases e
    | some k =>
      cases e2 : keysD xs with
      | none => rw [e1, e2] at e; cases e
      | some ks2 =>
        rw [e1, e2] at e
        cases e
        rw [keyD_rep e1 h1, keysD_rep e2 h2]
        rfl
theorem keyT_rep {G : GX} {ow : Ow} {H : Hp} {d : D} {l : Loc} {u : V} {k : List L2.Key} (e : keyT d = some k) (h : Rep G ow H d l u) : ∃ b, u = .ref b ∧ H b = some (.tup (k.map kV)) := by
  unfold keyT at e
  split at e
  · rename_i o xs
    obtain ⟨a, vs, eu, h1, _, h3⟩ := h
    have h1 : H a = some (.tup vs) := h1
    exact ⟨a, eu, by rw [h1, keysD_rep e h3]⟩
  · cases e
def dixT (ks : List (List L2.Key)) (k : (List L2.Key)) : Option Nat := ks.findIdx? fun x => decide (x = k)
theorem dixT_cons (x : (List L2.Key)) (ks : List (List L2.Key)) (k : (List L2.Key)) : dixT (x :: ks) k = if x = k then some 0 else (dixT ks k).map (· + 1) := by
  unfold dixT
  rw [List.findIdx?_cons]
  by_cases h : x = k
  · rw [decide_eq_true h, if_pos h]; rfl
  · rw [decide_eq_false h, if_neg h]
    rfl
theorem valV_zipT (k : (List L2.Key)) : ∀ {ks : List (List L2.Key)} {vs : List V}, ks.length = vs.length → valV (ks.zip vs) k = (dixT ks k).bind fun j => vs[j]?
  | [], _, _ => rfl
  | x :: ks, [], h => by simp at h
  | x :: ks, v :: vs, h => by
    rw [dixT_cons]
    show valV ((x, v) :: ks.zip vs) k = _
    by_cases e : x = k
    · rw [valV_pos (p := (x, v)) e, if_pos e]; rfl
    · rw [valV_neg (p := (x, v)) e, if_neg e, valV_zipT k (by simpa using h)]
      cases dixT ks k <;> rfl
theorem dixT_lt {ks : List (List L2.Key)} {k : (List L2.Key)} {j : Nat} (h : dixT ks k = some j) : j < ks.length ∧ ks[j]? = some k := by
  unfold dixT at h
  rw [List.findIdx?_eq_some_iff_getElem] at h
  obtain ⟨h1, h2, _⟩ := h
  exact ⟨h1, by rw [List.getElem?_eq_getElem h1, of_decide_eq_true h2]⟩
theorem dixT_none {ks : List (List L2.Key)} {k : (List L2.Key)} : dixT ks k = none ↔ k ∉ ks := by
  unfold dixT
  rw [List.findIdx?_eq_none_iff]
  exact ⟨fun h m => by have := h k m; simp at this, fun h x hx => decide_eq_false fun e => h (e ▸ hx)⟩
theorem map_offT {β : Type} (k : (List L2.Key)) (v : β) : ∀ (kvs : List ((List L2.Key) × β)), k ∉ kvs.map (·.1) → (kvs.map fun kv => if kv.1 = k then (kv.1, v) else kv) = kvs
  | [], _ => rfl
  | p :: r, h => by
    rw [List.map_cons] at h ⊢
    rw [if_neg (fun e => h (by rw [← e]; exact List.mem_cons_self)), map_offT k v r (fun m => h (List.mem_cons_of_mem _ m))]
theorem zip_fstT {β : Type} : ∀ {ks : List (List L2.Key)} {vs : List β}, ks.length = vs.length → (ks.zip vs).map (·.1) = ks
  | [], _, _ => rfl
  | _ :: _, [], h => by simp at h
  | k :: ks, v :: vs, h => by
    show k :: (ks.zip vs).map (·.1) = k :: ks
    rw [zip_fstT (by simpa using h)]
theorem putK_atT (k : (List L2.Key)) (v : V) : ∀ {ks : List (List L2.Key)} {vs : List V} {j : Nat}, ks.length = vs.length → ks.Nodup → dixT ks k = some j → ((ks.zip vs).map fun kv => if kv.1 = k then (kv.1, v) else kv) = ks.zip (vs.set j v)
  | [], _, _, _, _, h => by cases h
  | x :: ks, [], _, h, _, _ => by simp at h
  | x :: ks, u :: vs, j, hl, hn, h => by
    rw [dixT_cons] at h
    have hl' : ks.length = vs.length := by simpa using hl
    by_cases e : x = k
    · rw [if_pos e] at h
      cases h
      show (if x = k then (x, v) else (x, u)) :: (ks.zip vs).map _ = (x, v) :: ks.zip vs
      rw [if_pos e, map_offT k v _ (by rw [zip_fstT hl', ← e]; exact (List.nodup_cons.mp hn).1)]
    · rw [if_neg e] at h
      cases e2 : dixT ks k with
      | none => rw [e2] at h; cases h
      | some i =>
        rw [e2] at h
        cases h
        show (if x = k then (x, v) else (x, u)) :: (ks.zip vs).map _ = (x, u) :: ks.zip (vs.set i v)
        rw [if_neg e, putK_atT k v hl' (List.nodup_cons.mp hn).2 e2]
theorem put_someT {k : (List L2.Key)} {v : V} {ks : List (List L2.Key)} {vs : List V} {j : Nat} (hl : ks.length = vs.length) (hn : ks.Nodup) (h : dixT ks k = some j) : putK (ks.zip vs) k v = ks.zip (vs.set j v) := by
  unfold putK
  rw [if_pos (by rw [valV_any, valV_zipT k hl, h]; show (vs[j]?).isSome = true; rw [List.getElem?_eq_getElem (by have := (dixT_lt h).1; omega)]; rfl)]
  exact putK_atT k v hl hn h
theorem put_noneT {k : (List L2.Key)} {v : V} {ks : List (List L2.Key)} {vs : List V} (hl : ks.length = vs.length) (h : dixT ks k = none) : putK (ks.zip vs) k v = (ks ++ [k]).zip (vs ++ [v]) := by
  rw [putK_new v (by rw [valV_zipT k hl, h]; rfl), List.zip_append hl]
  rfl
def cTNew : Ev := fun r => .ok (.val (.node (.dT []) true [])) r
def dgetT : G2 := fun x y r => match opd r x, opd r y with
  | some (.node (.dT ks) _ xs), some e => (match (keyT e).bind (dixT ks) with
    | some j => (match xs[j]? with
      | some d => pick r x d
      | none => .bad)
    | none => .bad)
  | _, _ => .bad
def gTNotIn : G2 := fun x y r => match opd r x, opd r y with
  | some e, some (.node (.dT ks) _ _) => (match keyT e with
    | some k => .ok (.val (.bl (!(dixT ks k).isSome))) r
    | none => .bad)
  | _, _ => .bad
section
variable {X : Cx} {G : GX} {C : Fc} {W : WX} {ow ow' : Ow} {r : Rho} {T T1 T2 : List (D × V)} {s : L2.St} {H H' : Hp} {fa fb fc fk : Ev} {f g : Sv} {fs : Av}
theorem ve_tnew {pos : Pos} : VE X G C W (.Dict [] [] pos) cTNew := by
  refine PE.imp pe_dnewT fun s H Q h => ?_
  obtain ⟨r, T, S, g⟩ := h
  have g : Goes G C W T s Q (.ok (.val (.node (.dT []) true [])) r) := g
  intro p hp
  exact g _ _ ⟨StOk.alloc (ds := []) (vs := []) true (by simpa using S) rfl hp (show Holds G _ p (.dT []) [] from ⟨upd_same, rfl⟩) (fun _ => trivial), trivial⟩
theorem ve_tget {a b : Expr} {pos : Pos} (hu : X.A.units + 1 < cLine) (ha : VE X G C W a fa) (hb : VE X G C W b fb) (hs : NoSl b) : VE X G C W (.Subscript a b pos) (cBin dgetT fa fb) := by
  refine PE.imp (pe_dget hu ha hb hs) fun s H Q h => ?_
  obtain ⟨r, T, S, g⟩ := h
  refine two S g fun x y v u r2 H2 S2 lx ly q => ?_
  obtain ⟨ow, S2⟩ := S2
  unfold dgetT at q
  split at q
  · rename_i ks o xs e e1 e2
    split at q
    · rename_i j ej
      split at q
      · rename_i d ed
        cases ek : keyT e with
        | none => rw [ek] at ej; cases ej
        | some k =>
          rw [ek] at ej
          have ej : dixT ks k = some j := ej
          obtain ⟨bk, eu, hb⟩ := keyT_rep ek (opd_rep (T := T ++ pushR x v) (T2 := []) (by rw [List.append_nil, List.append_assoc]; exact S2) ly e2)
          obtain ⟨p, vs, w, ev, h1, hl, h2, h3⟩ := pick_okJ S2 lx e1 ed q
          subst ev
          obtain ⟨h1, hkl⟩ : H2 p = some (.dT (ks.zip vs)) ∧ ks.length = vs.length := h1
          refine ⟨p, w, rfl, ?_, h3⟩
          have dg := DGet.t (k := k) h1 hb
          rw [valV_zipT k hkl, ej] at dg
          show DGet H2 p u (some w)
          rw [eu]
          have e3 : (some j).bind (fun j => vs[j]?) = some w := h2
          rw [e3] at dg
          exact dg
      · exact q.elim
    · exact q.elim
  · exact q.elim
theorem tin_go {x y : R} {v u : V} {e : D} {ks : List (List L2.Key)} {o : Bool} {xs : List D} {k : (List L2.Key)} (S : StW G C ow r (T ++ (pushR x v ++ pushR y u)) s H) (lx : LocOk s v x) (ly : LocOk s u y) (e1 : opd r x = some e) (e2 : opd r y = some (.node (.dT ks) o xs)) (ek : keyT e = some k) :
    ∃ a ov, u = .ref a ∧ DGet H a v ov ∧ ov.isSome = (dixT ks k).isSome := by
  obtain ⟨bk, ev, hb⟩ := keyT_rep ek (opd_rep S lx e1)
  obtain ⟨a, vs, eu, h1, h2, h3⟩ := opd_rep (T := T ++ pushR x v) (T2 := []) (by rw [List.append_nil, List.append_assoc]; exact S) ly e2
  obtain ⟨h1, hkl⟩ : H a = some (.dT (ks.zip vs)) ∧ ks.length = vs.length := h1
  refine ⟨a, valV (ks.zip vs) k, eu, by rw [ev]; exact DGet.t h1 hb, ?_⟩
  rw [valV_zipT k hkl]
  cases e : dixT ks k with
  | none => rfl
  | some j =>
    show (vs[j]?).isSome = true
    rw [List.getElem?_eq_getElem (by have := (dixT_lt e).1; omega)]
    rfl
theorem vt_tnin {a b : Expr} {pos : Pos} (hu : X.A.units + 1 < cLine) (ha : VE X G C W a fa) (hb : VE X G C W b fb) (hm : behindInMarks .NotIn b = false := by rfl) : VT X G C W (.Compare a [.NotIn] [b] pos) (cBin gTNotIn fa fb) := by
  refine PT.imp (pt_cmp (pc_dnotin hu ha hb) hm) fun s H Q h => ?_
  have z := tV_bl h
  obtain ⟨r, T, S, g⟩ := z
  refine two S g fun x y v u r2 H2 S2 lx ly q => ?_
  obtain ⟨ow, S2⟩ := S2
  unfold gTNotIn at q
  split at q
  · rename_i e ks o xs e1 e2
    split at q
    · rename_i k ek
      obtain ⟨p, ov, eu, dg, eo⟩ := tin_go S2 lx ly e1 e2 ek
      refine ⟨p, ov, eu, dg, ?_⟩
      rw [eo]
      exact goes_val (Q := fun v H' => ∃ k, v = .bl k ∧ Q k H') q ⟨ow, S2.drop⟩ rfl fun _ _ => rfl
    · exact q.elim
  · exact q.elim
def isTk (r : Rho) (i : Nat) : Bool := match r[i]? with
  | some (some (.node (.dT _) _ _)) => true
  | _ => false
theorem isTk_at {i : Nat} (h : isTk r i = true) : ∃ ks o ds, r[i]? = some (some (.node (.dT ks) o ds)) := by
  unfold isTk at h
  split at h
  · rename_i ks o ds e; exact ⟨ks, o, ds, e⟩
  · cases h
def putT (ks : List (List L2.Key)) (xs : List D) (k : (List L2.Key)) (d : D) : D := match dixT ks k with
  | some j => .node (.dT ks) true (xs.set j d)
  | none => .node (.dT (ks ++ [k])) true (xs ++ [d])
def okT (ks : List (List L2.Key)) : Prop := ks.Nodup ∧ ks.length < 16777216
instance (ks : List (List L2.Key)) : Decidable (okT ks) := by unfold okT; exact inferInstance
theorem StW.tput {i : Nat} {ks : List (List L2.Key)} {xs : List D} {k : (List L2.Key)} {d : D} {v : V} (S : StW G C ow r (T ++ [(d, v)]) s H) (q : r[i]? = some (some (.node (.dT ks) true xs))) (hok : okT ks) {bk : Addr} (hb : H bk = some (.tup (k.map kV))) :
    ∃ a H2, s[i]? = some (some (.ref a)) ∧ DPut H a (.ref bk) v H2 ∧ StOk G C (r.set i (some (putT ks xs k d))) T s H2 := by
  obtain ⟨w0, v1, a, vs0, ev, v2, v3, v4⟩ := S.sl i _ q
  subst ev
  obtain ⟨v2, hkl⟩ : H a = some (.dT (ks.zip vs0)) ∧ ks.length = vs0.length := v2
  have hl4 := v4.length
  have hlt : (ks.zip vs0).length < sizeLine := by rw [List.length_zip, hkl, Nat.min_self, ← hkl, sizeLine_eq]; exact hok.2
  refine ⟨a, _, v1, DPut.t (k := k) (v := v) v2 hb hlt, ?_⟩
  unfold putT
  cases e : dixT ks k with
  | some j =>
    have hj := (dixT_lt e).1
    obtain ⟨vs', w1, w2, w3⟩ := StW.intoG (kd := .dT ks) (fun z => nomatch z) S q v1 (.inl ⟨rfl, show j < xs.length by omega⟩)
    obtain ⟨w1, hkl'⟩ : H a = some (.dT (ks.zip vs')) ∧ ks.length = vs'.length := w1
    rw [v2] at w1
    have ez : ks.zip vs0 = ks.zip vs' := by injection w1 with w1; injection w1
    have ev : vs0 = vs' := by
      have e1 := congrArg (List.map (·.2)) ez
      rwa [List.map_snd_zip (by omega), List.map_snd_zip (by omega)] at e1
    subst ev
    have w4 := w3 (.dT ks) (.dT (putK (ks.zip vs0) k v)) trivial (by
      rw [if_pos (by omega), put_someT hkl hok.1 e]
      exact ⟨upd_same, by rw [List.length_set]; exact hkl⟩)
    exact ⟨_, w4⟩
  | none =>
    obtain ⟨vs', w1, w2, w3⟩ := StW.intoG (kd := .dT ks) (fun z => nomatch z) S q v1 (.inr ⟨rfl, rfl⟩)
    obtain ⟨w1, hkl'⟩ : H a = some (.dT (ks.zip vs')) ∧ ks.length = vs'.length := w1
    rw [v2] at w1
    have ez : ks.zip vs0 = ks.zip vs' := by injection w1 with w1; injection w1
    have ev : vs0 = vs' := by
      have e1 := congrArg (List.map (·.2)) ez
      rwa [List.map_snd_zip (by omega), List.map_snd_zip (by omega)] at e1
    subst ev
    have w4 := w3 (.dT (ks ++ [k])) (.dT (putK (ks.zip vs0) k v)) trivial (by
      rw [if_neg (Nat.lt_irrefl _), put_noneT hkl e]
      exact ⟨upd_same, by rw [List.length_append, List.length_append]; simp [hkl]⟩)
    exact ⟨_, w4⟩
def dputT (i : Nat) (x y : R) (r1 : Rho) : SO := match x, (opd r1 y).bind keyT, r1[i]? with
  | .val d, some k, some (some (.node (.dT ks) true xs)) => if okT ks then .nx (r1.set i (some (putT ks xs k d))) else .bad
  | _, _, _ => .bad
def cTPut (i : Nat) (fk fa : Ev) : Sv := fun r => (cSet fa r).st fun x r1 => if isTk r1 i = true then (fk r1).st (dputT i x) else .bad
theorem vs_tput {i : Nat} {x : Str} {k e : Expr} {p tpos pos : Pos} {fk : Ev} (hu : X.A.units + 1 < cLine) (hN : X.N[i]? = some x) (hv : Vis X.env.scope x) (hd : (x == ("__debug__" : Str)) = false) (hcd : (x == ("__classdict__" : Str)) = false) (hk : VE X G C W k fk) (ha : VE X G C W e fa)
    (hs : swapsWith e (some (.Subscript (.Name x p) k tpos)) pos.line X.env = pure false := by rfl) : VS X G C W (.Assign [.Subscript (.Name x p) k tpos] e pos) (cTPut i fk fa) := by
  refine PS.imp (ps_dput hu (pe_var hN hv hd hcd) hk (ve_set ha) hs) fun D s H h => ?_
  obtain ⟨r, T, S, g⟩ := h
  refine oneS (fa := cSet fa) S g fun x v r1 H1 P g1 => ?_
  split at g1
  · rename_i hi
    obtain ⟨ks, o, ds, hr⟩ := isTk_at hi
    obtain ⟨ow1, S1⟩ := P.1
    obtain ⟨w, v1, a, vs, ev, v2, v3, v4⟩ := S1.sl i _ hr
    subst ev
    refine ⟨_, v1, ?_⟩
    refine ⟨r1, T ++ pushR x v, ⟨ow1, S1⟩, ?_⟩
    cases e1 : fk r1 with
    | exc c r2 => rw [e1] at g1; exact fun H' S' => g1 s H' S'.drop
    | bad => rw [e1] at g1; exact g1.elim
    | ok y r2 =>
      rw [e1] at g1
      simp only [st_ok] at g1
      intro u H2 P2
      unfold dputT at g1
      split at g1
      · rename_i d k' ks' xs' e2 q
        split at g1
        · rename_i hok
          cases e3 : opd r2 y with
          | none => rw [e3] at e2; cases e2
          | some z =>
            rw [e3] at e2
            have e2 : keyT z = some k' := e2
            obtain ⟨ow2, S2⟩ := P2.1
            obtain ⟨bk, eu, hb⟩ := keyT_rep e2 (opd_rep (T := T ++ pushR (.val d) v) (T2 := []) (by rw [List.append_nil]; exact S2) P2.2 e3)
            have S3 : StW G C ow2 r2 (T ++ [(d, v)]) s H2 := StW.drop (T := T ++ [(d, v)]) (T2 := pushR y u) S2
            obtain ⟨a', H3, z1, z2, z3⟩ := S3.tput (k := k') q hok hb
            rw [v1] at z1
            cases z1
            subst eu
            exact ⟨a, H3, rfl, z2, g1 _ _ z3⟩
        · exact g1.elim
      · exact g1.elim
  · exact g1.elim
end
abbrev tK (k : List Int) : List L2.Key := k.map Sum.inl
abbrev kT (ks : List (List Int)) : List (List L2.Key) := ks.map tK
abbrev tupI (o : Bool) (k : List Int) : D := .node .tup o (k.map .int)
def tD (ks : List (List Int)) (f : List Int → D) : D := .node (.dT (kT ks)) true (ks.map f)
def addT (ks : List (List Int)) (x : List Int) : List (List Int) := if x ∈ ks then ks else ks ++ [x]
def upT (f : List Int → D) (x : List Int) (d : D) : List Int → D := fun y => if y = x then d else f y
theorem tK_inj : ∀ {a b : List Int}, tK a = tK b → a = b
  | [], [], _ => rfl
  | [], _ :: _, h => by cases h
  | _ :: _, [], h => by cases h
  | x :: a, y :: b, h => by
    have h : (Sum.inl x : L2.Key) :: tK a = Sum.inl y :: tK b := h
    injection h with h1 h2
    injection h1 with h1
    rw [h1, tK_inj h2]
theorem keysD_ints : ∀ k : List Int, keysD (k.map .int) = some (tK k)
  | [] => rfl
  | x :: k => by
    show (match keyD (.int x), keysD (k.map .int) with | some k, some ks => some (k :: ks) | _, _ => none) = _
    rw [keysD_ints k]
    rfl
theorem keyT_ints (o : Bool) (k : List Int) : keyT (tupI o k) = some (tK k) := keysD_ints k
theorem kT_nodup {ks : List (List Int)} (h : ks.Nodup) : (kT ks).Nodup := by
  unfold List.Nodup kT
  rw [List.pairwise_map]
  exact List.Pairwise.imp (fun h e => h (tK_inj e)) h
theorem kT_ok {ks : List (List Int)} (h : ks.Nodup) (hl : ks.length < 16777216) : okT (kT ks) := ⟨kT_nodup h, by rw [List.length_map]; exact hl⟩
theorem kT_mem {ks : List (List Int)} {x : List Int} : tK x ∈ kT ks ↔ x ∈ ks := by
  unfold kT
  rw [List.mem_map]
  exact ⟨fun ⟨y, h, e⟩ => tK_inj e ▸ h, fun h => ⟨x, h, rfl⟩⟩
theorem dixT_in {ks : List (List Int)} {x : List Int} (h : x ∈ ks) : ∃ j, dixT (kT ks) (tK x) = some j ∧ ks[j]? = some x := by
  cases e : dixT (kT ks) (tK x) with
  | none => exact absurd (kT_mem.mpr h) (dixT_none.mp e)
  | some j =>
    refine ⟨j, rfl, ?_⟩
    have e2 := (dixT_lt e).2
    unfold kT at e2
    rw [List.getElem?_map] at e2
    cases e3 : ks[j]? with
    | none => rw [e3] at e2; cases e2
    | some y =>
      rw [e3] at e2
      rw [tK_inj (Option.some.inj e2)]
theorem dixT_out {ks : List (List Int)} {x : List Int} (h : x ∉ ks) : dixT (kT ks) (tK x) = none := dixT_none.mpr fun m => h (kT_mem.mp m)
theorem dixT_isSome {ks : List (List Int)} {x : List Int} : (dixT (kT ks) (tK x)).isSome = decide (x ∈ ks) := by
  by_cases h : x ∈ ks
  · obtain ⟨j, e, _⟩ := dixT_in h
    rw [e, decide_eq_true h]; rfl
  · rw [dixT_out h, decide_eq_false h]; rfl
theorem map_upT {ks : List (List Int)} {f : List Int → D} {x : List Int} {d : D} (h : x ∉ ks) : ks.map (upT f x d) = ks.map f := List.map_congr_left fun y hy => by
  unfold upT
  exact if_neg (fun (e : y = x) => h (e ▸ hy))
theorem set_upT : ∀ {ks : List (List Int)} {f : List Int → D} {x : List Int} {d : D} {j : Nat}, ks.Nodup → ks[j]? = some x → (ks.map f).set j d = ks.map (upT f x d)
  | [], f, x, d, j, _, h => by simp at h
  | y :: ks, f, x, d, 0, hn, h => by
    simp at h
    subst h
    show d :: ks.map f = upT f y d y :: ks.map (upT f y d)
    rw [map_upT (List.nodup_cons.mp hn).1]
    unfold upT
    rw [if_pos rfl]
  | y :: ks, f, x, d, j + 1, hn, h => by
    have h : ks[j]? = some x := by simpa using h
    have hy : y ≠ x := fun e => (List.nodup_cons.mp hn).1 (e ▸ List.mem_of_getElem? h)
    show f y :: (ks.map f).set j d = upT f x d y :: ks.map (upT f x d)
    rw [set_upT (List.nodup_cons.mp hn).2 h]
    unfold upT
    rw [if_neg hy]
theorem putT_int {ks : List (List Int)} {f : List Int → D} {x : List Int} {d : D} (hn : ks.Nodup) : putT (kT ks) (ks.map f) (tK x) d = tD (addT ks x) (upT f x d) := by
  unfold putT addT
  by_cases h : x ∈ ks
  · obtain ⟨j, e, e2⟩ := dixT_in h
    rw [e, if_pos h]
    show D.node _ true ((ks.map f).set j d) = _
    rw [set_upT hn e2]
    rfl
  · rw [dixT_out h, if_neg h]
    show D.node (.dT (kT ks ++ [tK x])) true (ks.map f ++ [d]) = .node (.dT (kT (ks ++ [x]))) true ((ks ++ [x]).map (upT f x d))
    have e1 : kT (ks ++ [x]) = kT ks ++ [tK x] := by unfold kT; rw [List.map_append]; rfl
    have e2 : (ks ++ [x]).map (upT f x d) = ks.map f ++ [d] := by
      rw [List.map_append, map_upT h]
      show _ ++ [upT f x d x] = _
      unfold upT
      rw [if_pos rfl]
    rw [e1, e2]
theorem addT_nodup {ks : List (List Int)} {x : List Int} (h : ks.Nodup) : (addT ks x).Nodup := by
  unfold addT
  split
  · exact h
  · rename_i hx
    rw [List.nodup_append]
    exact ⟨h, List.nodup_cons.mpr ⟨fun h => (List.not_mem_nil h), List.nodup_nil⟩, fun a ha b hb e => hx (by rw [List.mem_singleton.mp hb] at e; exact e ▸ ha)⟩
theorem addT_mem {ks : List (List Int)} {x y : List Int} : y ∈ addT ks x ↔ y ∈ ks ∨ y = x := by
  unfold addT
  split
  · rename_i h
    exact ⟨.inl, fun h' => h'.elim id fun e => e ▸ h⟩
  · rw [List.mem_append, List.mem_singleton]
theorem addT_len (ks : List (List Int)) (x : List Int) : (addT ks x).length ≤ ks.length + 1 := by
  unfold addT
  split
  · omega
  · simp
theorem isTk_tD {r : Rho} {i : Nat} {ks : List (List Int)} {f : List Int → D} (h : r[i]? = some (some (tD ks f))) : isTk r i = true := by
  unfold isTk
  rw [h]
  rfl
theorem tput_ok {fa fk : Ev} {r r1 r2 : Rho} {i : Nat} {ks : List (List Int)} {f : List Int → D} {x : List Int} {d : D} (h1 : fa r = .ok (.val d) r1) (h2 : r1[i]? = some (some (tD ks f))) (h3 : ∃ y, fk r1 = .ok y r2 ∧ opd r2 y = some (tupI oo x)) (h4 : r2[i]? = some (some (tD ks f))) (hn : ks.Nodup) (hl : ks.length < 16777216) :
    cTPut i fk fa r = .nx (r2.set i (some (tD (addT ks x) (upT f x d)))) := by
  obtain ⟨y, h3, h5⟩ := h3
  unfold cTPut
  rw [q_set, h1, bd_ok]
  show (if isTk r1 i = true then (fk r1).st (dputT i (.val d)) else .bad) = _
  rw [if_pos (isTk_tD h2), h3]
  show dputT i (.val d) y r2 = _
  unfold dputT
  rw [h5, h4, show ((some (tupI oo x)).bind keyT) = some (tK x) from keyT_ints oo x]
  show (if okT (kT ks) then SO.nx (r2.set i (some (putT (kT ks) (ks.map f) (tK x) d))) else .bad) = _
  rw [if_pos (kT_ok hn hl), putT_int hn]
theorem dgetT_ok {r : Rho} {x y : R} {ks : List (List Int)} {f : List Int → D} {k : List Int} {o : Bool} (h1 : opd r x = some (.node (.dT (kT ks)) o (ks.map f))) (h2 : opd r y = some (tupI oo k)) (hk : k ∈ ks) : dgetT x y r = pick r x (f k) := by
  unfold dgetT
  rw [h1, h2]
  simp only [keyT_ints]
  obtain ⟨j, e, e2⟩ := dixT_in hk
  show (match dixT (kT ks) (tK k) with | some j => (match (ks.map f)[j]? with | some d => pick r x d | none => .bad) | none => .bad) = _
  rw [e]
  simp only [List.getElem?_map, e2, Option.map_some]
theorem gTNotIn_ok {r : Rho} {x y : R} {ks : List (List Int)} {f : List Int → D} {k : List Int} {o : Bool} (h1 : opd r y = some (.node (.dT (kT ks)) o (ks.map f))) (h2 : opd r x = some (tupI oo k)) : gTNotIn x y r = .ok (.val (.bl (decide (k ∉ ks)))) r := by
  unfold gTNotIn
  rw [h1, h2]
  simp only [keyT_ints]
  show EO.ok (.val (.bl (!(dixT (kT ks) (tK k)).isSome))) r = _
  rw [dixT_isSome]
  by_cases h : k ∈ ks
  · rw [decide_eq_true h, decide_eq_false (fun z => z h)]; rfl
  · rw [decide_eq_false h, decide_eq_true h]; rfl
end VL

namespace VL
open PySem PySem.Spec PyProof.Rows L2
abbrev T3 := Int × Int × Int
section
variable {prog : Program} {w : World} {A : Around}
def IsT3 (h : Heap) (v : Value) (p : T3) : Prop := ∃ (a b : Addr) (t u x : Tok), v = .ref a ∧ h.IsTuple a #[.int p.1 t, .ref b] ∧ h.IsTuple b #[.int p.2.1 u, .int p.2.2 x]
theorem IsT3.keeps {h h' : Heap} {v : Value} {p : T3} (x : IsT3 h v p) (k : ∀ b o, h.get? b = some o → o.cls = .type "tuple" → h'.get? b = some o) : IsT3 h' v p := by
  obtain ⟨a, b, t, u, x, e, ⟨o1, g1, c1, r1⟩, ⟨o2, g2, c2, r2⟩⟩ := x
  exact ⟨a, b, t, u, x, e, ⟨o1, k a o1 g1 c1, c1, r1⟩, ⟨o2, k b o2 g2 c2, c2, r2⟩⟩
end
end VL

namespace VL
open PySem PySem.Spec PyProof.Rows L2
section
variable {X : Cx} {G : GX} {C C' : Fc} {W : WX} {ow ow' : Ow} {r : Rho} {T T1 T2 : List (D × V)} {s : L2.St} {H H' : Hp} {fa fk : Ev}
mutual
theorem Rep.unlkT {G : GX} {H H' : Hp} {ow ow' : Ow} {a : Addr} {od : Obj} {kvs : List ((List L2.Key) × V)} (hne : ∀ b, b ≠ a → H' b = H b) (how : ∀ b, b ≠ a → ow' b = ow b) (ha : H a = some (.frz od (.dT kvs))) : ∀ (d : D) {l : Loc} {v : V}, Rep G ow H d l v → Rep G ow' H' d l v
  | .any, _, _, _ => trivial
  | .non, _, _, h => h
  | .bl _, _, _, h => h
  | .int _, _, _, h => h
  | .str _, _, _, h => h
  | .exc c, _, _, h => by
    obtain ⟨b, e, q⟩ := h
    have nb : b ≠ a := fun z => by subst z; rw [ha] at q; cases q
    exact ⟨b, e, by rw [hne b nb]; exact q⟩
  | .ty _, _, _, h => h
  | .cls _, _, _, h => h
  | .node k o xs, l, v, h => by
    obtain ⟨b, vs, ev, h1, h2, h3⟩ := h
    have h3' := Reps.unlkT hne how ha xs h3
    cases k with
    | lst =>
      have h1 : H b = some (.lst vs) := h1
      have nb : b ≠ a := fun z => by subst z; rw [ha] at h1; cases h1
      exact ⟨b, vs, ev, (hne b nb).trans h1, by rw [how b nb]; exact h2, h3'⟩
    | tup =>
      have h1 : H b = some (.tup vs) := h1
      have nb : b ≠ a := fun z => by subst z; rw [ha] at h1; cases h1
      exact ⟨b, vs, ev, (hne b nb).trans h1, by rw [how b nb]; exact h2, h3'⟩
    | rd =>
      refine ⟨b, vs, ev, ?_, trivial, h3'⟩
      rcases h1 with ⟨o2, h1⟩ | h1
      · have nb : b ≠ a := fun z => by subst z; rw [ha] at h1; cases h1
        exact .inl ⟨o2, (hne b nb).trans h1⟩
      · exact .inr h1
    | dK ks =>
      obtain ⟨h1, h4⟩ : H b = some (.dK (ks.zip vs)) ∧ ks.length = vs.length := h1
      have nb : b ≠ a := fun z => by subst z; rw [ha] at h1; cases h1
      exact ⟨b, vs, ev, ⟨(hne b nb).trans h1, h4⟩, by rw [how b nb]; exact h2, h3'⟩
    | dT ks =>
      obtain ⟨h1, h4⟩ : H b = some (.dT (ks.zip vs)) ∧ ks.length = vs.length := h1
      have nb : b ≠ a := fun z => by subst z; rw [ha] at h1; cases h1
      exact ⟨b, vs, ev, ⟨(hne b nb).trans h1, h4⟩, by rw [how b nb]; exact h2, h3'⟩
    | ins c fs =>
      obtain ⟨⟨dx, h1⟩, h4⟩ : (∃ dx, H b = some (.ins (G c) dx (fs.zip vs))) ∧ fs.length = vs.length := h1
      have nb : b ≠ a := fun z => by subst z; rw [ha] at h1; cases h1
      exact ⟨b, vs, ev, ⟨⟨dx, (hne b nb).trans h1⟩, h4⟩, by rw [how b nb]; exact h2, h3'⟩
theorem Reps.unlkT {G : GX} {H H' : Hp} {ow ow' : Ow} {a : Addr} {od : Obj} {kvs : List ((List L2.Key) × V)} (hne : ∀ b, b ≠ a → H' b = H b) (how : ∀ b, b ≠ a → ow' b = ow b) (ha : H a = some (.frz od (.dT kvs))) : ∀ (ds : List D) {l : Loc} {i : Nat} {vs : List V}, Reps G ow H ds l i vs → Reps G ow' H' ds l i vs
  | [], _, _, _, h => h
  | d :: ds, _, _, _, h => by
    obtain ⟨v, ws, e, h1, h2⟩ := h
    exact ⟨v, ws, e, Rep.unlkT hne how ha d h1, Reps.unlkT hne how ha ds h2⟩
end
end
end VL

namespace VL
open PySem PySem.Spec PyProof.Rows L2
theorem lex_irr (x : List Int) : HT.lexLt x x = false := by
  induction x with
  | nil => rfl
  | cons a x ih => rw [HT.lexLt_cons, if_pos rfl, ih]
abbrev NK := Int × List Int
def ltN (p q : NK) : Bool := if p.1 = q.1 then HT.lexLt p.2 q.2 else decide (p.1 < q.1)
theorem ltN_asym {x y : NK} (h : ltN x y = true) : ltN y x = false := by
  unfold ltN at *
  by_cases e : x.1 = y.1
  · rw [if_pos e] at h
    rw [if_pos e.symm]
    exact NtL.lex_asym _ _ h
  · rw [if_neg e, decide_eq_true_eq] at h
    rw [if_neg (Ne.symm e), decide_eq_false_iff_not]
    omega
theorem ltN_tr {x y z : NK} (h1 : ltN y x = false) (h2 : ltN z y = false) : ltN z x = false := by
  unfold ltN at *
  by_cases e : y.1 = x.1
  · rw [if_pos e] at h1
    by_cases e2 : z.1 = y.1
    · rw [if_pos e2] at h2
      rw [if_pos (e2.trans e)]
      exact NtL.lex_tr _ _ _ h1 h2
    · rw [if_neg e2, decide_eq_false_iff_not] at h2
      rw [if_neg (fun q => e2 (q.trans e.symm)), decide_eq_false_iff_not]
      omega
  · rw [if_neg e, decide_eq_false_iff_not] at h1
    by_cases e2 : z.1 = y.1
    · rw [if_neg (fun q => e (e2.symm.trans q)), decide_eq_false_iff_not]
      omega
    · rw [if_neg e2, decide_eq_false_iff_not] at h2
      rw [if_neg (fun q => by omega), decide_eq_false_iff_not]
      omega
theorem swo_ltN {α : Type} (k : α → NK) : SrtO.Swo (fun v u : α => ltN (k v) (k u)) := ⟨fun _ _ h => ltN_asym h, fun _ _ _ h1 h2 => ltN_tr h1 h2⟩
theorem ltN_eq {x y : NK} (h1 : ltN x y = false) (h2 : ltN y x = false) : x = y := by
  unfold ltN at *
  by_cases e : x.1 = y.1
  · rw [if_pos e] at h1
    rw [if_pos e.symm] at h2
    exact Prod.ext e (lex_eq h1 h2)
  · rw [if_neg e, decide_eq_false_iff_not] at h1
    rw [if_neg (Ne.symm e), decide_eq_false_iff_not] at h2
    omega
def insN (x : NK) : List NK → List NK
  | [] => [x]
  | y :: ys => if ltN y x = false then x :: y :: ys else y :: insN x ys
def srtN : List NK → List NK
  | [] => []
  | x :: xs => insN x (srtN xs)
abbrev UpN (xs : List NK) : Prop := xs.Pairwise fun p q => ltN q p = false
theorem insN_perm (x : NK) : ∀ ys : List NK, (insN x ys).Perm (x :: ys)
  | [] => List.Perm.refl _
  | y :: ys => by
    unfold insN
    split
    · exact List.Perm.refl _
    · exact ((insN_perm x ys).cons y).trans (List.Perm.swap x y ys)
theorem srtN_perm : ∀ xs : List NK, (srtN xs).Perm xs
  | [] => List.Perm.refl _
  | x :: xs => (insN_perm x (srtN xs)).trans ((srtN_perm xs).cons x)
theorem insN_up (x : NK) : ∀ ys : List NK, UpN ys → UpN (insN x ys)
  | [], _ => by simp [insN, UpN]
  | y :: ys, h => by
    unfold insN
    have h1 := List.pairwise_cons.mp h
    split
    · rename_i hx
      refine List.pairwise_cons.mpr ⟨fun z hz => ?_, h⟩
      rcases List.mem_cons.mp hz with e | e
      · rw [e]; exact hx
      · exact ltN_tr hx (h1.1 z e)
    · rename_i hx
      rw [Bool.not_eq_false] at hx
      refine List.pairwise_cons.mpr ⟨fun z hz => ?_, insN_up x ys h1.2⟩
      rcases List.mem_cons.mp ((insN_perm x ys).mem_iff.mp hz) with e | e
      · rw [e]; exact ltN_asym hx
      · exact h1.1 z e
theorem srtN_up : ∀ xs : List NK, UpN (srtN xs)
  | [] => List.Pairwise.nil
  | x :: xs => insN_up x _ (srtN_up xs)
theorem upN_unique : ∀ {xs ys : List NK}, xs.Perm ys → UpN xs → UpN ys → xs = ys
  | [], ys, p, _, _ => by rw [List.nil_perm.mp p]
  | x :: xs, [], p, _, _ => by have := p.length_eq; simp at this
  | x :: xs, y :: ys, p, h1, h2 => by
    have h1' := List.pairwise_cons.mp h1
    have h2' := List.pairwise_cons.mp h2
    have e1 : x = y ∨ ltN y x = false := by
      rcases List.mem_cons.mp (p.mem_iff.mpr (List.mem_cons_self : y ∈ y :: ys)) with e | e
      · exact .inl e.symm
      · exact .inr (h1'.1 y e)
    have e2 : x = y ∨ ltN x y = false := by
      rcases List.mem_cons.mp (p.mem_iff.mp (List.mem_cons_self : x ∈ x :: xs)) with e | e
      · exact .inl e
      · exact .inr (h2'.1 x e)
    have e : x = y := by
      rcases e1 with e | e1
      · exact e
      · rcases e2 with e | e2
        · exact e
        · exact ltN_eq e2 e1
    subst e
    rw [upN_unique ((List.perm_cons x).mp p) h1'.2 h2'.2]
def IsNl (h : Heap) (v : Value) (p : NK) : Prop := ∃ (a : Addr) (o : Obj) (u : Value) (t : Tok) (n : Nat), v = .ref a ∧ h.get? a = some o ∧ o.cls = .type "tuple" ∧ o.data = .seq #[.int p.1 t, u] n ∧ IsIl h u p.2
theorem IsNl.keeps {h h' : Heap} {v : Value} {p : NK} (x : IsNl h v p) (k : ∀ b o, h.get? b = some o → (o.cls = .type "tuple" ∨ ∃ ns, IsIl h (.ref b) ns) → h'.get? b = some o) : IsNl h' v p := by
  obtain ⟨a, o, u, t, n, e, ho, hc, hd, hi⟩ := x
  refine ⟨a, o, u, t, n, e, k _ _ ho (.inl hc), hc, hd, hi.keeps fun b o' e' g => k b o' g (.inr ⟨_, e' ▸ hi⟩)⟩
section
variable {prog : Program} {w : World} {A : Around} {E : Value → Shared → Prop} {s : Shared}
theorem ltc_il {v u : Value} {ns ms : List Int} {Q : Bool → Shared → Prop} {E : Value → Shared → Prop} (hu : A.units < cLine) (hv : IsIl s.heap v ns) (hw : IsIl s.heap u ms) (h : Q (HT.lexLt ns ms) s) : wpAny (model prog w) A (compareOp .Lt v u) (PySem.W.BoolBack Q) E s := by
  obtain ⟨a, items, n, rfl, ga, ia⟩ := hv
  obtain ⟨b, items2, n2, rfl, gb, ib⟩ := hw
  have la : s.heap.IsList a items.toArray := ⟨_, ga, rfl, n, rfl⟩
  have lb : s.heap.IsList b items2.toArray := ⟨_, gb, rfl, n2, rfl⟩
  have l1 := ia.length
  have l2 := ib.length
  have el := first_lex ns ms 0 (fun j => decide (ns.getD j 0 = ms.getD j 0)) (fun j => decide (ns.getD j 0 < ms.getD j 0)) (fun j => by rw [Nat.zero_add]; exact ⟨rfl, rfl⟩)
  have z := PySem.SeqAt.RcLt.lists (A := A) (s := s) (e := fun j => decide (ns.getD j 0 = ms.getD j 0)) (r := fun j => decide (ns.getD j 0 < ms.getD j 0)) la lb hu (fun j h1 h2 => by
      obtain ⟨t, e1⟩ := ints_get ia (j := j) (v := items.toArray[j]) (by rw [List.getElem_toArray]; exact List.getElem?_eq_getElem _)
      obtain ⟨t2, e2⟩ := ints_get ib (j := j) (v := items2.toArray[j]) (by rw [List.getElem_toArray]; exact List.getElem?_eq_getElem _)
      rw [e1, e2]
      exact PySem.SeqAt.EqAt.int_int _ t _ t2) (fun j h1 h2 _ => by
      obtain ⟨t, e1⟩ := ints_get ia (j := j) (v := items.toArray[j]) (by rw [List.getElem_toArray]; exact List.getElem?_eq_getElem _)
      obtain ⟨t2, e2⟩ := ints_get ib (j := j) (v := items2.toArray[j]) (by rw [List.getElem_toArray]; exact List.getElem?_eq_getElem _)
      rw [e1, e2]
      exact fun prog w E Q h => HT.rcLt_int _ _ _ t _ t2 prog w E Q h)
  rw [List.size_toArray, List.size_toArray, l1, l2, List.range_eq_range', el] at z
  exact z prog w E _ h
theorem nl_cmp {vs : List Value} {k : Value → NK} (hu : A.units < cLine) (hp : ∀ v ∈ vs, IsNl s.heap v (k v)) : SrtO.Cmp prog w A s (tuples' true) (fun p => p.1 ∈ vs) (SrtO.lt2 fun v u => ltN (k v) (k u)) := by
  intro p q hm hm'
  have h1 := hp _ hm
  have h2 := hp _ hm'
  show wpAny (model prog w) A (keyLt' (tuples' true) p.1 q.1) (fun r s' => s' = s ∧ r = ltN (k p.1) (k q.1)) (fun _ _ => False) s
  unfold ltN
  generalize k p.1 = x at h1 ⊢
  generalize k q.1 = y at h2 ⊢
  obtain ⟨a, o, u, t, n, e, ho, hc, hd, hi⟩ := h1
  obtain ⟨a', o', u', t', n', e', ho', hc', hd', hi'⟩ := h2
  rw [e, e']
  refine PySem.W.kat_lt ho hd ho' hd' ?_
  show PySem.W.KatLex prog w A true (decide (2 < 2)) _ [(.int x.1 t, .int y.1 t'), (u, u')] 0 s
  refine PySem.W.kat_cons (SeqAt.EqAt.int_int x.1 t y.1 t' prog w _ _ ?_)
  refine PySem.W.kat_go (fun e1 => ?_) (fun e1 => ?_)
  · have ex : x.1 = y.1 := by simpa using e1
    refine PySem.W.kat_yes (PySem.W.kat_cons (eq_il hu hi hi' prog w _ _ ?_))
    refine PySem.W.kat_go (fun e2 => ?_) (fun e2 => ?_)
    · have ey : x.2 = y.2 := of_decide_eq_true e2
      refine PySem.W.kat_yes (PySem.W.kat_nil ⟨rfl, ?_⟩)
      rw [if_pos ex, ey]
      exact (lex_irr _).symm
    · have e3 : (if x.1 = y.1 then HT.lexLt x.2 y.2 else decide (x.1 < y.1)) = HT.lexLt x.2 y.2 := if_pos ex
      refine PySem.W.kat_no (PySem.W.kat_one _ _ ?_)
      exact ltc_il (Q := fun r s' => s' = s ∧ r = (if x.1 = y.1 then HT.lexLt x.2 y.2 else decide (x.1 < y.1))) (E := fun _ _ => False) hu hi hi' ⟨rfl, e3.symm⟩
  · have ex : ¬ x.1 = y.1 := by simpa using e1
    have e3 : (if x.1 = y.1 then HT.lexLt x.2 y.2 else decide (x.1 < y.1)) = decide (x.1 < y.1) := if_neg ex
    exact PySem.W.kat_no (oneLt_int ⟨rfl, e3.symm⟩)
theorem nl_firsts {h : Heap} : ∀ {vs : List Value}, (∀ v ∈ vs, ∃ p, IsNl h v p) → ∃ fs : List Value, PySem.W.KatTups h vs fs ∧ fs.length = vs.length ∧ ∀ f ∈ fs, ∃ x t, f = Value.int x t
  | [], _ => ⟨[], PySem.W.KatTups.nil, rfl, fun _ hm => by simp at hm⟩
  | v :: vs, hp => by
    obtain ⟨fs, h1, h2, h3⟩ := nl_firsts (vs := vs) fun v' hm => hp v' (List.mem_cons_of_mem _ hm)
    obtain ⟨p, a, o, u, t, n, e, ho, hc, hd, hi⟩ := hp v List.mem_cons_self
    subst e
    refine ⟨.int p.1 t :: fs, PySem.W.KatTups.cons ho hc hd rfl h1, by rw [List.length_cons, List.length_cons, h2], fun f hm => ?_⟩
    rcases List.mem_cons.mp hm with rfl | hm
    · exact ⟨_, _, rfl⟩
    · exact h3 f hm
theorem nl_sortable {a : Addr} {vs : List Value} {k : Value → NK} (h0 : 0 < vs.length) (hu : A.units < cLine) (hp : ∀ v ∈ vs, IsNl s.heap v (k v)) (ha : ∀ o, s.heap.get? a = some o → o.cls ≠ .type "tuple") (ha2 : ∀ v ∈ vs, ∀ b o n d, v = .ref b → s.heap.get? b = some o → o.data = .seq d n → d[1]? ≠ some (.ref a)) : SrtO.SortableO prog w A s a vs fun v u => ltN (k v) (k u) := by
  intro h' keep
  have hp' : ∀ v ∈ vs, IsNl h' v (k v) := fun v hm => by
    obtain ⟨b, o, u, t, n, e, ho, hc, hd, hi⟩ := hp v hm
    refine ⟨b, o, u, t, n, e, keep b o (fun z => by subst z; exact ha o ho hc) ho, hc, hd, hi.keeps fun b' o' e' g => keep b' o' (fun z => ?_) g⟩
    subst z
    exact ha2 v hm b o n _ e ho hd (by rw [e']; rfl)
  obtain ⟨fs, h1, h2, h3⟩ := nl_firsts fun v hm => ⟨_, hp' v hm⟩
  refine ⟨tuples' true, fun Q E hq => ?_, nl_cmp (s := { s with heap := h' }) hu hp'⟩
  refine PySem.W.kat_kind (s := { s with heap := h' }) (T := .type "int") h1 (by omega) (fun f hm => ?_) (by rfl) ?_
  · obtain ⟨x, t, rfl⟩ := h3 f hm
    exact PySem.W.Looks.now
  · have e : (Value.type "int" != Value.type "tuple") = true := by first | decide +kernel | rfl | decide
    rw [e]
    exact hq
end
def rSortedNL (K : PySem.W.Frag) : List V → Hp → VK → Prop := fun vs H Q => ∃ (a : Addr) (ts : List Addr) (k : Addr → NK) (l : Addr → Addr), vs = [.ref a] ∧ SqL K H a (ts.map V.ref) ∧ (∀ t ∈ ts, H t = some (.tup [.int (k t).1, .ref (l t)]) ∧ H (l t) = some (.lst ((k t).2.map V.int))) ∧
  ∀ (ts' : List Addr) (p : Addr), ts'.Perm ts → ts'.Pairwise (fun p q => ltN (k q) (k p) = false) → H p = none → Q (.ref p) (upd H p (.lst (ts'.map V.ref)))
theorem cr_sortedNL {X : Cx} (hu : X.A.units + 64 < cLine) : CallR X (.builtin "sorted") (rSortedNL X.K) := by
  intro pins s σ H vs us Q I r h
  obtain ⟨a, ts, k, l, rfl, hs, hN, q⟩ := h
  obtain ⟨its, rv, hl, hz⟩ := I.list hs
  rw [Vals.ref1 r]
  have ei := nts_of rv
  have hIl : ∀ t ∈ ts, IsIl s.heap (.ref (l t)) (k t).2 := fun t ht => by
    obtain ⟨_, its2, n2, rv2, hob2⟩ := I.hok (l t) _ (hN t ht).2
    exact ⟨l t, its2, n2, rfl, hob2, rv2.ints⟩
  have hv : ∀ u ∈ its, IsNl s.heap u (k (adO u)) := fun u hm => by
    rw [ei] at hm
    obtain ⟨t, ht, rfl⟩ := List.mem_map.mp hm
    obtain ⟨_, its2, r2, o, ho, hc, n, hd⟩ := I.hok t _ (hN t ht).1
    obtain ⟨u1, u2, rfl, ri, rj⟩ := vals2 r2
    obtain ⟨t2, rfl⟩ := ri
    obtain rfl : u2 = Value.ref (l t) := rj
    exact ⟨t, o, _, t2, n, rfl, ho, hc, hd, hIl t ht⟩
  have hlt : ∀ u ∈ its, ∃ t o, u = .ref t ∧ s.heap.get? t = some o := fun u hm => by
    obtain ⟨t, o, _, _, _, e, g, _⟩ := hv u hm
    exact ⟨t, o, e, g⟩
  refine SrtO.sorted_ord (swo_ltN fun u => k (adO u)) hl.isList (by rw [← rv.length]; exact hz) (fun h2 h₁ a' ha' kk => ?_) fun out h1 h2 => ?_
  · refine nl_sortable (s := { s with heap := h₁ }) (by omega) (by simp only [Around.in1_units]; omega) (fun u hm => (hv u hm).keeps fun b o g _ => (kk b o g).2) (fun o e c => ?_) fun v hm b o n d ev hg hd hc => ?_
    · have e' : some o = some (seqObj "list" its.toArray 0) := e.symm.trans ha'
      cases e'
      exact absurd (Value.type.inj c) (by decide)
    · obtain ⟨b', o', u', t', n', e1, g1, c1, d1, i1⟩ := hv v hm
      rw [ev] at e1
      have eb := Value.ref.inj e1
      subst eb
      have g2 := (kk b o' g1).2
      have eo : o' = o := Option.some.inj (g2.symm.trans hg)
      subst eo
      rw [hd] at d1
      injection d1 with d1 _
      subst d1
      have eu : u' = .ref a' := by simpa using hc
      obtain ⟨a2, i2, n2, e2, g3, _⟩ := i1
      rw [eu] at e2
      exact (kk a2 _ g3).1 (Value.ref.inj e2).symm
  · obtain ⟨ep, he'⟩ := sortedAll_at s.heap its out.toArray
    have eo : out = (out.map adO).map Value.ref := ref_map fun u hm => by
      have hm' : u ∈ its := h2.perm.mem_iff.mp hm
      rw [ei] at hm'
      obtain ⟨t, _, e⟩ := List.mem_map.mp hm'
      exact ⟨t, e.symm⟩
    have hp : (out.map adO).Perm ts := by
      have p1 := h2.perm.map adO
      rw [ei, ad_map] at p1
      exact p1
    have hs' : (out.map adO).Pairwise (fun p q => ltN (k q) (k p) = false) := List.pairwise_map.mpr (h1.imp fun {x y} z => z)
    have hlen : ((out.map adO).map V.ref).length ≤ sizeLine := by
      rw [List.length_map, hp.length_eq]
      rw [List.length_map] at hz
      exact hz
    have rvo : Vals ((out.map adO).map V.ref) out := by
      have z := of_nts (out.map adO)
      rw [← eo] at z
      exact z
    refine ⟨.ref _, _, I.laid (o := .lst ((out.map adO).map V.ref)) (t' := s.toks) (fun b u e => sortedAll_old e) (Nat.le_succ _) ⟨hlen, out, ep, rvo, he'⟩, rfl, q _ _ hp hs' (I.hok.fresh (Nat.le_succ _))⟩
def nlD (b : Bool) (p : NK) : D := .node .tup false [.int p.1, .node .lst b (p.2.map .int)]
def nlOf : D → Option NK
  | .node .tup _ [.int k, .node .lst _ ds] => (match intsOf ds with
    | some ns => some (k, ns)
    | none => none)
  | _ => none
def nlsOf : List D → Option (List NK)
  | [] => some []
  | d :: ds => match nlOf d, nlsOf ds with
    | some p, some ps => some (p :: ps)
    | _, _ => none
theorem nlsOf_map (b : Bool) : ∀ ps : List NK, nlsOf (ps.map (nlD b)) = some ps
  | [] => rfl
  | p :: ps => by
    have e : nlOf (nlD b p) = some p := by
      show (match intsOf (p.2.map D.int) with | some ns => some (p.1, ns) | none => none) = _
      rw [intsOf_map]
    show (match nlOf (nlD b p), nlsOf (ps.map (nlD b)) with | some p, some ps => some (p :: ps) | _, _ => none) = _
    rw [e, nlsOf_map b ps]
theorem frz_nl (b : Bool) (p : NK) : frz (nlD b p) = nlD false p := by
  show D.node .tup false [.int p.1, .node .lst false (frzs (p.2.map D.int))] = _
  rw [frzs_ints]; rfl
theorem frzs_nl (ps : List NK) : frzs (ps.map (nlD false)) = ps.map (nlD false) := by
  rw [frzs_map, List.map_map]
  exact List.map_congr_left fun p _ => frz_nl false p
def gSortedN : List R → Rho → EO := fun xs r => match xs with
  | [x] => (match opd r x with
    | some (.node .lst _ ds) => (match nlsOf ds with
      | some ps => .ok (.val (.node .lst true ((srtN ps).map (nlD false)))) (touch r x)
      | none => .bad)
    | _ => .bad)
  | _ => .bad
def kNl (H : Hp) (t : Addr) : NK := match H t with
  | some (.tup [.int i, .ref l]) => (i, kAt H l)
  | _ => (0, [])
def lNl (H : Hp) (t : Addr) : Addr := match H t with
  | some (.tup [_, .ref l]) => l
  | _ => 0
section
variable {X : Cx} {G : GX} {C : Fc} {W : WX} {ow ow' : Ow} {r : Rho} {T T1 T2 : List (D × V)} {s : L2.St} {H H' : Hp}
theorem nls_rep : ∀ {ds : List D} {ps : List NK} {l : VL.Loc} {i : Nat} {ws : List V}, nlsOf ds = some ps → Reps G ow H (frzs ds) l i ws → ∃ zs : List (Addr × Addr × NK), zs.map (·.2.2) = ps ∧ ws = zs.map (fun z => V.ref z.1) ∧ ∀ z ∈ zs, H z.1 = some (.tup [.int z.2.2.1, .ref z.2.1]) ∧ H z.2.1 = some (.lst (z.2.2.2.map V.int)) ∧ ow z.1 = none ∧ ow z.2.1 = none
  | [], ps, l, i, ws, e, h => by
    cases e
    exact ⟨[], rfl, h, fun z hz => by cases hz⟩
  | d :: ds, ps, l, i, ws, e, h => by
    unfold nlsOf at e
    split at e
    · rename_i p ps' e1 e2
      cases e
      unfold nlOf at e1
      split at e1
      · rename_i o k o2 xs
        split at e1
        · rename_i ns e3
          cases e1
          obtain ⟨v, ws', ev, h1, h2⟩ := h
          obtain ⟨zs, z1, z2, z3⟩ := nls_rep e2 h2
          obtain ⟨a, us, ea, hA, oA, rA⟩ := h1
          obtain ⟨v2, us1, e4, rI, rA⟩ := rA
          obtain ⟨v1, us2, e5, rL, rA⟩ := rA
          subst e4 e5
          have rA : us2 = [] := rA
          subst rA
          obtain ⟨b, ys, eb, hB, oB, rB⟩ := rL
          have hB : H b = some (.lst ys) := hB
          rw [intsOf_frzs e3] at rB
          have eu := ints_rep (intsOf_map ns) rB
          subst eu
          have rI : v2 = .int k := rI
          subst rI
          subst eb
          have hA : H a = some (.tup [.int k, .ref b]) := hA
          have oA : ow a = none := oA
          have oB : ow b = none := oB
          refine ⟨(a, b, (k, ns)) :: zs, by rw [List.map_cons, z1], by rw [ev, ea, z2]; rfl, fun z hz => ?_⟩
          rcases List.mem_cons.mp hz with e | e
          · rw [e]; exact ⟨hA, hB, oA, oB⟩
          · exact z3 z e
        · cases e1
      · cases e1
    · cases e
theorem reps_nl : ∀ (ts : List Addr) (l : VL.Loc) (i : Nat), (∀ t ∈ ts, H t = some (.tup [.int (kNl H t).1, .ref (lNl H t)]) ∧ H (lNl H t) = some (.lst ((kNl H t).2.map V.int)) ∧ ow t = none ∧ ow (lNl H t) = none) → Reps G ow H ((ts.map (kNl H)).map (nlD false)) l i (ts.map V.ref)
  | [], _, _, _ => rfl
  | t :: ts, l, i, h => by
    obtain ⟨h1, h2, h3, h4⟩ := h t List.mem_cons_self
    exact ⟨_, _, rfl, ⟨t, _, rfl, h1, h3, _, _, rfl, rfl, _, _, rfl, ⟨_, _, rfl, h2, h4, reps_ints _ _ _⟩, rfl⟩, reps_nl ts l (i + 1) fun u hu => h u (List.mem_cons_of_mem _ hu)⟩
theorem cs_sortedN (hu : X.A.units + 65 < cLine) : CallS X (.builtin "sorted") gSortedN := by
  refine ⟨_, cr_sortedNL (by omega), fun G hG C W r T s H xs vs Q S l q => ?_⟩
  unfold gSortedN at q
  split at q
  · rename_i x
    obtain ⟨v, ev, lx, ep⟩ := one_arg l
    rw [ep] at S
    subst ev
    obtain ⟨ow, S⟩ := S
    split at q
    · rename_i o ds e1
      split at q
      · rename_i ps e2
        obtain ⟨ow', a, ws, S', ea, h1, rx, _⟩ := StW.parts S lx e1
        subst ea
        obtain ⟨zs, z1, z2, z3⟩ := nls_rep e2 (rx ⟨.fo, []⟩)
        have ek : ∀ z ∈ zs, kNl H z.1 = z.2.2 ∧ lNl H z.1 = z.2.1 := fun z hz => by
          obtain ⟨h1, h2, _, _⟩ := z3 z hz
          constructor
          · unfold kNl
            rw [h1]
            show (z.2.2.1, kAt H z.2.1) = _
            rw [kAt_of h2]
          · unfold lNl
            rw [h1]
        have hN : ∀ t ∈ zs.map (·.1), H t = some (.tup [.int (kNl H t).1, .ref (lNl H t)]) ∧ H (lNl H t) = some (.lst ((kNl H t).2.map V.int)) ∧ ow' t = none ∧ ow' (lNl H t) = none := fun t ht => by
          obtain ⟨z, hz, rfl⟩ := List.mem_map.mp ht
          rw [(ek z hz).1, (ek z hz).2]
          exact z3 z hz
        have ew : ws = (zs.map (·.1)).map V.ref := by rw [z2, List.map_map]; rfl
        refine ⟨a, zs.map (·.1), kNl H, lNl H, rfl, by rw [← ew]; exact SqL.of h1, fun t ht => ⟨(hN t ht).1, (hN t ht).2.1⟩, fun ts' p hp hs hn => ?_⟩
        have es : ts'.map (kNl H) = srtN ps := by
          refine upN_unique ((hp.map (kNl H)).trans ?_) (List.pairwise_map.mpr hs) (srtN_up ps)
          have e3 : (zs.map (·.1)).map (kNl H) = ps := by
            rw [List.map_map, ← z1]
            exact List.map_congr_left fun z hz => (ek z hz).1
          rw [e3]
          exact (srtN_perm ps).symm
        rw [← es] at q
        exact S'.made (l := ⟨.fo, []⟩) (i := 0) (frzs_nl _) (reps_nl ts' _ _ fun t ht => hN t (hp.mem_iff.mp ht)) q p hn
      · exact q.elim
    · exact q.elim
  · exact q.elim
end
end VL

namespace VL
open PySem PySem.Spec PyProof PyProof.Rows L2
theorem noI_tuple_add : typeLookup (.type "tuple") (dunderI "add") = pure none := by rw [typeLookup_type, builtinLookup_eq_fast]; kernel_rfl
section
variable {prog : Program} {w : World} {A : Around} {E : Value → Shared → Prop} {s : Shared}
theorem icat_tup0 {t b : Addr} {ws : List Value} {Q : Value → Shared → Prop} (ht : IsTup s.heap t ([] : List Value).toArray) (hb : IsTup s.heap b ws.toArray) (h : Q (.ref b) s) : wpAny (model prog w) A (inplaceOp .Add (.ref t) (.ref b)) Q E s := by
  obtain ⟨⟨cls, dd, data, sl⟩, ho, hc, n, hd⟩ := id ht
  obtain ⟨⟨cls2, dd2, data2, sl2⟩, ho2, hc2, n2, hd2⟩ := id hb
  simp only at hc hd hc2 hd2
  subst hc hd hc2 hd2
  exact wpAny_inplaceOp_concat ⟨_, ho, rfl⟩ ⟨_, ho2, rfl⟩ noI_tuple_add noFill_tuple_add seq_tuple_add (call_meets PySem.F.slot_tuple_add ⟨_, ho, rfl⟩ PySem.F.entry_tuple_add (PySem.F.args_tuple_add_2 _ _)
    (tuple_addW0 t b ([] : List Value).toArray ws.toArray n n2 dd dd2 sl sl2 (by simp)) ⟨ho, ho2, h⟩)
theorem icat_tup {t b : Addr} {vs ws : List Value} {Q : Value → Shared → Prop} (ht : IsTup s.heap t vs.toArray) (hb : IsTup s.heap b ws.toArray) (hv : vs ≠ [])
    (h1 : ws = [] → Q (.ref t) s) (h2 : ws ≠ [] → Q (.ref s.heap.objs.size) { s with heap := s.heap.push { cls := .type "tuple", data := .seq (vs ++ ws).toArray } })
    (hsz : vs.length + ws.length ≤ sizeLine) : wpAny (model prog w) A (inplaceOp .Add (.ref t) (.ref b)) Q E s := by
  obtain ⟨⟨cls, dd, data, sl⟩, ho, hc, n, hd⟩ := id ht
  obtain ⟨⟨cls2, dd2, data2, sl2⟩, ho2, hc2, n2, hd2⟩ := id hb
  simp only at hc hd hc2 hd2
  subst hc hd hc2 hd2
  have e : vs.toArray ++ ws.toArray = (vs ++ ws).toArray := by simp
  by_cases hw : ws = []
  · exact wpAny_inplaceOp_concat ⟨_, ho, rfl⟩ ⟨_, ho2, rfl⟩ noI_tuple_add noFill_tuple_add seq_tuple_add (call_meets PySem.F.slot_tuple_add ⟨_, ho, rfl⟩ PySem.F.entry_tuple_add (PySem.F.args_tuple_add_2 _ _)
      (tuple_addW1 t b vs.toArray ws.toArray n n2 dd dd2 sl sl2 (by simpa using hv) (by simp [hw])) ⟨ho, ho2, h1 hw⟩)
  · refine wpAny_inplaceOp_concat ⟨_, ho, rfl⟩ ⟨_, ho2, rfl⟩ noI_tuple_add noFill_tuple_add seq_tuple_add (call_meets PySem.F.slot_tuple_add ⟨_, ho, rfl⟩ PySem.F.entry_tuple_add (PySem.F.args_tuple_add_2 _ _)
      (tuple_addW2 t b vs.toArray ws.toArray n n2 dd dd2 sl sl2 (by simpa using hv) (by simpa using hw) (by rw [List.size_toArray, List.size_toArray]; exact hsz)) ⟨ho, ho2, ?_⟩)
    rw [e]
    exact h2 hw
end
section
variable {X : Cx} {G : GX} {C : Fc} {W : WX} {ow : Ow} {r : Rho} {T : List (D × V)} {s : L2.St} {H : Hp} {fa fb : Ev}
theorem iop_catA : OpR X (inplaceOp .Add) (rCatA X.K) := by
  intro pins s σ H x y v u Q I rx ry h
  obtain ⟨a, b, xs, ys, rfl, rfl, ha, hb, hz, q0, q1, q2⟩ := h
  by_cases hx : xs = []
  · subst hx
    cases rx
    cases ry
    obtain ⟨its, r1, p1, _⟩ := I.tuple ha
    obtain ⟨its2, r2, p2, _⟩ := I.tuple hb
    cases r1
    exact icat_tup0 p1 p2 ⟨.ref b, H, I, rfl, q0 rfl⟩
  · cases rx
    cases ry
    obtain ⟨its, r1, p1, _⟩ := I.tuple ha
    obtain ⟨its2, r2, p2, _⟩ := I.tuple hb
    refine icat_tup p1 p2 (fun z => hx (r1.nil_iff.mp z)) (fun z => ⟨.ref a, H, I, rfl, q1 hx (r2.nil_iff.mp z)⟩) (fun z => ?_) (by rw [← r1.length, ← r2.length]; exact hz)
    refine ⟨.ref s.heap.objs.size, _, I.laid (t' := s.toks) (o := .tup (xs ++ ys)) (fun b ob q => Heap.get?_push_of_some _ q) (Nat.le_refl _) ?_, rfl, q2 hx (fun w => z (r2.nil_iff.mpr w)) _ (I.hok.fresh (Nat.le_refl _))⟩
    exact ⟨by rw [List.length_append]; exact hz, _, r1.append r2, IsTup.new _ _⟩
@[irreducible] def gAddT : G2 := fun x y r => match opd r x, opd r y with
  | some (.node .tup _ xs), some (.node .tup _ ys) => if xs.length + ys.length ≤ 16777216 then .ok (.val (.node .tup false (frzs xs ++ frzs ys))) (touch (touch r y) x) else .bad
  | _, _ => .bad
theorem StW.tup_free {r : Rho} {p : Addr} {vs : List V} (S : StW G C ow r T s H) (h : H p = some (.tup vs)) : ow p = none := by
  cases e : ow p with
  | none => rfl
  | some l =>
    have m := S.mu p l e
    rw [h] at m
    exact m.elim
theorem os_addT_of {f : Value → Value → Sem Value} (h : OpR X f (rCatA X.K)) : OpS X f gAddT := by
  refine ⟨_, h, fun G C W r T s H x y v u Q S lx ly q => ?_⟩
  obtain ⟨ow, S⟩ := S
  unfold gAddT at q
  split at q
  · rename_i o1 xs o2 ys e1 e2
    split at q
    · rename_i hz
      obtain ⟨ow', a, b, vs, us, S', ev, eu, ha, hb, rx, ry⟩ := S.parts2 lx ly e1 e2
      subst ev; subst eu
      have ha : H a = some (.tup vs) := ha
      have hb : H b = some (.tup us) := hb
      have l1 := (rx ⟨.fo, []⟩).length
      have l2 := (ry ⟨.fo, []⟩).length
      rw [frzs_length] at l1 l2
      refine ⟨a, b, vs, us, rfl, rfl, SqT.of ha, SqT.of hb, by rw [sizeLine_eq, ← l1, ← l2]; exact hz, fun z => ?_, fun _ z => ?_, fun _ _ => ?_⟩
      · subst z
        have exs : xs = [] := List.length_eq_zero_iff.mp l1
        subst exs
        exact q _ _ ⟨⟨ow', S'.push ⟨b, us, rfl, hb, S'.tup_free hb, ry _⟩⟩, trivial⟩
      · subst z
        have eys : ys = [] := List.length_eq_zero_iff.mp l2
        subst eys
        have q : Goes G C W T s Q (.ok (.val (.node .tup false (frzs xs ++ []))) (touch (touch r y) x)) := q
        rw [List.append_nil] at q
        exact q _ _ ⟨⟨ow', S'.push ⟨a, vs, rfl, ha, S'.tup_free ha, rx _⟩⟩, trivial⟩
      · exact S'.madeT (l := ⟨.fo, []⟩) (i := 0) (by rw [frzs_append, frzs_frzs, frzs_frzs]) (Reps.app (frzs_frzs xs) (frzs_frzs ys) (rx _) (ry _)) q
    · exact q.elim
  · exact q.elim
theorem os_iaddT : OpS X (inplaceOp .Add) gAddT := os_addT_of iop_catA
def tupA : D → Bool
  | .node .tup false ds => ds.all atom
  | _ => false
theorem frzs_atoms : ∀ {ds : List D}, ds.all atom = true → frzs ds = ds
  | [], _ => by simp [frzs]
  | d :: ds, h => by
    rw [List.all_cons, Bool.and_eq_true] at h
    rw [frzs, frz_atom h.1, frzs_atoms h.2]
theorem frz_tupA {d : D} (h : tupA d = true) : frz d = d := by
  unfold tupA at h
  split at h
  · rw [frz, frzs_atoms h]
  · cases h
def cAugT (i : Nat) (g : G2) (fb : Ev) : Sv := fun r => match r[i]? with
  | some (some d) => if tupA d = true then (fb r).st fun y r1 => (g (.val d) y r1).st fun z r2 => match z with
    | .val d' => .nx (r2.set i (some d'))
    | .loc _ => .bad else .bad
  | _ => .bad
theorem vs_augT {i : Nat} {x : Str} {e : Expr} {op : Operator} {g : G2} {pos' pos : Pos} (hN : X.N.Nodup) (hi : X.N[i]? = some x) (hx : L2.Loc X.env.scope x) (hp : ∀ p ∈ C.pin, p.1 ≠ i) (ho : OpS X (inplaceOp op) g) (he : VE X G C W e fb)
    (hf : X.fn x = true ∨ X.env.scope.names.lookup x = some .local := by first | exact .inl rfl | exact .inr rfl | assumption) : VS X G C W (.AugAssign (.Name x pos') op e pos) (cAugT i g fb) := by
  obtain ⟨rr, h1, h2⟩ := ho
  refine PS.imp (ps_aug (ti := rr) hN hi hx he h1 hf) fun D s H h => ?_
  obtain ⟨r, T, S, h⟩ := h
  unfold cAugT at h
  cases q : r[i]? with
  | none => rw [q] at h; exact h.elim
  | some o =>
    cases o with
    | none => rw [q] at h; exact h.elim
    | some d =>
      rw [q] at h
      simp only at h
      split at h
      · rename_i a
        obtain ⟨ow, S⟩ := S
        obtain ⟨v, q1, q2⟩ := S.sl i d q
        refine ⟨v, q1, ?_⟩
        have S1 : StOk G C r (T ++ [(d, v)]) s H := ⟨ow, S.push (Rep.moveF d (frz_tupA a) (fun a o z q => ⟨z, q⟩) (fun _ _ z _ => z) q2)⟩
        refine ⟨r, T ++ [(d, v)], S1, ?_⟩
        cases e : fb r with
        | ok y r1 =>
          rw [e] at h
          simp only [st_ok] at h
          intro u H1 P
          refine h2 G C W r1 T s H1 (.val d) y v u _ (by show StOk G C r1 (T ++ ([(d, v)] ++ pushR y u)) s H1; rw [← List.append_assoc]; exact P.1) trivial P.2 ?_
          cases e2 : g (.val d) y r1 with
          | ok z r2 =>
            rw [e2] at h
            simp only [st_ok] at h
            cases z with
            | loc j => exact h.elim
            | val d' => exact fun w H2 P2 => h _ _ (P2.1.set hp)
          | exc c r2 => rw [e2] at h; exact fun H2 S2 => h s H2 S2
          | bad => rw [e2] at h; exact h.elim
        | exc c r1 => rw [e] at h; exact fun H' S' => h s H' S'.drop
        | bad => rw [e] at h; exact h.elim
      · exact h.elim
theorem paired_imp {α β : Type} {F K : α → β → Prop} (f : ∀ a b, F a b → K a b) : ∀ {xs : List α} {ys : List β}, Paired F xs ys → Paired K xs ys
  | _, _, .nil => .nil
  | _, _, .cons h t => .cons (f _ _ h) (paired_imp f t)
def pairOf : D → Option (L2.Key × D)
  | .node .tup _ [k, d] => (match keyD k with
    | some x => some (x, d)
    | none => none)
  | _ => none
def pairsOf : List D → Option (List (L2.Key × D))
  | [] => some []
  | d :: ds => match pairOf d, pairsOf ds with
    | some p, some ps => some (p :: ps)
    | _, _ => none
theorem mergeK_new : ∀ {more kvs : List (L2.Key × V)}, ((kvs ++ more).map (·.1)).Nodup → mergeK kvs more = kvs ++ more
  | [], kvs, _ => (List.append_nil kvs).symm
  | p :: more, kvs, h => by
    show mergeK (putK kvs p.1 p.2) more = _
    have h1 : valV kvs p.1 = none := by
      unfold valV
      rw [Option.map_eq_none_iff, List.find?_eq_none]
      intro q hq e
      have e : q.1 = p.1 := of_decide_eq_true e
      rw [List.map_append, List.nodup_append] at h
      exact h.2.2 _ (List.mem_map_of_mem hq) _ (List.mem_map_of_mem (List.mem_cons_self)) e
    rw [putK_new _ h1]
    have e : kvs ++ p :: more = (kvs ++ [p]) ++ more := by simp
    rw [e] at h ⊢
    exact mergeK_new h
def gDictOf (x : R) (r : Rho) : EO := match opd r x with
  | some (.node .lst _ ds) => (match pairsOf ds with
    | some ps => if (ps.map (·.1)).Nodup then .ok (.val (.node (.dK (ps.map (·.1))) true (frzs (ps.map (·.2))))) (touch r x) else .bad
    | none => .bad)
  | _ => .bad
def cDictOf (fa : Ev) : Ev := fun r => (fa r).bd gDictOf
theorem pairs_rep : ∀ {ds : List D} {ps : List (L2.Key × D)} {i j : Nat} {ws : List V}, pairsOf ds = some ps → Reps G ow H (frzs ds) ⟨.fo, []⟩ i ws → ∃ (bs : List Addr) (us : List V), ws = bs.map V.ref ∧ us.length = ps.length ∧
    Paired (fun p (kv : L2.Key × V) => H p = some (.tup [kV kv.1, kv.2])) bs ((ps.map (·.1)).zip us) ∧ Reps G ow H (frzs (ps.map (·.2))) ⟨.fo, []⟩ j us
  | [], ps, i, j, ws, e, h => by
    cases e
    exact ⟨[], [], h, rfl, .nil, rfl⟩
  | d :: ds, ps, i, j, ws, e, h => by
    unfold pairsOf at e
    split at e
    · rename_i p ps' e1 e2
      cases e
      unfold pairOf at e1
      split at e1
      · rename_i o k dv
        split at e1
        · rename_i kk e3
          cases e1
          obtain ⟨v, ws', ev, h1, h2⟩ := h
          obtain ⟨bs, us, z1, z2, z3, z4⟩ := pairs_rep (j := j + 1) e2 h2
          obtain ⟨a, us0, ea, hA, oA, rA⟩ := h1
          obtain ⟨v1, us1, e4, rK, rA⟩ := rA
          obtain ⟨v2, us2, e5, rV, rA⟩ := rA
          subst e4 e5
          have rA : us2 = [] := rA
          subst rA
          have hA : H a = some (.tup [v1, v2]) := hA
          have ek : v1 = kV kk := keyD_rep (d := frz k) (by
            cases k with
            | int i => exact e3
            | str i => exact e3
            | _ => cases e3) rK
          subst ek
          refine ⟨a :: bs, v2 :: us, by rw [ev, ea, z1]; rfl, by rw [List.length_cons, List.length_cons, z2], .cons hA z3, ⟨v2, us, rfl, ?_, z4⟩⟩
          exact Rep.moveF _ (frz_frz dv) (fun a o z q => ⟨z, q⟩) (fun _ _ z _ => z) rV
        · cases e1
      · cases e1
    · cases e
theorem ve_dictOf {x : Str} {e : Expr} {p pos : Pos} (hc : X.calm = true) (hg : Gl X x) (hm : X.mg x = none) (hb : bootBuiltins x = some (.type "dict")) (ha : VE X G C W e fa) (hn : x ≠ "__name__" := by decide) (hdb : (x == ("__debug__" : Str)) = false := by decide)
    (hs : starEach [e] X.env = (false, eval e X.env) :: starEach [] X.env := by rfl) (hpl : (backTo pos (starEach [] X.env)).any (·.1) = false := by rfl) :
    VE X G C W (.Call (.Name x p) [e] [] pos) (cDictOf fa) := by
  refine PE.imp (pe_callTy (call_dictP hc) hg hm hb (pa_cons ha pa_nil hs) hn hdb hs hpl) fun s H Q h => ?_
  obtain ⟨r, T, S, g⟩ := h
  refine one S g fun x v r1 H1 P g1 => ?_
  obtain ⟨ow, S3⟩ := P.1
  unfold gDictOf at g1
  split at g1
  · rename_i o ds e1
    split at g1
    · rename_i ps e2
      split at g1
      · rename_i nd
        obtain ⟨ow', p, vs, S', ev, h1, rx, _⟩ := S3.parts P.2 e1
        subst ev
        obtain ⟨bs, us, z1, z2, z3, z4⟩ := pairs_rep (j := 0) e2 (rx ⟨.fo, []⟩)
        subst z1
        have hkl : (ps.map (·.1)).length = us.length := by rw [List.length_map, z2]
        refine ⟨p, bs, (ps.map (·.1)).zip us, rfl, SqL.of h1, ?_, ?_⟩
        · exact paired_imp (fun _ _ q => SqT.of q) z3
        · have em : mergeK [] ((ps.map (·.1)).zip us) = (ps.map (·.1)).zip us := by
            refine mergeK_new ?_
            rw [List.nil_append, List.map_fst_zip (by omega)]
            exact nd
          rw [em]
          exact S'.madeK hkl (frzs_frzs _) z4 g1
      · exact g1.elim
    · exact g1.elim
  · exact g1.elim
end
section
variable {fa fb : Ev} {r r1 r2 r3 : Rho}
theorem q_addT {o o' : Bool} (xs ys : List Int) (hl : xs.length + ys.length ≤ 16777216) : gAddT (.val (.node .tup o (xs.map .int))) (.val (.node .tup o' (ys.map .int))) r = .ok (.val (.node .tup false ((xs ++ ys).map .int))) r := by
  unfold gAddT
  show (if (xs.map D.int).length + (ys.map D.int).length ≤ 16777216 then EO.ok (R.val (.node .tup false (frzs (xs.map D.int) ++ frzs (ys.map D.int)))) r else .bad) = _
  rw [if_pos (by simpa using hl), frzs_ints, frzs_ints, List.map_append]
theorem augT_ok {i : Nat} (xs ys : List Int) {o : Bool} (h : r[i]? = some (some (.node .tup false (xs.map .int)))) (h2 : fb r = .ok (.val (.node .tup o (ys.map .int))) r1) (hl : xs.length + ys.length ≤ 16777216) (h3 : r1.set i (some (.node .tup false ((xs ++ ys).map .int))) = r2) : cAugT i gAddT fb r = .nx r2 := by
  unfold cAugT
  rw [h]
  have a : tupA (.node .tup false (xs.map D.int)) = true := by
    show (xs.map D.int).all atom = true
    rw [List.all_map, List.all_eq_true]
    intro x _
    rfl
  show (if tupA _ = true then _ else _) = _
  rw [if_pos a, h2]
  show (gAddT (.val (.node .tup false (xs.map .int))) (.val (.node .tup o (ys.map .int))) r1).st _ = _
  rw [q_addT xs ys hl]
  show SO.nx _ = _
  rw [h3]
theorem dictOf_ok {o : Bool} {ds : List D} {x : R} {ps : List (L2.Key × D)} (h : fa r = .ok x r1) (ho : opd r1 x = some (.node .lst o ds)) (e : pairsOf ds = some ps) (nd : (ps.map (·.1)).Nodup) (t : touch r1 x = r2) : cDictOf fa r = .ok (.val (.node (.dK (ps.map (·.1))) true (frzs (ps.map (·.2))))) r2 := by
  unfold cDictOf
  rw [h]
  show gDictOf x r1 = _
  unfold gDictOf
  rw [ho]
  show (match pairsOf ds with | some ps => (if (ps.map (fun p : L2.Key × D => p.1)).Nodup then EO.ok (R.val (.node (.dK (ps.map (fun p : L2.Key × D => p.1))) true (frzs (ps.map (fun p : L2.Key × D => p.2))))) (touch r1 x) else .bad) | none => .bad) = _
  rw [e]
  show (if (ps.map (·.1)).Nodup then _ else _) = _
  rw [if_pos nd, t]
end
end VL

namespace K10
open PySem PySem.Spec PyProof.Rows L2 VL
def tab : Tab := [(2, .inl 0, true), (2, .inl 2, true), (2, .inl 4, false), (2, .inr "ValueError", true), (2, .inl 6, false), (2, .inl 1, false), (2, .inl 3, false), (2, .inl 7, false), (2, .inl 5, false), (1, .inl 0, true), (1, .inl 2, false), (1, .inl 4, false), (1, .inr "ValueError", true), (1, .inl 6, false), (1, .inl 1, true), (1, .inl 3, false), (1, .inl 7, false), (1, .inl 5, false), (4, .inl 0, true), (4, .inl 2, false), (4, .inl 4, true), (4, .inr "ValueError", true), (4, .inl 6, false), (4, .inl 1, false), (4, .inl 3, false), (4, .inl 7, false), (4, .inl 5, false)]
noncomputable def f__law_decks : Sv := (cSeq (cAsg (.nm 1) (cSl (cVar 0) none (some (cC (.int 63)))))
  (cSeq (cIfS (cBin gEq (cVar 1) (cLst cNil)) (cAsg (.nm 1) (cLst (cCons (cSet (cC (.int 0))) cNil))) cSkip)
  (cRet (cLc [2] (.nm 2) (iRng rngI1 (cCons (cB (b1 lenD) (cCons (cVar 1) cNil)) cNil)) none (cLst (cCons (cSet (cBin gIx (cVar 1) (cVar 2))) (cCons (cSet (cBin gMod (cB (b1 lenD) (cCons (cVar 0) cNil)) (cC (.int 2)))) (cCons (cSet (cBin gMul (cC (.int 7)) (cVar 2))) cNil))))))))
noncomputable def F__law_decks : List D → FO := runF 3 f__law_decks
noncomputable def f__law_draw : Sv := (cSeq (cIfS (cBin gEq (cBin gIx (cVar 0) (cC (.int 1))) (cC (.int 0))) (cSeq (cAsg (.nm 2) (cBin gMod (cBin gIx (cVar 0) (cC (.int 0))) (cVar 1)))
  (cSeq (cSetIx 0 (cC (.int 0)) (cBin gDiv (cBin gIx (cVar 0) (cC (.int 0))) (cVar 1)))
  (cRet (cVar 2)))) cSkip)
  (cSeq (cSetIx 0 (cC (.int 2)) (cBin gAdd (cBin gIx (cVar 0) (cC (.int 2))) (cC (.int 1))))
  (cSeq (cAsg (.nm 3) (cBin gMod (cBin gAdd (cBin gMul (cBin gMod (cBin gIx (cVar 0) (cC (.int 0))) (cC (.int 1000000007))) (cC (.int 7919))) (cBin gMul (cBin gIx (cVar 0) (cC (.int 2))) (cC (.int 104729)))) (cC (.int 1000000009))))
  (cSeq (cAsg (.nm 3) (cBin gMod (cBin gMul (cVar 3) (cVar 3)) (cC (.int 998244353))))
  (cRet (cBin gMod (cBin gDiv (cBin gMod (cBin gAdd (cBin gMul (cVar 3) (cC (.int 31337))) (cBin gIx (cVar 0) (cC (.int 2)))) (cC (.int 754974721))) (cC (.int 3))) (cVar 1)))))))
noncomputable def F__law_draw : D → List D → MO := runQ 0 4 f__law_draw
noncomputable def f__law_drawn_lengths : Sv := (cSeq (cAsg (.nm 2) (cLst cNil))
  (cSeq (cAsg (.nm 3) (cNeg (cC (.int 1))))
  (cSeq (cFor (.nm 4) (iLst (cSlV (cCall 1 F__law_decks (cCons (cVar 0) cNil)) none (some (cVar 1)))) (cSeq (cAsg (.nm 3) (cBin gAdd (cBin gAdd (cVar 3) (cC (.int 1))) (cCallQ 0 1 F__law_draw (cCons (cVar 4) (cCons (cSet (cC (.int 4))) cNil)))))
  (cExpr (cApp 2 (cTup (cCons (cSet (cVar 3)) (cCons (cSet (cBin gAdd (cC (.int 1)) (cCallQ 0 1 F__law_draw (cCons (cVar 4) (cCons (cSet (cBin gIx (cLst (cCons (cSet (cC (.int 6))) (cCons (cSet (cC (.int 12))) (cCons (cSet (cC (.int 12))) (cCons (cSet (cC (.int 257))) cNil))))) (cCallQ 0 1 F__law_draw (cCons (cVar 4) (cCons (cSet (cC (.int 4))) cNil))))) cNil))))) cNil)))))))
  (cRet (cVar 2)))))
noncomputable def F__law_drawn_lengths : List D → FO := runF 5 f__law_drawn_lengths
noncomputable def f__law_let : Sv := (cSeq (cIfS (cBin gGt (cB (b1 maxD) (cCons (cBin gAdd (cLst (cCons (cSet (cC (.int 0))) cNil)) (cLc [3, 4] (.tp [3, 4]) (iLst (cVar 0)) none (cVar 4))) cNil)) (cC (.int 256))) (cRet (cC (.bl false))) cSkip)
  (cSeq (cAsg (.nm 1) (cBin gMul (cBin gMul (cBin gMul (cBin gPow (cC (.int 2)) (cC (.int 64))) (cBin gPow (cC (.int 2)) (cC (.int 64)))) (cBin gPow (cC (.int 2)) (cC (.int 64)))) (cBin gPow (cC (.int 2)) (cC (.int 64)))))
  (cSeq (cAsg (.nm 2) (cC (.int 0)))
  (cSeq (cFor (.tp [3, 4]) (iLst (cVar 0)) (cSeq (cAsg (.nm 5) (cVar 1))
  (cSeq (cFor (.nm 6) (iRng rngI1 (cCons (cVar 4) cNil)) (cAsg (.nm 5) (cBin gDiv (cVar 5) (cC (.int 2)))))
  (cAsg (.nm 2) (cBin gAdd (cVar 2) (cVar 5))))))
  (cRet (cBin gLe (cVar 2) (cVar 1)))))))
noncomputable def F__law_let : List D → FO := runF 7 f__law_let
noncomputable def f_room_of : Sv := (cSeq (cAsg (.nm 1) (cC (.int 115792089237316195423570985008687907853269984665640564039457584007913129639936)))
  (cSeq (cFor (.nm 2) (iRng rngI1 (cCons (cVar 0) cNil)) (cAsg (.nm 1) (cBin gDiv (cVar 1) (cC (.int 2)))))
  (cRet (cVar 1))))
noncomputable def F_room_of : List D → FO := runF 3 f_room_of
noncomputable def f_need_words : Sv := (cSeq (cIfS (cBin gNe (cLc [1, 2] (.tp [1, 2]) (iLst (cVar 0)) (some (cBin gGt (cVar 2) (cC (.int 256)))) (cVar 2)) (cLst cNil)) (cRaise 2) cSkip)
  (cIfS (cBin gGt (cB (b1 sumD) (cCons (cLc [1, 2] (.tp [1, 2]) (iLst (cVar 0)) none (cCall 1 F_room_of (cCons (cVar 2) cNil))) cNil)) (cC (.int 115792089237316195423570985008687907853269984665640564039457584007913129639936))) (cRaise 2) cSkip))
noncomputable def F_need_words : List D → FO := runF 3 f_need_words
noncomputable def f_figures_of : Sv := (cSeq (cAsg (.nm 1) (cLst cNil))
  (cSeq (whileL (cBin gGt (cVar 0) (cC (.int 0))) (cSeq (cExpr (cApp 1 (cBin gMod (cVar 0) (cC (.int 2)))))
  (cAsg (.nm 0) (cBin gDiv (cVar 0) (cC (.int 2))))) fuel)
  (cRet (cVar 1))))
noncomputable def F_figures_of : List D → FO := runF 2 f_figures_of
noncomputable def f_low_bits : Sv := (cSeq (cIfS (cBin gLt (cVar 0) (cC (.int 0))) (cRaise 1) cSkip)
  (cSeq (cAsg (.nm 2) (cCall 1 F_figures_of (cCons (cVar 0) cNil)))
  (cSeq (cIfS (cBin gGt (cB (b1 lenD) (cCons (cVar 2) cNil)) (cVar 1)) (cRaise 1) cSkip)
  (cRet (cBin gAdd (cBin gMul (cLst (cCons (cSet (cC (.int 0))) cNil)) (cBin gSub (cVar 1) (cB (b1 lenD) (cCons (cVar 2) cNil)))) (cRev (cVar 2)))))))
noncomputable def F_low_bits : List D → FO := runF 3 f_low_bits
noncomputable def f_words_by : Sv := (cSeq (cExpr (cCall 1 F_need_words (cCons (cVar 0) cNil)))
  (cSeq (cAsg (.nm 1) (cLst cNil))
  (cSeq (cAsg (.nm 2) (cC (.int 0)))
  (cSeq (cAsg (.nm 3) (cC (.int 0)))
  (cSeq (cFor (.tp [4, 5]) (iLst (cB gSortedP (cCons (cLc [5, 4] (.tp [5, 4]) (iLst (cVar 0)) none (cTup (cCons (cSet (cVar 4)) (cCons (cSet (cVar 5)) cNil)))) cNil))) (cSeq (cFor (.nm 6) (iRng rngI1 (cCons (cBin gSub (cVar 4) (cVar 3)) cNil)) (cAsg (.nm 2) (cBin gMul (cC (.int 2)) (cVar 2))))
  (cSeq (cExpr (cApp 1 (cTup (cCons (cSet (cVar 5)) (cCons (cSet (cCall 2 F_low_bits (cCons (cVar 2) (cCons (cVar 4) cNil)))) cNil)))))
  (cSeq (cAug 2 (g2 iAdd) (cC (.int 1)))
  (cAsg (.nm 3) (cVar 4))))))
  (cRet (cB gSortedN (cCons (cVar 1) cNil))))))))
noncomputable def F_words_by : List D → FO := runF 7 f_words_by
noncomputable def f_coded : Sv := (cSeq (cAsg (.nm 2) (cDictOf (cCall 1 F_words_by (cCons (cVar 1) cNil))))
  (cSeq (cAsg (.nm 3) (cLst cNil))
  (cSeq (cFor (.nm 4) (iLst (cVar 0)) (cSeq (cIfS (cBin gDNotIn (cVar 4) (cVar 2)) (cRaise 2) cSkip)
  (cExpr (cExt 3 (cBin dgetK (cVar 2) (cVar 4))))))
  (cRet (cVar 3)))))
noncomputable def F_coded : List D → FO := runF 5 f_coded
noncomputable def f_decoded : Sv := (cSeq (cAsg (.nm 4) cTNew)
  (cSeq (cFor (.tp [5, 6]) (iLst (cCall 1 F_words_by (cCons (cVar 2) cNil))) (cTPut 4 (cTupOf (cVar 6)) (cVar 5)))
  (cSeq (cIfS (cOr (cBin gLt (cVar 1) (cC (.int 0))) (cBin gGt (cVar 1) (cB (b1 lenD) (cCons (cVar 0) cNil)))) (cRaise 4) cSkip)
  (cSeq (cAsg (.nm 7) (cLst cNil))
  (cSeq (cAsg (.nm 8) (cVar 1))
  (cSeq (cFor (.nm 9) (iRng rngI1 (cCons (cVar 3) cNil)) (cSeq (cAsg (.nm 6) (cTup cNil))
  (cSeq (whileL (cBin gTNotIn (cVar 6) (cVar 4)) (cSeq (cIfS (cOr (cBin gGe (cVar 8) (cB (b1 lenD) (cCons (cVar 0) cNil))) (cBin gEq (cB (b1 lenD) (cCons (cVar 6) cNil)) (cC (.int 256)))) (cRaise 4) cSkip)
  (cSeq (cAugT 6 gAddT (cTup (cCons (cSet (cBin gIx (cVar 0) (cVar 8))) cNil)))
  (cAug 8 (g2 iAdd) (cC (.int 1))))) fuel)
  (cExpr (cApp 7 (cBin dgetT (cVar 4) (cVar 6)))))))
  (cRet (cTup (cCons (cSet (cVar 7)) (cCons (cSet (cVar 8)) cNil))))))))))
noncomputable def F_decoded : List D → FO := runF 10 f_decoded
noncomputable def f__law_kind : Sv := (cSeq (cAsg (.nm 5) (cC .non))
  (cSeq (cAsg (.nm 6) (cC .non))
  (cSeq (cTry (tbOf tab 0) (some 7) (cIfS (cBin gEq (cVar 0) (cC (.int 0))) (cAsg (.nm 6) (cCall 2 F_coded (cCons (cVar 1) (cCons (cVar 3) cNil)))) (cAsg (.nm 6) (cCall 4 F_decoded (cCons (cVar 1) (cCons (cVar 2) (cCons (cVar 3) (cCons (cVar 4) cNil))))))) (cAsg (.nm 5) (cVar 7)))
  (cSeq (cIfS (cBin gIs (cVar 5) (cC .non)) (cRet (cLst (cCons (cSet (cC (.str "told"))) (cCons (cTake 6) cNil)))) cSkip)
  (cSeq (cAsg (.nm 8) (cLst (cCons (cSet (cB (gIsi (etab tab)) (cCons (cVar 5) (cCons (cC (.cls 2)) cNil)))) (cCons (cSet (cB (gIsi (etab tab)) (cCons (cVar 5) (cCons (cC (.cls 4)) cNil)))) (cCons (cSet (cB (gIsi (etab tab)) (cCons (cVar 5) (cCons (cC (.ty "ValueError")) cNil)))) cNil)))))
  (cRet (cBin gAdd (cVar 8) (cLst (cCons (cSet (cB (gIsi (etab tab)) (cCons (cVar 5) (cCons (cSet (cTup (cCons (cSet (cC (.cls 6))) (cCons (cSet (cC (.cls 1))) (cCons (cSet (cC (.cls 3))) (cCons (cSet (cC (.cls 7))) (cCons (cSet (cC (.cls 5))) cNil))))))) cNil)))) cNil)))))))))
noncomputable def F__law_kind : List D → FO := runF 9 f__law_kind
noncomputable def f__law_words : Sv := (cSeq (cAsg (.nm 1) (cLst cNil))
  (cSeq (cAsg (.nm 2) (cLst cNil))
  (cSeq (cFor (.tp [3, 4]) (iLst (cB gSortedP (cCons (cLc [4, 3] (.tp [4, 3]) (iLst (cVar 0)) none (cTup (cCons (cSet (cVar 3)) (cCons (cSet (cVar 4)) cNil)))) cNil))) (cSeq (cIfS (cBin gEq (cVar 1) (cLst cNil)) (cAsg (.nm 2) (cBin gMul (cLst (cCons (cSet (cC (.int 0))) cNil)) (cVar 3))) (cSeq (cAsg (.nm 2) (cB (gListOf) (cCons (cVar 2) cNil)))
  (cSeq (cAsg (.nm 5) (cBin gSub (cB (b1 lenD) (cCons (cVar 2) cNil)) (cC (.int 1))))
  (cSeq (whileL (cBin gEq (cBin gIx (cVar 2) (cVar 5)) (cC (.int 1))) (cSeq (cSetIx 2 (cVar 5) (cC (.int 0)))
  (cAsg (.nm 5) (cBin gSub (cVar 5) (cC (.int 1))))) fuel)
  (cSeq (cSetIx 2 (cVar 5) (cC (.int 1)))
  (cAsg (.nm 2) (cBin gAdd (cVar 2) (cBin gMul (cLst (cCons (cSet (cC (.int 0))) cNil)) (cBin gSub (cVar 3) (cB (b1 lenD) (cCons (cVar 2) cNil)))))))))))
  (cExpr (cApp 1 (cTup (cCons (cSet (cVar 4)) (cCons (cSet (cVar 2)) cNil)))))))
  (cRet (cB gSortedN (cCons (cVar 1) cNil))))))
noncomputable def F__law_words : List D → FO := runF 6 f__law_words
noncomputable def f__law_decoded : Sv := (cSeq (cIfS (cNot (cCall 1 F__law_let (cCons (cVar 2) cNil))) (cRet (cLst (cCons (cSet (cC (.bl true))) (cCons (cSet (cC (.bl false))) (cCons (cSet (cC (.bl true))) (cCons (cSet (cC (.bl false))) cNil)))))) cSkip)
  (cSeq (cAsg (.nm 4) (cCall 1 F__law_words (cCons (cVar 2) cNil)))
  (cSeq (cIfS (cOr (cBin gLt (cVar 1) (cC (.int 0))) (cBin gGt (cVar 1) (cB (b1 lenD) (cCons (cVar 0) cNil)))) (cRet (cLst (cCons (cSet (cC (.bl false))) (cCons (cSet (cC (.bl true))) (cCons (cSet (cC (.bl true))) (cCons (cSet (cC (.bl false))) cNil)))))) cSkip)
  (cSeq (cAsg (.nm 5) (cLst cNil))
  (cSeq (cFor (.nm 6) (iRng rngI1 (cCons (cVar 3) cNil)) (cSeq (cAsg (.nm 7) (cLc [8, 9] (.tp [8, 9]) (iLst (cVar 4)) (some (cBin gEq (cSl (cVar 0) (some (cVar 1)) (some (cBin gAdd (cVar 1) (cB (b1 lenD) (cCons (cVar 9) cNil))))) (cVar 9))) (cVar 8)))
  (cSeq (cIfS (cBin gEq (cVar 7) (cLst cNil)) (cRet (cLst (cCons (cSet (cC (.bl false))) (cCons (cSet (cC (.bl true))) (cCons (cSet (cC (.bl true))) (cCons (cSet (cC (.bl false))) cNil)))))) cSkip)
  (cSeq (cExpr (cApp 5 (cBin gIx (cVar 7) (cC (.int 0)))))
  (cAsg (.nm 1) (cBin gAdd (cVar 1) (cB (b1 lenD) (cCons (cBin dgetK (cDictOf (cVar 4)) (cBin gIx (cVar 7) (cC (.int 0)))) cNil))))))))
  (cRet (cLst (cCons (cSet (cC (.str "told"))) (cCons (cSet (cTup (cCons (cSet (cVar 5)) (cCons (cSet (cVar 1)) cNil)))) cNil)))))))))
noncomputable def F__law_decoded : List D → FO := runF 10 f__law_decoded
noncomputable def f__law_read_right : Sv := (cSeq (cAsg (.nm 4) (cLst (cCons (cSet (cB (gListOf) (cCons (cVar 0) cNil))) (cCons (cSet (cB (gListOf) (cCons (cVar 2) cNil))) cNil))))
  (cSeq (cAsg (.nm 5) (cCall 5 F__law_kind (cCons (cC (.int 1)) (cCons (cBin gIx (cVar 4) (cC (.int 0))) (cCons (cVar 1) (cCons (cBin gIx (cVar 4) (cC (.int 1))) (cCons (cVar 3) cNil)))))))
  (cSeq (cIfS (cOr (cBin gNe (cVar 5) (cCall 4 F__law_decoded (cCons (cVar 0) (cCons (cVar 1) (cCons (cVar 2) (cCons (cVar 3) cNil)))))) (cBin gNe (cVar 4) (cLst (cCons (cSet (cVar 0)) (cCons (cSet (cVar 2)) cNil))))) (cRet (cC (.bl false))) cSkip)
  (cRet (cOr (cBin gNe (cBin gIx (cVar 5) (cC (.int 0))) (cC (.str "told"))) (cAnd (cB (gIsi (etab tab)) (cCons (cBin gIx (cVar 5) (cC (.int 1))) (cCons (cC (.ty "tuple")) cNil))) (cB (gIsi (etab tab)) (cCons (cBin gIx (cBin gIx (cVar 5) (cC (.int 1))) (cC (.int 0))) (cCons (cC (.ty "list")) cNil)))))))))
noncomputable def F__law_read_right : List D → FO := runF 6 f__law_read_right
noncomputable def f__law_all_read : Sv := (cSeq (cAsg (.nm 6) (cBin gAdd (cBin gAdd (cVar 0) (cVar 1)) (cSl (cVar 2) (some (cC (.int 9))) (some (cC (.int 20))))))
  (cSeq (cFor (.nm 7) (iLst (cLst (cCons (cSet (cC (.int 0))) (cCons (cSet (cC (.int 1))) (cCons (cSet (cBin gDiv (cB (b1 lenD) (cCons (cVar 5) cNil)) (cC (.int 2)))) (cCons (cSet (cB (b1 lenD) (cCons (cVar 5) cNil))) (cCons (cSet (cBin gAdd (cB (b1 lenD) (cCons (cVar 5) cNil)) (cC (.int 1)))) (cCons (cSet (cBin gAdd (cB (b1 lenD) (cCons (cVar 5) cNil)) (cC (.int 2)))) cNil)))))))) (cSeq (cIfS (cNot (cCall 4 F__law_read_right (cCons (cVar 6) (cCons (cB (b1 lenD) (cCons (cVar 0) cNil)) (cCons (cVar 3) (cCons (cVar 7) cNil)))))) (cRet (cC (.bl false))) cSkip)
  (cSeq (cIfS (cNot (cCall 4 F__law_read_right (cCons (cBin gAdd (cVar 0) (cVar 1)) (cCons (cB (b1 lenD) (cCons (cVar 0) cNil)) (cCons (cVar 3) (cCons (cVar 7) cNil)))))) (cRet (cC (.bl false))) cSkip)
  (cSeq (cIfS (cNot (cCall 4 F__law_read_right (cCons (cVar 2) (cCons (cB (b1 lenD) (cCons (cVar 0) cNil)) (cCons (cVar 3) (cCons (cBin gDiv (cVar 7) (cC (.int 3))) cNil)))))) (cRet (cC (.bl false))) cSkip)
  (cIfS (cNot (cCall 4 F__law_read_right (cCons (cVar 6) (cCons (cC (.int 0)) (cCons (cVar 4) (cCons (cVar 7) cNil)))))) (cRet (cC (.bl false))) cSkip)))))
  (cSeq (cFor (.nm 8) (iLst (cLst (cCons (cSet (cNeg (cC (.int 1)))) (cCons (cSet (cBin gSub (cNeg (cC (.int 1))) (cB (b1 lenD) (cCons (cVar 6) cNil)))) (cCons (cSet (cB (b1 lenD) (cCons (cVar 6) cNil))) (cCons (cSet (cBin gAdd (cB (b1 lenD) (cCons (cVar 6) cNil)) (cC (.int 1)))) (cCons (cSet (cBin gAdd (cBin gAdd (cB (b1 lenD) (cCons (cVar 6) cNil)) (cC (.int 2))) (cB (b1 lenD) (cCons (cVar 2) cNil)))) cNil))))))) (cFor (.nm 7) (iLst (cLst (cCons (cSet (cC (.int 0))) (cCons (cSet (cC (.int 1))) (cCons (cSet (cC (.int 3))) cNil))))) (cIfS (cOr (cNot (cCall 4 F__law_read_right (cCons (cVar 6) (cCons (cVar 8) (cCons (cVar 3) (cCons (cVar 7) cNil)))))) (cNot (cCall 4 F__law_read_right (cCons (cVar 6) (cCons (cVar 8) (cCons (cLst cNil) (cCons (cVar 7) cNil))))))) (cRet (cC (.bl false))) cSkip)))
  (cRet (cC (.bl true))))))
noncomputable def F__law_all_read : List D → FO := runF 9 f__law_all_read
noncomputable def f__law_bits : Sv := (cRet (cLc [2] (.nm 2) (iRng rngI1 (cCons (cCallQ 0 1 F__law_draw (cCons (cVar 0) (cCons (cSet (cBin gAdd (cVar 1) (cC (.int 1)))) cNil))) cNil)) none (cCallQ 0 1 F__law_draw (cCons (cVar 0) (cCons (cSet (cC (.int 2))) cNil)))))
noncomputable def F__law_bits : D → List D → MO := runQ 0 3 f__law_bits
noncomputable def f__law_coded : Sv := (cSeq (cIfS (cNot (cCall 1 F__law_let (cCons (cVar 1) cNil))) (cRet (cLst (cCons (cSet (cC (.bl true))) (cCons (cSet (cC (.bl false))) (cCons (cSet (cC (.bl true))) (cCons (cSet (cC (.bl false))) cNil)))))) cSkip)
  (cSeq (cAsg (.nm 2) (cDictOf (cCall 1 F__law_words (cCons (cVar 1) cNil))))
  (cSeq (cAsg (.nm 3) (cLst cNil))
  (cSeq (cFor (.nm 4) (iLst (cVar 0)) (cSeq (cIfS (cBin gDNotIn (cVar 4) (cVar 2)) (cRet (cLst (cCons (cSet (cC (.bl true))) (cCons (cSet (cC (.bl false))) (cCons (cSet (cC (.bl true))) (cCons (cSet (cC (.bl false))) cNil)))))) cSkip)
  (cAsg (.nm 3) (cBin gAdd (cVar 3) (cBin dgetK (cVar 2) (cVar 4))))))
  (cRet (cLst (cCons (cSet (cC (.str "told"))) (cCons (cSet (cVar 3)) cNil))))))))
noncomputable def F__law_coded : List D → FO := runF 5 f__law_coded
noncomputable def f__law_bits_right : Sv := (cSeq (cIfS (cBin gNe (cBin gIx (cVar 0) (cC (.int 0))) (cC (.str "told"))) (cRet (cC (.bl true))) cSkip)
  (cRet (cBin gEq (cLc [1] (.nm 1) (iLst (cBin gIx (cVar 0) (cC (.int 1)))) (some (cOr (cNot (cB (gIsi (etab tab)) (cCons (cVar 1) (cCons (cC (.ty "int")) cNil)))) (cB (gIsi (etab tab)) (cCons (cVar 1) (cCons (cC (.ty "bool")) cNil))))) (cVar 1)) (cLst cNil))))
noncomputable def F__law_bits_right : List D → FO := runF 2 f__law_bits_right
noncomputable def f__law_coded_right : Sv := (cSeq (cAsg (.nm 2) (cLst (cCons (cSet (cB (gListOf) (cCons (cVar 0) cNil))) (cCons (cSet (cB (gListOf) (cCons (cVar 1) cNil))) cNil))))
  (cSeq (cAsg (.nm 3) (cCall 5 F__law_kind (cCons (cC (.int 0)) (cCons (cBin gIx (cVar 2) (cC (.int 0))) (cCons (cC (.int 0)) (cCons (cBin gIx (cVar 2) (cC (.int 1))) (cCons (cC (.int 0)) cNil)))))))
  (cSeq (cIfS (cOr (cBin gNe (cVar 3) (cCall 2 F__law_coded (cCons (cVar 0) (cCons (cVar 1) cNil)))) (cNot (cCall 1 F__law_bits_right (cCons (cVar 3) cNil)))) (cRet (cC (.bl false))) cSkip)
  (cSeq (cIfS (cBin gEq (cBin gIx (cVar 3) (cC (.int 0))) (cC (.str "told"))) (cExpr (cAppP 3 (cC (.int 1)) (cC (.int 1)))) cSkip)
  (cRet (cBin gEq (cVar 2) (cLst (cCons (cSet (cVar 0)) (cCons (cSet (cVar 1)) cNil)))))))))
noncomputable def F__law_coded_right : List D → FO := runF 4 f__law_coded_right
noncomputable def f_law : Sv := (cSeq (cAsg (.nm 1) (cCall 1 F__law_decks (cCons (cVar 0) cNil)))
  (cSeq (cAsg (.nm 2) (cCall 2 F__law_drawn_lengths (cCons (cVar 0) (cCons (cC (.int 12)) cNil))))
  (cSeq (cAsg (.nm 3) (cB (gListOf) (cCons (cVar 2) cNil)))
  (cSeq (whileL (cNot (cCall 1 F__law_let (cCons (cVar 2) cNil))) (cAsg (.nm 2) (cSl (cVar 2) none (some (cNeg (cC (.int 1)))))) fuel)
  (cSeq (cAsg (.nm 4) (cLst cNil))
  (cSeq (cAsg (.nm 5) (cLst cNil))
  (cSeq (cForM 1 6 (cSeq (cAsg (.nm 4) (cBin gAdd (cVar 4) (cLc [15] (.nm 15) (iRng rngI1 (cCons (cBin gAdd (cC (.int 1)) (cCallQ 0 1 F__law_draw (cCons (cVar 6) (cCons (cSet (cC (.int 3))) cNil)))) cNil)) none (cBin gIx (cBin gIx (cVar 3) (cCallQ 0 1 F__law_draw (cCons (cVar 6) (cCons (cSet (cB (gMax2) (cCons (cC (.int 1)) (cCons (cB (b1 lenD) (cCons (cVar 2) cNil)) cNil)))) cNil)))) (cC (.int 0))))))
  (cAsg (.nm 5) (cBin gAdd (cVar 5) (cCallQ 0 1 F__law_bits (cCons (cVar 6) (cCons (cSet (cC (.int 6))) cNil)))))))
  (cSeq (cIfS (cBin gGt (cB (b1 maxD) (cCons (cBin gAdd (cLst (cCons (cSet (cC (.int 0))) cNil)) (cLc [14, 16] (.tp [14, 16]) (iLst (cVar 2)) none (cVar 16))) cNil)) (cC (.int 50))) (cAsg (.nm 4) (cSl (cVar 4) none (some (cC (.int 36))))) cSkip)
  (cSeq (cAsg (.nm 7) (cLc [14] (.nm 14) (iLst (cVar 4)) (some (cBin gDIn (cVar 14) (cDictOf (cVar 2)))) (cVar 14)))
  (cSeq (cAsg (.nm 8) (cLc [14] (.nm 14) (iRng rngI1 (cCons (cC (.int 256)) cNil)) (some (cBin gDNotIn (cVar 14) (cDictOf (cVar 3)))) (cVar 14)))
  (cSeq (cFor (.nm 9) (iRng rngI1 (cCons (cCallP 1 1 F__law_draw (cC (.int 0)) (cCons (cSet (cC (.int 3))) cNil)) cNil)) (cSeq (cAsg (.nm 10) (cCallP 1 1 F__law_draw (cC (.int 0)) (cCons (cSet (cBin gAdd (cB (b1 lenD) (cCons (cVar 4) cNil)) (cC (.int 1)))) cNil)))
  (cAsg (.nm 4) (cBin gAdd (cBin gAdd (cSl (cVar 4) none (some (cVar 10))) (cLst (cCons (cSet (cBin gIx (cVar 8) (cCallP 1 1 F__law_draw (cC (.int 0)) (cCons (cSet (cB (b1 lenD) (cCons (cVar 8) cNil))) cNil)))) cNil))) (cSl (cVar 4) (some (cVar 10)) none)))))
  (cSeq (cFor (.tp [11, 12]) (iLst (cLst (cCons (cSet (cTup (cCons (cSet (cVar 4)) (cCons (cSet (cVar 2)) cNil)))) (cCons (cSet (cTup (cCons (cSet (cVar 4)) (cCons (cSet (cVar 3)) cNil)))) (cCons (cSet (cTup (cCons (cSet (cVar 7)) (cCons (cSet (cVar 2)) cNil)))) (cCons (cSet (cTup (cCons (cSet (cLst cNil)) (cCons (cSet (cVar 3)) cNil)))) (cCons (cSet (cTup (cCons (cSet (cLst cNil)) (cCons (cSet (cLst cNil)) cNil)))) cNil))))))) (cIfS (cNot (cCall 2 F__law_coded_right (cCons (cVar 11) (cCons (cVar 12) cNil)))) (cRet (cC (.bl false))) cSkip))
  (cSeq (cAsg (.nm 13) (cSl (cVar 5) none (some (cC (.int 9)))))
  (cSeq (cIfS (cNot (cCall 6 F__law_all_read (cCons (cVar 13) (cCons (cBin gIx (cCall 2 F__law_coded (cCons (cVar 7) (cCons (cVar 2) cNil))) (cC (.int 1))) (cCons (cVar 5) (cCons (cVar 2) (cCons (cVar 3) (cCons (cVar 7) cNil)))))))) (cRet (cC (.bl false))) cSkip)
  (cRet (cAnd (cBin gEq (cCall 2 F_coded (cCons (cLst cNil) (cCons (cLst cNil) cNil))) (cLst cNil)) (cBin gEq (cCall 4 F_decoded (cCons (cVar 5) (cCons (cB (b1 lenD) (cCons (cVar 13) cNil)) (cCons (cLst cNil) (cCons (cC (.int 0)) cNil))))) (cTup (cCons (cSet (cLst cNil)) (cCons (cSet (cB (b1 lenD) (cCons (cVar 13) cNil))) cNil))))))))))))))))))))
noncomputable def F_law : List D → FO := runF 17 f_law
end K10

namespace K10.Bt
open PySem PySem.Spec PyProof.Rows L2 VL K10
theorem ints_frz (ns : List Int) (o : Bool) : frz (.node .lst o (ns.map .int)) = .node .lst false (ns.map .int) := by
  show D.node .lst false (frzs (ns.map D.int)) = _
  rw [frzs_ints]
theorem figs_loop : ∀ (k m n : Nat) (acc : List Bool), n < 2 ^ k → k < m → acc.length + k < 16777216 → whileL (cBin gGt (cVar 0) (cC (.int 0))) (cSeq (cExpr (cApp 1 (cBin gMod (cVar 0) (cC (.int 2))))) (cAsg (.nm 0) (cBin gDiv (cVar 0) (cC (.int 2))))) m [some (.int n), some (.node .lst true ((VL.bi acc).map .int))] = .nx [some (.int 0), some (.node .lst true ((VL.bi (acc ++ figs n)).map .int))]
  | k, 0, n, acc, _, h, _ => absurd h (Nat.not_lt_zero _)
  | k, m + 1, n, acc, h, hm, ha => by
    unfold whileL
    by_cases h0 : n = 0
    · subst h0
      simp [figs_zero]
    · cases k with
      | zero => simp at h; omega
      | succ k =>
        have e := figs_loop k m (n / 2) (acc ++ [n % 2 == 1]) (by rw [Nat.pow_succ] at h; omega) (by omega) (by simp; omega)
        rw [figs_pos h0]
        have hp : (0 : Int) < n := by omega
        have e1 : ((n / 2 : Nat) : Int) = (n : Int) / 2 := by omega
        have e2 : VL.bi (acc ++ [n % 2 == 1]) = VL.bi acc ++ [(n : Int) % 2] := by
          unfold VL.bi; rw [List.map_append]
          show _ ++ [((n % 2 == 1).toNat : Int)] = _
          have : ((n % 2 == 1).toNat : Int) = (n : Int) % 2 := by
            rcases Nat.mod_two_eq_zero_or_one n with z | z
            · rw [z]; show (0 : Int) = _; omega
            · rw [z]; show (1 : Int) = _; omega
          rw [this]
        have q1 : posOk (n : Int) 2 = true := rfl
        have q2 : divOk (n : Int) 2 = true := rfl
        have hl : (VL.bi acc).length < 16777216 := by simp [VL.bi]; omega
        rw [e1, e2, List.append_assoc, List.map_append] at e
        have hp' : 0 < n := by omega
        simp [hp', q1, q2, hl]
        simpa using e
theorem figures_ok (n : Nat) (h : n < 2 ^ 500) : F_figures_of [.int n] = .ok (.node .lst true ((VL.bi (figs n)).map .int)) := by
  have e := figs_loop 500 fuel n [] h (lt_fuel (by decide)) (by decide)
  have e' : whileL (cBin gGt (cVar 0) (cC (.int 0))) (cSeq (cExpr (cApp 1 (cBin gMod (cVar 0) (cC (.int 2))))) (cAsg (.nm 0) (cBin gDiv (cVar 0) (cC (.int 2))))) fuel [some (.int n), some (.node .lst true [])] = _ := e
  unfold F_figures_of runF f_figures_of
  simp [startR, e']
theorem rep_zero (j : Nat) : (List.replicate j (frzs [D.int 0])).flatten = (VL.bi (List.replicate j false)).map .int := by
  have e : frzs [D.int 0] = [D.int 0] := rfl
  rw [e, List.flatten_replicate_singleton]
  simp [VL.bi]
theorem low_ok (n j : Nat) (hn : n < 2 ^ 500) (hk : j < 1000) : F_low_bits [.int n, .int (((figs n).length : Int) + j)] = .ok (.node .lst true ((VL.bi (List.replicate j false ++ (figs n).reverse)).map .int)) := by
  have fz : frzs [D.int (n : Int)] = [D.int (n : Int)] := rfl
  have e := figures_ok n hn
  have nl := noL_lints (VL.bi (figs n))
  have hl : (VL.bi (figs n)).length = (figs n).length := by simp [VL.bi]
  have hf := figs_len hn
  have g1 : ¬ (((figs n).length : Int) + j < ((figs n).length : Int)) := by omega
  have g2 : -9223372036854775808 ≤ (j : Int) := by omega
  have g3 : (j : Int) < 9223372036854775808 := by omega
  have g4 : j ≤ 16777216 := by omega
  have g5 : j + (figs n).length ≤ 16777216 := by omega
  have h0 : ¬ ((n : Int) < 0) := by omega
  have hr : (VL.bi (List.replicate j false)).length = j := by simp [VL.bi]
  have hv : (List.map D.int (VL.bi (figs n))).reverse = (VL.bi (figs n).reverse).map .int := by simp [VL.bi]
  have ha : VL.bi (List.replicate j false ++ (figs n).reverse) = VL.bi (List.replicate j false) ++ VL.bi (figs n).reverse := by simp [VL.bi]
  have hl2 : (VL.bi (figs n).reverse).length = (figs n).length := by simp [VL.bi]
  unfold F_low_bits runF f_low_bits
  rw [ha, List.map_append]
  simp only [startR]
  have hs : ((figs n).length : Int) + j - (figs n).length = j := by omega
  have ml : ∀ r : Rho, gMul (.val (.node .lst true [.int 0])) (.val (.int (j : Int))) r = .ok (.val (.node .lst true ((VL.bi (List.replicate j false)).map .int))) r := fun r => by
    rw [q_mulL ⟨by omega, by omega, by simp; omega⟩, Int.toNat_natCast, rep_zero]
  have ma : ∀ r : Rho, gAdd (.val (.node .lst true ((VL.bi (List.replicate j false)).map .int))) (.val (.node .lst true ((VL.bi (figs n).reverse).map .int))) r = .ok (.val (.node .lst true ((VL.bi (List.replicate j false) ++ VL.bi (figs n).reverse).map .int))) r := fun r => q_addLI _ _ (by rw [hr, hl2]; exact g5)
  rw [List.map_append] at ma
  have ml2 : ∀ r : Rho, gMul (.val (.node .lst true [.int 0])) (.val (.int (((figs n).length : Int) + j - (figs n).length))) r = .ok (.val (.node .lst true ((VL.bi (List.replicate j false)).map .int))) r := fun r => by rw [hs]; exact ml r
  clear hs ml
  simp [fz, e, nl, ints_frz, hl, h0, g1, frzs_int, ml2, hv, ma]
theorem bi_len (bs : List Bool) : (VL.bi bs).length = bs.length := by simp [VL.bi]
theorem set_same {r : Rho} {i : Nat} {d : D} (h : r[i]? = some (some d)) : r.set i (some d) = r := by
  refine List.ext_getElem? fun j => ?_
  by_cases hj : i = j
  · subst hj
    rw [List.getElem?_set_self (List.getElem?_eq_some_iff.mp h).1, h]
  · rw [List.getElem?_set_ne hj]
theorem seq_nx {f g : Sv} {r r1 : Rho} (h : f r = .nx r1) : cSeq f g r = g r1 := by
  rw [q_seq, h]; rfl
theorem touch_loc {r : Rho} {i : Nat} {o : Bool} (ys : List Int) (h : r[i]? = some (some (.node .lst o (ys.map .int)))) : touch r (.loc i) = r := by
  show (match r[i]? with | some (some d) => r.set i (some (frzB d)) | _ => r) = r
  rw [h]
  show r.set i (some (.node .lst o (frzs (ys.map .int)))) = r
  rw [frzs_ints]
  exact set_same h
theorem opd_loc' {r : Rho} {i : Nat} {d : D} (h : r[i]? = some (some d)) : opd r (.loc i) = some d := by
  show (match r[i]? with | some (some d) => some d | _ => none) = _
  rw [h]
def L (bs : List Bool) : D := .node .lst false ((VL.bi bs).map .int)
def enc (n : Nat) : List Bool := List.replicate ((figs n).length - 1) false ++ (figs n).reverse
def nn (ns : List Nat) : List Int := List.map (α := Nat) (fun n => (n : Int)) ns
theorem take_take {α : Type} (l : List α) (a b c : Nat) (h1 : a ≤ b) (h2 : b ≤ c) : (l.drop a).take (b - a) ++ (l.drop b).take (c - b) = (l.drop a).take (c - a) := by
  have e : l.drop b = (l.drop a).drop (b - a) := by rw [List.drop_drop]; congr 1; omega
  have e2 : c - a = (b - a) + (c - b) := by omega
  rw [e, e2, List.take_add]
abbrev B (o : Bool) (bs : List Bool) : D := .node .lst o ((VL.bi bs).map .int)
theorem low_x (x : List Bool) (hx : x.length ≤ 450) : F_low_bits [.int (wb x), .int x.length] = .ok (B true x) := by
  obtain ⟨z, e⟩ := figs_wb x
  have hl : x.length = z + (figs (wb x)).length := by
    have := congrArg List.length e
    simpa using this
  have hn : wb x < 2 ^ 500 := Nat.lt_of_lt_of_le (wb_lt x) (Nat.pow_le_pow_right (by decide) (by omega))
  have q := low_ok (wb x) z hn (by omega)
  have e1 : (((figs (wb x)).length : Int) + (z : Nat)) = (x.length : Int) := by omega
  rw [e1, ← e] at q
  exact q
end K10.Bt

local macro_rules | `(tactic| walk_at "nm") => `(tactic| ((repeat (with_reducible apply VH.set_s)); (with_reducible exact VH.set_0)))
local macro_rules | `(tactic| walk_at "sz") => `(tactic| first | (with_reducible assumption) | exact Nat.le_of_ble_eq_true rfl | omega | (simp only [List.length_map, List.length_append, List.length_cons, List.length_nil, List.length_range, List.length_replicate, List.length_take, List.length_drop, List.length_set, List.length_reverse] <;> omega) | (simp only [List.length_map, List.length_append, List.length_cons, List.length_nil, List.length_range, List.length_replicate, List.length_take, List.length_drop, List.length_set, List.length_reverse] at * <;> omega))
local macro_rules | `(tactic| walk_at "tg") => `(tactic| first | ((with_reducible apply VH.tgt_nm); (walk_at "nm")) | ((with_reducible apply VH.tgt_tp); (exact rfl); (walk_at "sa")) | ((with_reducible apply VH.tgt_tl); (exact rfl); (walk_at "sa")) | exact rfl)
local macro_rules | `(tactic| walk_at "sa") => `(tactic| first | (with_reducible exact VH.setAll_n _) | ((with_reducible apply VH.setAll_c); (walk_at "nm"); (walk_at "sa")))
local macro_rules | `(tactic| walk_at "tc") => `(tactic| first | (with_reducible exact VH.touch_v _ _) | ((with_reducible apply VH.touch_l); (exact rfl); (infer_instance)) | ((with_reducible apply VH.touch_g); (exact rfl); (infer_instance); (walk_at "nm")) | exact rfl)
local macro_rules | `(tactic| walk_at "at") => `(tactic| first | (with_reducible assumption) | (with_reducible refine VH.at_enc ?_; first | assumption | omega) | exact rfl)
local macro_rules | `(tactic| walk_at "bf") => `(tactic| first | exact rfl | assumption | (simp only [decide_eq_false_iff_not, decide_eq_true_eq, Bool.and_eq_false_iff, Bool.and_eq_true, Bool.or_eq_false_iff, Bool.or_eq_true, Bool.not_eq_false', Bool.not_eq_true', Bool.not_true, Bool.not_false, Bool.or_false, Bool.false_or, Bool.and_true, Bool.true_and, Bool.and_false, Bool.false_and, Bool.or_true, Bool.true_or, Bool.or_self, Bool.and_self] <;> omega) | (simp <;> fail) | (simp <;> omega) | (simp [*] <;> fail))
local macro_rules | `(tactic| walk_at "ev") => `(tactic| first | (with_reducible exact VH.cc_d _ _) | (with_reducible exact VH.nil_ok _) | ((with_reducible apply VL.cvar_at); (exact rfl); (exact rfl)) | ((with_reducible apply VL.cvar_loc); (exact rfl); (exact rfl)) | ((with_reducible apply VH.cons_ok); (walk_at "ev"); (walk_at "ev")) | (walk_at "ev1") | (walk_at "ev2") | (walk_at "ev3") | (with_reducible assumption))
local macro_rules | `(tactic| walk_at "ev1") => `(tactic| first | ((with_reducible apply VH.set_loc); (exact rfl); (exact rfl); (infer_instance); (walk_at "nm")) | ((with_reducible apply VH.set_val); (walk_at "ev")) | ((with_reducible apply VH.set_any); (exact rfl); (first | assumption | exact VH.fz)) | ((with_reducible apply VL.add_ok); (walk_at "ev"); (walk_at "ev")) | ((with_reducible apply VL.sub_ok); (walk_at "ev"); (walk_at "ev")) | ((with_reducible apply VL.mod_ok); (walk_at "ev"); (walk_at "ev"); (first | omega | assumption)) | ((with_reducible apply VL.div_ok); (walk_at "ev"); (walk_at "ev"); (first | omega | assumption); (first | omega | assumption)) | ((with_reducible apply VL.lt_ok); (walk_at "ev"); (walk_at "ev")) | ((with_reducible apply VL.le_ok); (walk_at "ev"); (walk_at "ev")) | ((with_reducible apply VL.gt_ok); (walk_at "ev"); (walk_at "ev")) | ((with_reducible apply VL.ge_ok); (walk_at "ev"); (walk_at "ev")) | ((with_reducible apply VL.eq_ok); (walk_at "ev"); (walk_at "ev")) | ((with_reducible apply VL.ne_ok); (walk_at "ev"); (walk_at "ev")) | ((with_reducible apply VL.mul_ok); (walk_at "ev"); (walk_at "ev"); (first | assumption | exact VH.mulOk_l (by omega) | exact VH.mulOk_r (by omega))))
local macro_rules | `(tactic| walk_at "ev2") => `(tactic| first | ((with_reducible apply VH.addL_go); (walk_at "ev"); (walk_at "ev"); (exact rfl); (exact rfl); (infer_instance); (infer_instance); (walk_at "sz"); (walk_at "tc"); (walk_at "tc")) | ((with_reducible apply VH.ixA_go); (walk_at "ev"); (walk_at "ev"); (exact rfl); (exact rfl); (walk_at "at"); (exact rfl)) | ((with_reducible apply VH.ix_go); (walk_at "ev"); (walk_at "ev"); (exact rfl); (exact rfl); (walk_at "at"); (infer_instance); (walk_at "tc"); (intro hat; first | exact rfl | exact Bool.noConfusion hat)) | ((with_reducible apply VH.lenE_go); (walk_at "ev"); (exact rfl); (exact rfl)) | ((with_reducible apply VH.len_go); (walk_at "ev"); (exact rfl); (exact rfl)) | ((with_reducible apply VH.lst_ok); (walk_at "ev"); (exact rfl); (walk_at "sz")) | ((with_reducible apply VH.tup_ok); (walk_at "ev"); (exact rfl); (walk_at "sz")) | ((with_reducible apply VH.call_go); (walk_at "ev"); (exact rfl); (infer_instance); (exact rfl); (with_reducible assumption); (infer_instance)) | ((with_reducible apply VH.call_any); (walk_at "ev"); (exact rfl); (infer_instance); (exact rfl); (with_reducible assumption); (walk_at "se")) | ((with_reducible apply VH.call_set); (walk_at "ev"); (exact rfl); (infer_instance); (exact rfl); (with_reducible assumption); (first | (with_reducible assumption) | exact rfl); (walk_at "se")) | ((with_reducible apply VH.listOf_go); (walk_at "ev"); (exact rfl); (exact rfl); (infer_instance); (walk_at "tc")) | ((with_reducible apply VH.neg_ok); (walk_at "ev")) | ((with_reducible apply VH.max_ok); (walk_at "ev"); (walk_at "ev")) | ((with_reducible apply VH.min_ok); (walk_at "ev"); (walk_at "ev")) | ((with_reducible apply VH.not_t); (walk_at "ev")) | ((with_reducible apply VH.not_f); (walk_at "ev")) | ((with_reducible apply VL.not_ok); (walk_at "ev")) | ((with_reducible apply VH.tru_bl); (walk_at "ev")) | ((with_reducible apply VH.pop_go); (exact rfl); (exact rfl); (infer_instance); (walk_at "nm")) | ((with_reducible apply VH.lrev_go); (walk_at "ev"); (exact rfl); (infer_instance); (walk_at "tc")) | ((with_reducible apply VH.lrevL_go); (walk_at "ev"); (exact rfl); (infer_instance); (walk_at "tc")) | ((with_reducible apply VH.sl_ss); (walk_at "ev"); (exact rfl); (exact rfl); (infer_instance); (walk_at "ev"); (walk_at "ev"); (walk_at "tc"); (first | omega | assumption); (first | omega | assumption)) | ((with_reducible apply VH.sl_ns); (walk_at "ev"); (exact rfl); (exact rfl); (infer_instance); (walk_at "ev"); (walk_at "tc"); (first | omega | assumption)) | ((with_reducible apply VH.sl_sn); (walk_at "ev"); (exact rfl); (exact rfl); (infer_instance); (walk_at "ev"); (walk_at "tc"); (first | omega | assumption)) | ((with_reducible apply VH.pow_go); (walk_at "ev"); (walk_at "ev"); (first | (with_reducible assumption) | exact rfl | decide +kernel); (with_reducible assumption)) | ((with_reducible apply VH.sum_go); (walk_at "ev"); (exact rfl)) | ((with_reducible apply VH.int_bl); (walk_at "ev")) | ((with_reducible apply VH.int_int); (walk_at "ev")))
local macro_rules | `(tactic| walk_at "ev3") => `(tactic| first | ((with_reducible apply VH.and_no); (walk_at "ev")) | ((with_reducible apply VH.and_go); (walk_at "ev"); (walk_at "ev")) | ((with_reducible apply VH.and_b); (walk_at "ev"); (walk_at "ev")) | ((with_reducible apply VH.or_yes); (walk_at "ev")) | ((with_reducible apply VH.or_go); (walk_at "ev"); (walk_at "ev")) | ((with_reducible apply VH.or_b); (walk_at "ev"); (walk_at "ev")) | ((with_reducible apply VH.isi_go); (walk_at "ev"); (exact rfl); (first | exact (rfl : _ = some true) | exact (rfl : _ = some false))) | ((with_reducible apply VH.isiC_go); (walk_at "ev"); (exact rfl); (first | exact (rfl : _ = some true) | exact (rfl : _ = some false))) | ((with_reducible apply VH.eqD_go); (walk_at "ev"); (walk_at "ev"); (exact rfl); (exact rfl); (first | assumption | exact VH.eqL _ _ _ _ | exact VL.eq_lints _ _ | exact VL.eq_prs _ _)) | ((with_reducible apply VH.neD_go); (walk_at "ev"); (walk_at "ev"); (exact rfl); (exact rfl); (first | assumption | exact VH.neL _ _ _ _ | exact VL.ne_lints _ _ | exact VL.ne_prs _ _)) | ((with_reducible apply VH.it_lstG); (walk_at "ev"); (exact rfl)) | ((with_reducible apply VH.it_enumG); (walk_at "ev"); (infer_instance)) | ((with_reducible apply VH.it_rng3); (walk_at "ev"); (walk_at "ev"); (walk_at "ev"); (with_reducible assumption)) | ((with_reducible apply VH.it_rngI); (walk_at "ev"); (first | assumption | exact VL.within_le (by omega) (by omega))) | ((with_reducible apply VH.it_rng2); (walk_at "ev"); (walk_at "ev"); (first | assumption | exact VL.within_le (by omega) (by omega)); (first | assumption | exact VL.within_le (by omega) (by omega))))
local macro_rules | `(tactic| walk_at "st") => `(tactic| first | ((with_reducible apply VH.asg_go); (walk_at "ev"); (walk_at "nm")) | ((with_reducible apply VH.asgT_go); (walk_at "ev"); (walk_at "tg")) | ((with_reducible apply VH.aug_go); (exact rfl); (walk_at "ev"); (walk_at "nm")) | ((with_reducible apply VH.augS_go); (exact rfl); (walk_at "ev"); (walk_at "nm")) | ((with_reducible apply VH.augM_go); (exact rfl); (walk_at "ev"); (first | assumption | exact VH.mulOk_l (by omega) | exact VH.mulOk_r (by omega)); (walk_at "nm")) | ((with_reducible apply VH.app_go); (exact rfl); (walk_at "ev"); (exact rfl); (walk_at "sz"); (walk_at "nm")) | ((with_reducible apply VH.ext_go); (exact rfl); (walk_at "ev"); (exact rfl); (walk_at "tc"); (exact rfl); (infer_instance); (infer_instance); (walk_at "sz"); (walk_at "nm")) | (with_reducible exact VH.skip_go _) | ((with_reducible apply VH.par_go); (walk_at "ev"); (exact rfl); (exact rfl); (walk_at "sa")) | ((with_reducible apply VH.setIx_go); (walk_at "ev"); (exact rfl); (walk_at "ev"); (exact rfl); (first | assumption | exact VH.ixN_nat (by first | assumption | omega)); (walk_at "nm")) | ((with_reducible apply VH.expr_go); (walk_at "ev")) | (with_reducible assumption))
local macro_rules | `(tactic| walk_at "go1") => `(tactic| first | (with_reducible apply VH.seq_as) | ((with_reducible apply VH.seq_ret); (walk_at "ev"); (exact rfl)) | (with_reducible apply VH.seq_sk) | ((with_reducible apply VH.seq_ra); (exact rfl)) | ((with_reducible apply VH.seq_go); (walk_at "st")) | ((with_reducible apply VH.ret_go); (walk_at "ev")) | (walk_at "st"))
local macro_rules | `(tactic| walk_at "go") => `(tactic| (repeat (walk_at "go1")))
local macro_rules | `(tactic| walk_at "yes") => `(tactic| first | ((with_reducible apply VH.seq_yes); (walk_at "ev"); (walk_at "bf")) | ((with_reducible apply VH.ifs_y); (walk_at "ev"); (walk_at "bf")))
local macro_rules | `(tactic| walk_at "no") => `(tactic| first | ((with_reducible apply VH.seq_no); (walk_at "ev"); (walk_at "bf"); (try (with_reducible apply VH.seq_sk))) | ((with_reducible apply VH.ifs_n); (walk_at "ev"); (walk_at "bf")))
local macro_rules | `(tactic| walk_at "for") => `(tactic| first | ((with_reducible apply VH.seq_go); ((with_reducible apply VH.for_go); (walk_at "ev"))) | ((with_reducible apply VH.for_go); (walk_at "ev")))
local macro_rules | `(tactic| walk_at "start") => `(tactic| ((repeat (first | (with_reducible apply VH.start_c) | (with_reducible apply VH.start_n))); (with_reducible exact VH.start_z)))
local macro_rules | `(tactic| walk_at "def") => `(tactic| ((apply VH.runF_go); (walk_at "start"); (show VL.cSeq _ _ _ = _); (walk_at "go")))
local macro_rules | `(tactic| walk_at "se") => `(tactic| first | (with_reducible exact VH.se_n _) | ((with_reducible apply VH.se_v); (walk_at "se")) | ((with_reducible apply VH.se_l); (exact rfl); (infer_instance); (walk_at "nm"); (walk_at "se")))
local macro_rules | `(tactic| walk_at "why") => `(tactic| ((with_reducible apply VH.wh_y); (walk_at "ev"); (walk_at "bf"); (walk_at "go")))
local macro_rules | `(tactic| walk_at "whn") => `(tactic| ((with_reducible apply VH.wh_n); (walk_at "ev"); (walk_at "bf")))
local macro_rules | `(tactic| walk_at "gor") => `(tactic| ((apply VH.nx_to); (walk_at "go"); (exact rfl)))
namespace K10.Co
open PySem PySem.Spec PyProof.Rows L2 VL VH
open K10 K10.Bt
abbrev Lp := Int × Nat
def pl (p : Lp) : D := .node .tup false [.int p.1, .int (p.2 : Nat)]
theorem frz_pl (p : Lp) : frz (pl p) = pl p := rfl
theorem frzs_pl (L : List Lp) : frzs (L.map pl) = L.map pl := by
  rw [frzs_map, List.map_map]
  exact List.map_congr_left fun p _ => frz_pl p
instance (L : List Lp) : Fzs (L.map pl) (L.map pl) := ⟨frzs_pl L⟩
def room (l : Nat) : Nat := 2 ^ (256 - l)
def kr (L : List Lp) : Nat := (L.map fun p => room p.2).sum
theorem room_loop (A : Option D) : ∀ (ks : List Nat) (n : Nat) (u : Option D), ∃ u', forL (.nm 2) (cAsg (.nm 1) (cBin gDiv (cVar 1) (cC (.int 2)))) (ks.map nt) [A, some (nt n), u] = .nx [A, some (nt (n / 2 ^ ks.length)), u']
  | [], n, u => ⟨u, by rw [List.length_nil, Nat.pow_zero, Nat.div_one]; rfl⟩
  | k :: ks, n, u => by
    obtain ⟨u', ih⟩ := room_loop A ks (n / 2) (some (nt k))
    refine ⟨u', forL_c (r2 := [A, some (nt (n / 2)), some (nt k)]) rfl ?_ ?_⟩
    · exact asg_go (div_ok (i := (n : Int)) (j := 2) rfl rfl (by decide) (by decide)) (by rfl)
    · rw [ih, List.length_cons, Nat.div_div_eq_div_mul, ← Nat.pow_succ']
theorem whole_lit : ((115792089237316195423570985008687907853269984665640564039457584007913129639936 : Int)) = ((2 ^ 256 : Nat) : Int) := by decide +kernel
theorem room_for (l : Nat) (hl : l ≤ 256) : ∃ u', cFor (.nm 2) (iRng rngI1 (cCons (cVar 0) cNil)) (cAsg (.nm 1) (cBin gDiv (cVar 1) (cC (.int 2)))) [some (.int (l : Nat)), some (.int (2 ^ 256 : Nat)), none] = .nx [some (.int (l : Nat)), some (nt (room l)), u'] := by
  obtain ⟨u', e⟩ := room_loop (some (.int (l : Nat))) (List.range l) (2 ^ 256) none
  rw [List.length_range] at e
  have e2 : 2 ^ 256 / 2 ^ l = room l := by
    unfold room
    exact Nat.pow_div hl (by decide)
  rw [e2] at e
  refine ⟨u', for_go (it_rngI rfl (by unfold within; exact decide_eq_true (by omega))) ?_⟩
  rw [Int.toNat_natCast, rng_nt]
  exact e
theorem room_ok (l : Nat) (hl : l ≤ 256) : F_room_of [.int (l : Nat)] = .ok (nt (room l)) := by
  obtain ⟨u', e⟩ := room_for l hl
  unfold F_room_of f_room_of
  rw [whole_lit]
  walk_at "def"
  rfl
theorem longs (L : List Lp) (hl : L.length < 16777216) : cLc [1, 2] (.tp [1, 2]) (iLst (cVar 0)) (some (cBin gGt (cVar 2) (cC (.int 256)))) (cVar 2) [some (.node .lst false (L.map pl)), none, none] = .ok (.val (.node .lst true (((L.filter fun p => decide (256 < (p.2 : Int))).map fun p => ((p.2 : Nat) : Int)).map .int))) [some (.node .lst false (L.map pl)), none, none] := by
  rw [List.map_map]
  refine lc_fl (enc := pl) (g := D.int ∘ fun p => ((p.2 : Nat) : Int)) (p := fun p => decide (256 < (p.2 : Int))) L (r1 := [some (.node .lst false (L.map pl)), none, none]) (r0 := [some (.node .lst false (L.map pl)), none, none]) ?_ rfl hl ?_
  · exact it_lstG (o := false) (k := .lst) (set_loc (d := .node .lst false (L.map pl)) rfl rfl inferInstance rfl) rfl
  · intro p hp
    refine ⟨[some (.node .lst false (L.map pl)), some (.int p.1), some (.int (p.2 : Nat))], rfl, [some (.node .lst false (L.map pl)), some (.int p.1), some (.int (p.2 : Nat))], ?_, rfl, fun _ => ⟨[some (.node .lst false (L.map pl)), some (.int p.1), some (.int (p.2 : Nat))], ?_, rfl⟩⟩
    · show cBin gGt (cVar 2) (cC (.int 256)) _ = _
      exact gt_ok rfl rfl
    · exact set_val (cvar_at rfl rfl)
theorem rooms (L : List Lp) (hl : L.length < 16777216) (h : ∀ p ∈ L, p.2 ≤ 256) : cLc [1, 2] (.tp [1, 2]) (iLst (cVar 0)) none (cCall 1 F_room_of (cCons (cVar 2) cNil)) [some (.node .lst false (L.map pl)), none, none] = .ok (.val (.node .lst true (L.map fun p => nt (room p.2)))) [some (.node .lst false (L.map pl)), none, none] := by
  refine lc_all (enc := pl) (g := fun p => nt (room p.2)) L (r1 := [some (.node .lst false (L.map pl)), none, none]) (r0 := [some (.node .lst false (L.map pl)), none, none]) ?_ rfl hl ?_
  · exact it_lstG (o := false) (k := .lst) (set_loc (d := .node .lst false (L.map pl)) rfl rfl inferInstance rfl) rfl
  · intro p hp
    refine ⟨[some (.node .lst false (L.map pl)), some (.int p.1), some (.int (p.2 : Nat))], rfl, [some (.node .lst false (L.map pl)), some (.int p.1), some (.int (p.2 : Nat))], ?_, rfl⟩
    exact set_val (call_go (cons_ok (cvar_at rfl rfl) (nil_ok _)) rfl inferInstance rfl (room_ok p.2 (h p hp)) inferInstance)
theorem kr_sum (L : List Lp) : ((L.map fun p => ((room p.2 : Nat) : Int))).sum = ((kr L : Nat) : Int) := by
  unfold kr
  induction L with
  | nil => rfl
  | cons p L ih => simp only [List.map_cons, List.sum_cons, ih]; omega
theorem rooms_sum (L : List Lp) (hl : L.length < 16777216) (h : ∀ p ∈ L, p.2 ≤ 256) : cB (b1 sumD) (cCons (cLc [1, 2] (.tp [1, 2]) (iLst (cVar 0)) none (cCall 1 F_room_of (cCons (cVar 2) cNil))) cNil) [some (.node .lst false (L.map pl)), none, none] = .ok (.val (nt (kr L))) [some (.node .lst false (L.map pl)), none, none] := by
  have e := sum_go (o := true) (ns := L.map fun p => ((room p.2 : Nat) : Int)) (rooms L hl h) (by rw [List.map_map]; rfl)
  rw [kr_sum] at e
  exact e
abbrev LS : List Lp → Rho := fun L => [some (.node .lst false (L.map pl)), none, none]
abbrev lgE : Ev := cBin gNe (cLc [1, 2] (.tp [1, 2]) (iLst (cVar 0)) (some (cBin gGt (cVar 2) (cC (.int 256)))) (cVar 2)) (cLst cNil)
theorem longs_ne (L : List Lp) (hl : L.length < 16777216) : lgE (LS L) = .ok (.val (.bl (!decide ((L.filter fun p => decide (256 < (p.2 : Int))).map (fun p => ((p.2 : Nat) : Int)) = [])))) (LS L) :=
  bin_ok (longs L hl) (y := .val (.node .lst true [])) rfl (g2_ok rfl rfl (ne_lints _ []) rfl)
theorem longs_no (L : List Lp) (hl : L.length < 16777216) (h : ∀ p ∈ L, p.2 ≤ 256) : lgE (LS L) = .ok (.val (.bl false)) (LS L) := by
  have e := longs_ne L hl
  have e2 : (L.filter fun p => decide (256 < (p.2 : Int))) = [] := by
    rw [List.filter_eq_nil_iff]
    intro p hp q
    have := h p hp
    have q := of_decide_eq_true q
    omega
  rw [e2] at e
  exact e
theorem longs_yes (L : List Lp) (hl : L.length < 16777216) (h : ∃ p ∈ L, 256 < p.2) : lgE (LS L) = .ok (.val (.bl true)) (LS L) := by
  obtain ⟨p, hp, q⟩ := h
  have e := longs_ne L hl
  have hm : p ∈ L.filter fun p => decide (256 < (p.2 : Int)) := List.mem_filter.mpr ⟨hp, decide_eq_true (by omega)⟩
  have e2 : ¬ (L.filter fun p => decide (256 < (p.2 : Int))).map (fun p => ((p.2 : Nat) : Int)) = [] := fun q => by
    rw [List.map_eq_nil_iff] at q
    rw [q] at hm
    cases hm
  rw [decide_eq_false e2] at e
  exact e
noncomputable abbrev krE : Ev := cBin gGt (cB (b1 sumD) (cCons (cLc [1, 2] (.tp [1, 2]) (iLst (cVar 0)) none (cCall 1 F_room_of (cCons (cVar 2) cNil))) cNil)) (cC (.int (2 ^ 256 : Nat)))
theorem kr_gt (L : List Lp) (hl : L.length < 16777216) (h : ∀ p ∈ L, p.2 ≤ 256) : krE (LS L) = .ok (.val (.bl (decide (2 ^ 256 < kr L)))) (LS L) := by
  have e : decide (((2 ^ 256 : Nat) : Int) < ((kr L : Nat) : Int)) = decide (2 ^ 256 < kr L) := by
    congr 1
    exact propext Int.ofNat_lt
  rw [← e]
  exact gt_ok (rooms_sum L hl h) rfl
theorem need_ok (L : List Lp) (hl : L.length < 16777216) (h : ∀ p ∈ L, p.2 ≤ 256) (hk : kr L ≤ 2 ^ 256) : F_need_words [.node .lst false (L.map pl)] = .ok .non := by
  unfold F_need_words f_need_words
  rw [whole_lit]
  have q1 := longs_no L hl h
  have q2 := kr_gt L hl h
  rw [decide_eq_false (Nat.not_lt.mpr hk)] at q2
  exact runF_nx (r := LS L) rfl (seq_go (ifs_n (r1 := LS L) q1 rfl rfl) (ifs_n q2 rfl rfl))
theorem need_long (L : List Lp) (hl : L.length < 16777216) (h : ∃ p ∈ L, 256 < p.2) : F_need_words [.node .lst false (L.map pl)] = .exc 2 := by
  unfold F_need_words f_need_words
  exact runF_exc (r := LS L) rfl (seq_exc (r1 := LS L) (ifs_y (longs_yes L hl h) rfl rfl))
theorem need_full (L : List Lp) (hl : L.length < 16777216) (h : ∀ p ∈ L, p.2 ≤ 256) (hk : 2 ^ 256 < kr L) : F_need_words [.node .lst false (L.map pl)] = .exc 2 := by
  unfold F_need_words f_need_words
  rw [whole_lit]
  have q1 := longs_no L hl h
  have q2 := kr_gt L hl h
  rw [decide_eq_true hk] at q2
  exact runF_exc (r := LS L) (r1 := LS L) rfl (seq_go (ifs_n (r1 := LS L) q1 rfl rfl) (ifs_y q2 rfl rfl))
end K10.Co

namespace K10.Co
open PySem PySem.Spec PyProof.Rows L2 VL VH
open K10 K10.Bt
def bw : Nat → Nat → List Bool
  | 0, _ => []
  | l + 1, n => bw l (n / 2) ++ [n % 2 == 1]
theorem bw_len : ∀ (l n : Nat), (bw l n).length = l
  | 0, _ => rfl
  | l + 1, n => by
    show (bw l (n / 2) ++ [n % 2 == 1]).length = _
    rw [List.length_append, bw_len l, List.length_singleton]
theorem wb_bw : ∀ (l n : Nat), n < 2 ^ l → wb (bw l n) = n
  | 0, n, h => by
    have : n = 0 := by simpa using h
    subst this; rfl
  | l + 1, n, h => by
    show wb (bw l (n / 2) ++ [n % 2 == 1]) = _
    have h2 : n / 2 < 2 ^ l := by rw [Nat.pow_succ] at h; omega
    rw [wb_snoc, wb_bw l _ h2]
    have h3 : (n % 2 == 1).toNat = n % 2 := by
      rcases Nat.mod_two_eq_zero_or_one n with e | e
      · rw [e]; rfl
      · rw [e]; rfl
    rw [h3]
    omega
def ws (n a : Nat) : List (Nat × Int) → List (Int × List Bool)
  | [] => []
  | q :: r => (q.2, bw q.1 (n * 2 ^ (q.1 - a))) :: ws (n * 2 ^ (q.1 - a) + 1) q.1 r
def krS (S : List (Nat × Int)) : Nat := (S.map fun q => room q.1).sum
def Fit (n a : Nat) (S : List (Nat × Int)) : Prop := a ≤ 256 ∧ (∀ q ∈ S, a ≤ q.1 ∧ q.1 ≤ 256) ∧ S.Pairwise (fun p q => p.1 ≤ q.1) ∧ n * room a + krS S ≤ 2 ^ 256
theorem room_pos (l : Nat) : 0 < room l := Nat.pow_pos (by decide)
theorem room_mul {a l : Nat} (h : a ≤ l) (h2 : l ≤ 256) : room a = 2 ^ (l - a) * room l := by
  unfold room
  rw [← Nat.pow_add]
  congr 1; omega
theorem room_two {l : Nat} (h : l ≤ 256) : 2 ^ l * room l = 2 ^ 256 := by
  unfold room
  rw [← Nat.pow_add]
  congr 1; omega
theorem Fit.head {n a : Nat} {q : Nat × Int} {S : List (Nat × Int)} (f : Fit n a (q :: S)) : n * 2 ^ (q.1 - a) < 2 ^ q.1 ∧ Fit (n * 2 ^ (q.1 - a) + 1) q.1 S := by
  obtain ⟨h1, h2, h3, h4⟩ := f
  obtain ⟨h5, h6⟩ := h2 q List.mem_cons_self
  have h7 := List.pairwise_cons.mp h3
  have e : n * room a = n * 2 ^ (q.1 - a) * room q.1 := by rw [room_mul h5 h6, Nat.mul_assoc]
  have e2 : krS (q :: S) = room q.1 + krS S := by unfold krS; rw [List.map_cons, List.sum_cons]
  rw [e, e2] at h4
  have e3 : (n * 2 ^ (q.1 - a) + 1) * room q.1 = n * 2 ^ (q.1 - a) * room q.1 + room q.1 := by rw [Nat.add_mul, Nat.one_mul]
  refine ⟨?_, h6, fun p hp => ⟨h7.1 p hp, (h2 p (List.mem_cons_of_mem _ hp)).2⟩, h7.2, by rw [e3]; omega⟩
  have h8 : (n * 2 ^ (q.1 - a) + 1) * room q.1 ≤ 2 ^ q.1 * room q.1 := by rw [room_two h6, e3]; omega
  exact Nat.le_of_mul_le_mul_right h8 (room_pos q.1)
def so (L : List Lp) : List (Nat × Int) := (srtP (L.map fun p => (((p.2 : Nat) : Int), p.1))).map fun q => (q.1.toNat, q.2)
theorem so_back (L : List Lp) : srtP (L.map fun p => (((p.2 : Nat) : Int), p.1)) = (so L).map fun q => (((q.1 : Nat) : Int), q.2) := by
  unfold so
  rw [List.map_map]
  refine ((List.map_congr_left fun q hq => ?_).trans (List.map_id _)).symm
  obtain ⟨p, _, e⟩ := List.mem_map.mp ((srtP_perm _).mem_iff.mp hq)
  subst e
  show (((((p.2 : Nat) : Int).toNat : Nat) : Int), p.1) = _
  rw [Int.toNat_natCast]; rfl
theorem so_perm (L : List Lp) : (so L).Perm (L.map fun p => (p.2, p.1)) := by
  have h := (srtP_perm (L.map fun p => (((p.2 : Nat) : Int), p.1))).map fun q => (q.1.toNat, q.2)
  rw [List.map_map] at h
  refine h.trans (List.Perm.of_eq (List.map_congr_left fun p _ => ?_))
  show ((((p.2 : Nat) : Int).toNat : Nat), p.1) = _
  rw [Int.toNat_natCast]
theorem so_up (L : List Lp) : (so L).Pairwise (fun p q => p.1 ≤ q.1) := by
  unfold so
  refine List.pairwise_map.mpr ((srtP_up _).imp fun {p q} h => ?_)
  have := leP_iff.mp h
  show p.1.toNat ≤ q.1.toNat
  omega
theorem so_len (L : List Lp) : (so L).length = L.length := by rw [(so_perm L).length_eq, List.length_map]
theorem kr_so (L : List Lp) : krS (so L) = kr L := by
  unfold krS kr
  rw [((so_perm L).map fun q => room q.1).sum_nat, List.map_map]
  rfl
theorem so_fit {L : List Lp} (h : ∀ p ∈ L, p.2 ≤ 256) (hk : kr L ≤ 2 ^ 256) : Fit 0 0 (so L) := by
  refine ⟨by decide, fun q hq => ⟨Nat.zero_le _, ?_⟩, so_up L, by rw [Nat.zero_mul, kr_so]; omega⟩
  obtain ⟨p, hp, e⟩ := List.mem_map.mp ((so_perm L).mem_iff.mp hq)
  rw [← e]; exact h p hp
abbrev nw (o : Bool) (q : Int × List Bool) : D := nlD o (q.1, VL.bi q.2)
theorem dbl_loop (x0 x1 x3 x4 x5 : Option D) : ∀ (ks : List Nat) (n : Nat) (u : Option D), ∃ u', forL (.nm 6) (cAsg (.nm 2) (cBin gMul (cC (.int 2)) (cVar 2))) (ks.map nt) [x0, x1, some (nt n), x3, x4, x5, u] = .nx [x0, x1, some (nt (n * 2 ^ ks.length)), x3, x4, x5, u']
  | [], n, u => ⟨u, by rw [List.length_nil, Nat.pow_zero, Nat.mul_one]; rfl⟩
  | k :: ks, n, u => by
    obtain ⟨u', ih⟩ := dbl_loop x0 x1 x3 x4 x5 ks (2 * n) (some (nt k))
    refine ⟨u', forL_c (r2 := [x0, x1, some (nt (2 * n)), x3, x4, x5, some (nt k)]) rfl ?_ ?_⟩
    · refine VH.asg_go (set_val (mul_ok (i := 2) (j := (n : Int)) rfl rfl (VH.mulOk_l (by decide)))) ?_
      show _ = _
      rw [show ((2 : Int) * (n : Int)) = ((2 * n : Nat) : Int) from by omega]
      rfl
    · rw [ih, List.length_cons, Nat.pow_succ]
      have e : 2 * n * 2 ^ ks.length = n * (2 ^ ks.length * 2) := by
        rw [Nat.mul_comm 2 n, Nat.mul_assoc, Nat.mul_comm 2]
      rw [e]
noncomputable abbrev wBody : Sv := (cSeq (cFor (.nm 6) (iRng rngI1 (cCons (cBin VL.gSub (cVar 4) (cVar 3)) cNil)) (cAsg (.nm 2) (cBin gMul (cC (.int 2)) (cVar 2))))
  (cSeq (cExpr (cApp 1 (cTup (cCons (cSet (cVar 5)) (cCons (cSet (cCall 2 F_low_bits (cCons (cVar 2) (cCons (cVar 4) cNil)))) cNil)))))
  (cSeq (cAug 2 (g2 iAdd) (cC (.int 1)))
  (cAsg (.nm 3) (cVar 4)))))
abbrev W7 (A : D) (f : List (Int × List Bool)) (n a : Nat) (x4 x5 x6 : Option D) : Rho := [some A, some (.node .lst true (f.map (nw true))), some (nt n), some (nt a), x4, x5, x6]
theorem w_step (A : D) (f : List (Int × List Bool)) (n a : Nat) (q : Nat × Int) (S : List (Nat × Int)) (h : Fit n a (q :: S)) (hf : f.length < 10000) (x6 : Option D) : ∃ x6', wBody (W7 A f n a (some (nt q.1)) (some (.int q.2)) x6) = .nx (W7 A (f ++ [(q.2, bw q.1 (n * 2 ^ (q.1 - a)))]) (n * 2 ^ (q.1 - a) + 1) q.1 (some (nt q.1)) (some (.int q.2)) x6') := by
  have hq := h.2.1 q List.mem_cons_self
  obtain ⟨u', e⟩ := dbl_loop (some A) (some (.node .lst true (f.map (nw true)))) (some (nt a)) (some (nt q.1)) (some (.int q.2)) (List.range (q.1 - a)) n x6
  rw [List.length_range] at e
  have hl := low_x (bw q.1 (n * 2 ^ (q.1 - a))) (by rw [bw_len]; omega)
  rw [wb_bw _ _ h.head.1, bw_len] at hl
  refine ⟨u', ?_⟩
  refine seq_go (r1 := W7 A f (n * 2 ^ (q.1 - a)) a (some (nt q.1)) (some (.int q.2)) u') (for_go (it_rngI (n := ((q.1 - a : Nat) : Int)) ?_ (by unfold within; exact decide_eq_true (by omega))) (by rw [Int.toNat_natCast, rng_nt]; exact e)) ?_
  · have e2 : ((q.1 - a : Nat) : Int) = (q.1 : Int) - (a : Int) := by omega
    rw [e2]
    exact sub_ok (i := (q.1 : Int)) (j := (a : Int)) rfl rfl
  refine seq_go (r1 := W7 A (f ++ [(q.2, bw q.1 (n * 2 ^ (q.1 - a)))]) (n * 2 ^ (q.1 - a)) a (some (nt q.1)) (some (.int q.2)) u') ?_ ?_
  · have c : cCall 2 F_low_bits (cCons (cVar 2) (cCons (cVar 4) cNil)) (W7 A f (n * 2 ^ (q.1 - a)) a (some (nt q.1)) (some (.int q.2)) u') = .ok (.val (B true (bw q.1 (n * 2 ^ (q.1 - a))))) (W7 A f (n * 2 ^ (q.1 - a)) a (some (nt q.1)) (some (.int q.2)) u') :=
      call_go (cons_ok (cvar_at rfl rfl) (cons_ok (cvar_at rfl rfl) (nil_ok _))) rfl inferInstance rfl hl inferInstance
    refine app_go rfl (set_val (tup_ok (cons_ok (set_val (cvar_at rfl rfl)) (cons_ok (set_val c) (nil_ok _))) rfl (Nat.le_of_ble_eq_true rfl))) rfl (by rw [List.length_map]; omega) ?_
    show _ = [some A, some (.node .lst true ((f ++ [_]).map (nw true))), _, _, _, _, _]
    rw [List.map_append]
    rfl
  · walk_at "gor"
theorem w_loop (A : D) : ∀ (S : List (Nat × Int)) (f : List (Int × List Bool)) (n a : Nat) (x4 x5 x6 : Option D), Fit n a S → f.length + S.length < 10000 → ∃ n' a' x4' x5' x6', forL (.tp [4, 5]) wBody (S.map fun q => VL.pairD (((q.1 : Nat) : Int), q.2)) (W7 A f n a x4 x5 x6) = .nx (W7 A (f ++ ws n a S) n' a' x4' x5' x6')
  | [], f, n, a, x4, x5, x6, _, _ => ⟨n, a, x4, x5, x6, by
    show SO.nx _ = _
    rw [show ws n a [] = [] from rfl, List.append_nil]⟩
  | q :: S, f, n, a, x4, x5, x6, h, hf => by
    rw [List.length_cons] at hf
    obtain ⟨x6', e⟩ := w_step A f n a q S h (by omega) x6
    obtain ⟨n', a', y4, y5, y6, ih⟩ := w_loop A S (f ++ [(q.2, bw q.1 (n * 2 ^ (q.1 - a)))]) (n * 2 ^ (q.1 - a) + 1) q.1 (some (nt q.1)) (some (.int q.2)) x6' h.head.2 (by rw [List.length_append, List.length_singleton]; omega)
    refine ⟨n', a', y4, y5, y6, ?_⟩
    rw [List.append_assoc] at ih
    exact forL_c rfl e ih
def Ws (L : List Lp) : List (Int × List Bool) := ws 0 0 (so L)
def Wt (L : List Lp) : List NK := srtN ((Ws L).map fun q => (q.1, VL.bi q.2))
theorem words_ok (L : List Lp) (hl : L.length < 10000) (h : ∀ p ∈ L, p.2 ≤ 256) (hk : kr L ≤ 2 ^ 256) : F_words_by [.node .lst false (L.map pl)] = .ok (.node .lst true ((Wt L).map (nlD false))) := by
  obtain ⟨n', a', x4, x5, x6, e⟩ := w_loop (.node .lst false (L.map pl)) (so L) [] 0 0 none none none (so_fit h hk) (by rw [so_len]; simpa using hl)
  have e0 := need_ok L (by omega) h hk
  have e1 : cLc [5, 4] (.tp [5, 4]) (iLst (cVar 0)) none (cTup (cCons (cSet (cVar 4)) (cCons (cSet (cVar 5)) cNil))) (W7 (.node .lst false (L.map pl)) [] 0 0 none none none) = .ok (.val (.node .lst true ((L.map fun p => (((p.2 : Nat) : Int), p.1)).map VL.pairD))) (W7 (.node .lst false (L.map pl)) [] 0 0 none none none) := by
    rw [List.map_map]
    refine lc_all (enc := pl) (g := VL.pairD ∘ fun p => (((p.2 : Nat) : Int), p.1)) L (r1 := W7 (.node .lst false (L.map pl)) [] 0 0 none none none) (r0 := W7 (.node .lst false (L.map pl)) [] 0 0 none none none) ?_ rfl (by omega) ?_
    · exact it_lstG (o := false) (k := .lst) (set_loc (d := .node .lst false (L.map pl)) rfl rfl inferInstance rfl) rfl
    · intro p hp
      refine ⟨W7 (.node .lst false (L.map pl)) [] 0 0 (some (nt p.2)) (some (.int p.1)) none, rfl, W7 (.node .lst false (L.map pl)) [] 0 0 (some (nt p.2)) (some (.int p.1)) none, ?_, rfl⟩
      exact set_val (tup_ok (cons_ok (set_val (cvar_at rfl rfl)) (cons_ok (set_val (cvar_at rfl rfl)) (nil_ok _))) rfl (Nat.le_of_ble_eq_true rfl))
  have e2 := VL.sortedP_ok e1
  rw [so_back, List.map_map] at e2
  have e3 : cFor (.tp [4, 5]) (iLst (cB gSortedP (cCons (cLc [5, 4] (.tp [5, 4]) (iLst (cVar 0)) none (cTup (cCons (cSet (cVar 4)) (cCons (cSet (cVar 5)) cNil)))) cNil))) wBody (W7 (.node .lst false (L.map pl)) [] 0 0 none none none) = .nx (W7 (.node .lst false (L.map pl)) ([] ++ ws 0 0 (so L)) n' a' x4 x5 x6) :=
    for_go (it_lstG (set_val e2) rfl) e
  rw [List.nil_append] at e3
  have e4 : cB gSortedN (cCons (cVar 1) cNil) (W7 (.node .lst false (L.map pl)) (Ws L) n' a' x4 x5 x6) = .ok (.val (.node .lst true ((Wt L).map (nlD false)))) (touch (W7 (.node .lst false (L.map pl)) (Ws L) n' a' x4 x5 x6) (.loc 1)) := by
    rw [q_B, q_cons, VL.cvar_loc (d := .node .lst true ((Ws L).map (nw true))) rfl rfl]
    show (match nlsOf ((Ws L).map (nw true)) with | some ps => EO.ok (.val (.node .lst true ((srtN ps).map (nlD false)))) (touch _ _) | none => .bad) = _
    have e5 : (Ws L).map (nw true) = ((Ws L).map fun q => (q.1, VL.bi q.2)).map (nlD true) := by rw [List.map_map]; rfl
    rw [e5, nlsOf_map]
    rfl
  unfold F_words_by f_words_by
  walk_at "def"
  refine seq_go e3 ?_
  · exact ret_go e4
  rfl
theorem words_exc (L : List Lp) (hl : L.length < 10000) (h : F_need_words [.node .lst false (L.map pl)] = .exc 2) : F_words_by [.node .lst false (L.map pl)] = .exc 2 := by
  unfold F_words_by f_words_by
  refine runF_exc (r := [some (.node .lst false (L.map pl)), none, none, none, none, none, none]) rfl (seq_exc (r1 := [some (.node .lst false (L.map pl)), none, none, none, none, none, none]) (expr_exc ?_))
  exact call_exc (cons_ok (VL.cvar_loc rfl rfl) (nil_ok _)) rfl inferInstance rfl h
end K10.Co

namespace K10.Co
open PySem PySem.Spec PyProof.Rows L2 VL VH
open K10 K10.Bt
theorem ws_fst : ∀ (S : List (Nat × Int)) (n a : Nat), (ws n a S).map (·.1) = S.map (·.2)
  | [], _, _ => rfl
  | q :: S, n, a => by
    show q.2 :: (ws _ _ S).map (·.1) = _
    rw [ws_fst S]; rfl
theorem Wt_perm (L : List Lp) : (Wt L).Perm ((Ws L).map fun q => (q.1, VL.bi q.2)) := srtN_perm _
theorem Wt_fst (L : List Lp) : ((Wt L).map (·.1)).Perm (L.map (·.1)) := by
  refine ((Wt_perm L).map (·.1)).trans ?_
  rw [List.map_map]
  show ((Ws L).map fun q => q.1).Perm _
  have e := ws_fst (so L) 0 0
  have e2 : (Ws L).map (fun q => q.1) = (so L).map (·.2) := e
  rw [e2]
  have h := (so_perm L).map (·.2)
  rw [List.map_map] at h
  exact h
theorem Wt_len (L : List Lp) : (Wt L).length = L.length := by
  have := (Wt_fst L).length_eq
  simpa using this
theorem Wt_mem {L : List Lp} {s : Int} : s ∈ (Wt L).map (·.1) ↔ s ∈ L.map (·.1) := (Wt_fst L).mem_iff
def look : List NK → Int → List Int
  | [], _ => []
  | p :: W, s => if p.1 = s then p.2 else look W s
theorem look_at : ∀ {W : List NK} {p : NK}, (W.map (·.1)).Nodup → p ∈ W → look W p.1 = p.2
  | q :: W, p, hn, hp => by
    have hn := List.nodup_cons.mp hn
    show (if q.1 = p.1 then q.2 else look W p.1) = _
    rcases List.mem_cons.mp hp with e | hp
    · subst e
      rw [if_pos rfl]
    · rw [if_neg (fun e => hn.1 (by show q.1 ∈ _; rw [e]; exact List.mem_map_of_mem (f := fun x : NK => x.1) hp))]
      exact look_at hn.2 hp
theorem look_mem : ∀ {W : List NK} {s : Int}, s ∈ W.map (·.1) → (s, look W s) ∈ W
  | q :: W, s, h => by
    unfold look
    by_cases e : q.1 = s
    · rw [if_pos e, ← e]; exact List.mem_cons_self
    · rw [if_neg e]
      refine List.mem_cons_of_mem _ (look_mem ?_)
      rcases List.mem_cons.mp h with h | h
      · exact (e h.symm).elim
      · exact h
abbrev fL (W : List NK) : Int → D := fun s => .node .lst false ((look W s).map .int)
theorem pairs_nl : ∀ W : List NK, pairsOf (W.map (nlD false)) = some (W.map fun p => ((Sum.inl p.1 : L2.Key), D.node .lst false (p.2.map .int)))
  | [] => rfl
  | p :: W => by
    show (match pairOf (nlD false p), pairsOf (W.map (nlD false)) with | some p, some ps => some (p :: ps) | _, _ => none) = _
    rw [pairs_nl W]; rfl
theorem dict_words {fa : Ev} {r r1 : Rho} {W : List NK} (h : fa r = .ok (.val (.node .lst true (W.map (nlD false)))) r1) (hn : (W.map (·.1)).Nodup) : cDictOf fa r = .ok (.val (dD (W.map (·.1)) (fL W))) r1 := by
  have e1 : (W.map fun p => ((Sum.inl p.1 : L2.Key), D.node .lst false (p.2.map .int))).map (fun p => p.1) = kI (W.map (·.1)) := by
    show _ = (W.map (·.1)).map Sum.inl
    rw [List.map_map, List.map_map]; rfl
  have e := dictOf_ok h rfl (pairs_nl W) (by rw [e1]; exact kI_nodup hn) rfl
  rw [e]
  have e2 : frzs ((W.map fun p => ((Sum.inl p.1 : L2.Key), D.node .lst false (p.2.map .int))).map (fun p => p.2)) = (W.map (·.1)).map (fL W) := by
    rw [frzs_map, List.map_map, List.map_map, List.map_map]
    refine List.map_congr_left fun p hp => ?_
    show D.node .lst false (frzs (p.2.map .int)) = D.node .lst false ((look W p.1).map .int)
    rw [frzs_ints, look_at hn hp]
  rw [e1, e2]
  rfl
def cat (W : List NK) (t : List Int) : List Int := (t.map (look W)).flatten
theorem cat_cons (W : List NK) (s : Int) (t : List Int) : cat W (s :: t) = look W s ++ cat W t := rfl
abbrev C5 (A : D) (Ld : D) (W : List NK) (f : List Int) (u : Option D) : Rho := [some A, some Ld, some (dD (W.map (·.1)) (fL W)), some (.node .lst true (f.map .int)), u]
noncomputable abbrev cBody : Sv := (cSeq (cIfS (cBin gDNotIn (cVar 4) (cVar 2)) (cRaise 2) cSkip)
  (cExpr (cExt 3 (cBin dgetK (cVar 2) (cVar 4)))))
theorem c_step (A Ld : D) (W : List NK) (f : List Int) (s : Int) (hs : s ∈ W.map (·.1)) (hl : f.length + (look W s).length ≤ 16777216) : cBody (C5 A Ld W f (some (.int s))) = .nx (C5 A Ld W (f ++ look W s) (some (.int s))) := by
  have h1 := dnin_go (fa := cVar 4) (i := 2) (ks := W.map (·.1)) (f := fL W) (r := C5 A Ld W f (some (.int s))) (r1 := C5 A Ld W f (some (.int s))) (k := s) rfl rfl
  rw [decide_eq_false (fun q => q hs)] at h1
  refine seq_go (ifs_n (r1 := C5 A Ld W f (some (.int s))) h1 rfl rfl) ?_
  have e : (fun x => frz (fL W x)) = fL W := funext fun x => by
    show D.node .lst false (frzs ((look W x).map .int)) = _
    rw [frzs_ints]
  have h2 : cBin dgetK (cVar 2) (cVar 4) (C5 A Ld W f (some (.int s))) = .ok (.val (.node .lst false ((look W s).map .int))) (C5 A Ld W f (some (.int s))) := by
    refine dget_go (ks := W.map (·.1)) (f := fL W) (k := s) rfl rfl hs ?_ (by rw [e]; rfl)
    exact congrFun e s
  refine ext_go rfl h2 rfl rfl rfl inferInstance inferInstance (by rw [List.length_map, List.length_map]; exact hl) ?_
  rw [← List.map_append]
  rfl
theorem c_loop (A Ld : D) (W : List NK) (hw : ∀ p ∈ W, p.2.length ≤ 256) : ∀ (t : List Int) (f : List Int) (u : Option D), (∀ s ∈ t, s ∈ W.map (·.1)) → f.length + 256 * t.length ≤ 16777216 → ∃ u', forL (.nm 4) cBody (t.map .int) (C5 A Ld W f u) = .nx (C5 A Ld W (f ++ cat W t) u')
  | [], f, u, _, _ => ⟨u, by rw [show cat W [] = [] from rfl, List.append_nil]; rfl⟩
  | s :: t, f, u, h, hl => by
    rw [List.length_cons] at hl
    have hs := h s List.mem_cons_self
    have h3 := hw _ (look_mem hs)
    have h3 : (look W s).length ≤ 256 := h3
    obtain ⟨u', ih⟩ := c_loop A Ld W hw t (f ++ look W s) (some (.int s)) (fun x hx => h x (List.mem_cons_of_mem _ hx)) (by rw [List.length_append]; omega)
    refine ⟨u', forL_c rfl (c_step A Ld W f s hs (by omega)) ?_⟩
    rw [ih, cat_cons, List.append_assoc]
theorem forL_x {t : Tg} {f : Sv} {d : D} {ds : List D} {r r1 r2 : Rho} {c : Nat} (h1 : tgt t d r = some r1) (h2 : f r1 = .exc c r2) : forL t f (d :: ds) r = .exc c r2 := by
  unfold forL
  rw [h1]
  show (match f r1 with | .nx r2 => forL t f ds r2 | .ct r2 => forL t f ds r2 | .bk r2 => .nx r2 | o => o) = _
  rw [h2]
theorem c_bad (A Ld : D) (W : List NK) (hw : ∀ p ∈ W, p.2.length ≤ 256) : ∀ (t : List Int) (f : List Int) (u : Option D), (∃ s ∈ t, s ∉ W.map (·.1)) → f.length + 256 * t.length ≤ 16777216 → ∃ r, forL (.nm 4) cBody (t.map .int) (C5 A Ld W f u) = .exc 2 r
  | [], f, u, h, _ => by obtain ⟨s, hs, _⟩ := h; cases hs
  | s :: t, f, u, h, hl => by
    rw [List.length_cons] at hl
    by_cases hs : s ∈ W.map (·.1)
    · have h3 := hw _ (look_mem hs)
      have h3 : (look W s).length ≤ 256 := h3
      have h4 : ∃ s ∈ t, s ∉ W.map (·.1) := by
        obtain ⟨x, hx, hx2⟩ := h
        rcases List.mem_cons.mp hx with e | hx
        · exact (hx2 (e ▸ hs)).elim
        · exact ⟨x, hx, hx2⟩
      obtain ⟨r, ih⟩ := c_bad A Ld W hw t (f ++ look W s) (some (.int s)) h4 (by rw [List.length_append]; omega)
      exact ⟨r, forL_c rfl (c_step A Ld W f s hs (by omega)) ih⟩
    · have h1 := dnin_go (fa := cVar 4) (i := 2) (ks := W.map (·.1)) (f := fL W) (r := C5 A Ld W f (some (.int s))) (r1 := C5 A Ld W f (some (.int s))) (k := s) rfl rfl
      rw [decide_eq_true hs] at h1
      exact ⟨_, forL_x rfl (seq_exc (ifs_y h1 rfl rfl))⟩
theorem Ws_len : ∀ (S : List (Nat × Int)) (n a : Nat), ∀ q ∈ ws n a S, ∃ p ∈ S, p.2 = q.1 ∧ q.2.length = p.1
  | p :: S, n, a, q, h => by
    rcases List.mem_cons.mp h with e | h
    · subst e; exact ⟨p, List.mem_cons_self, rfl, bw_len _ _⟩
    · obtain ⟨x, h1, h2⟩ := Ws_len S _ _ q h
      exact ⟨x, List.mem_cons_of_mem _ h1, h2⟩
theorem Wt_at {L : List Lp} {p : NK} (h : p ∈ Wt L) : ∃ q ∈ Ws L, p = (q.1, VL.bi q.2) ∧ (q.1, q.2.length) ∈ L := by
  obtain ⟨q, hq, e⟩ := List.mem_map.mp ((Wt_perm L).mem_iff.mp h)
  refine ⟨q, hq, e.symm, ?_⟩
  obtain ⟨x, h1, h2, h3⟩ := Ws_len (so L) 0 0 q hq
  obtain ⟨y, h4, h5⟩ := List.mem_map.mp ((so_perm L).mem_iff.mp h1)
  subst h5
  rw [← h2, h3]
  exact h4
theorem Wt_word {L : List Lp} (h : ∀ p ∈ L, p.2 ≤ 256) : ∀ p ∈ Wt L, p.2.length ≤ 256 := fun p hp => by
  obtain ⟨q, _, e, h2⟩ := Wt_at hp
  rw [e]
  show (VL.bi q.2).length ≤ 256
  rw [Bt.bi_len]
  exact h _ h2
structure Good (L : List Lp) : Prop where
  le : ∀ p ∈ L, p.2 ≤ 256
  pos : ∀ p ∈ L, 1 ≤ p.2
  fit : kr L ≤ 2 ^ 256
  one : (L.map (·.1)).Nodup
  few : L.length < 10000
theorem Good.nodup {L : List Lp} (g : Good L) : ((Wt L).map (·.1)).Nodup := (Wt_fst L).nodup_iff.mpr g.one
theorem call_words {L : List Lp} (g : Good L) {r : Rho} {i : Nat} (h : r[i]? = some (some (.node .lst false (L.map pl)))) : cCall 1 F_words_by (cCons (cVar i) cNil) r = .ok (.val (.node .lst true ((Wt L).map (nlD false)))) r := by
  refine call_any (cons_ok (VL.cvar_loc h rfl) (nil_ok _)) (ds := [.node .lst false (L.map pl)]) ?_ (show Fzs [.node .lst false (L.map pl)] [.node .lst false (L.map pl)] from inferInstance) rfl (words_ok L g.few g.le g.fit) ?_
  · show (match opd r (.loc i), opds r [] with | some d, some ds => some (d :: ds) | _, _ => none) = _
    rw [VL.opd_loc' h]; rfl
  · show VL.settles (VL.settle r (.loc i)) [] = r
    show VL.settle r (.loc i) = r
    unfold VL.settle
    simp only [h]
    show r.set i (some (.node .lst false (frzs (L.map pl)))) = r
    rw [frzs_pl]
    exact Bt.set_same h
theorem coded_ok {L : List Lp} (g : Good L) (t : List Int) (ht : t.length ≤ 60000) (h : ∀ s ∈ t, s ∈ L.map (·.1)) : F_coded [.node .lst false (t.map .int), .node .lst false (L.map pl)] = .ok (.node .lst true ((cat (Wt L) t).map .int)) := by
  obtain ⟨u', e⟩ := c_loop (.node .lst false (t.map .int)) (.node .lst false (L.map pl)) (Wt L) (Wt_word g.le) t [] none (fun s hs => Wt_mem.mpr (h s hs)) (by simp; omega)
  rw [List.nil_append] at e
  have e1 := dict_words (call_words g (r := [some (.node .lst false (t.map .int)), some (.node .lst false (L.map pl)), none, none, none]) (i := 1) rfl) g.nodup
  have e2 : cFor (.nm 4) (iLst (cVar 0)) cBody (C5 (.node .lst false (t.map .int)) (.node .lst false (L.map pl)) (Wt L) [] none) = .nx (C5 (.node .lst false (t.map .int)) (.node .lst false (L.map pl)) (Wt L) (cat (Wt L) t) u') :=
    for_go (it_lstG (o := false) (k := .lst) (set_loc (d := .node .lst false (t.map .int)) rfl rfl inferInstance rfl) rfl) e
  unfold F_coded f_coded
  refine runF_go (x := .loc 3) (r1 := C5 (.node .lst false (t.map .int)) (.node .lst false (L.map pl)) (Wt L) (cat (Wt L) t) u') (r := [some (.node .lst false (t.map .int)), some (.node .lst false (L.map pl)), none, none, none]) rfl (seq_go (VH.asg_go (r2 := [some (.node .lst false (t.map .int)), some (.node .lst false (L.map pl)), some (dD ((Wt L).map (·.1)) (fL (Wt L))), none, none]) (set_val e1) rfl) ?_) ?_
  · walk_at "go"
    refine seq_go e2 ?_
    walk_at "go"
  · rfl
theorem coded_no {L : List Lp} (g : Good L) (t : List Int) (ht : t.length ≤ 60000) (h : ∃ s ∈ t, s ∉ L.map (·.1)) : F_coded [.node .lst false (t.map .int), .node .lst false (L.map pl)] = .exc 2 := by
  obtain ⟨r, e⟩ := c_bad (.node .lst false (t.map .int)) (.node .lst false (L.map pl)) (Wt L) (Wt_word g.le) t [] none (by obtain ⟨s, h1, h2⟩ := h; exact ⟨s, h1, fun q => h2 (Wt_mem.mp q)⟩) (by simp; omega)
  have e1 := dict_words (call_words g (r := [some (.node .lst false (t.map .int)), some (.node .lst false (L.map pl)), none, none, none]) (i := 1) rfl) g.nodup
  have e2 : cFor (.nm 4) (iLst (cVar 0)) cBody (C5 (.node .lst false (t.map .int)) (.node .lst false (L.map pl)) (Wt L) [] none) = .exc 2 r :=
    for_go (it_lstG (o := false) (k := .lst) (set_loc (d := .node .lst false (t.map .int)) rfl rfl inferInstance rfl) rfl) e
  unfold F_coded f_coded
  refine runF_exc (r1 := r) (r := [some (.node .lst false (t.map .int)), some (.node .lst false (L.map pl)), none, none, none]) rfl (seq_go (VH.asg_go (r2 := [some (.node .lst false (t.map .int)), some (.node .lst false (L.map pl)), some (dD ((Wt L).map (·.1)) (fL (Wt L))), none, none]) (set_val e1) rfl) ?_)
  walk_at "go"
  exact seq_exc e2
theorem coded_exc (L : List Lp) (A : D) (ha : frz A = A) (h : F_words_by [.node .lst false (L.map pl)] = .exc 2) : F_coded [A, .node .lst false (L.map pl)] = .exc 2 := by
  unfold F_coded f_coded
  refine runF_exc (r := [some A, some (.node .lst false (L.map pl)), none, none, none]) rfl (seq_exc (r1 := [some A, some (.node .lst false (L.map pl)), none, none, none]) ?_)
  have e : cCall 1 F_words_by (cCons (cVar 1) cNil) [some A, some (.node .lst false (L.map pl)), none, none, none] = .exc 2 [some A, some (.node .lst false (L.map pl)), none, none, none] := call_exc (cons_ok (VL.cvar_loc rfl rfl) (nil_ok _)) rfl inferInstance rfl h
  show (cSet _ _).st _ = _
  rw [q_set]
  unfold cDictOf
  rw [e]
  rfl
end K10.Co

namespace K10.Co
open PySem PySem.Spec PyProof.Rows L2 VL VH
open K10 K10.Bt
theorem wh_s {ft : Ev} {f : Sv} {n : Nat} {r r1 : Rho} (h : ft r = .ok (.val (.bl true)) r1) {r2 : Rho} (h2 : f r1 = .nx r2) : whileL ft f (n + 1) r = whileL ft f n r2 := by
  conv => lhs; unfold whileL
  rw [h]
  show (match f r1 with | .nx r2 => whileL ft f n r2 | .ct r2 => whileL ft f n r2 | .bk r2 => .nx r2 | o => o) = _
  rw [h2]
theorem wh_x {ft : Ev} {f : Sv} {n c : Nat} {r r1 : Rho} (h : ft r = .ok (.val (.bl true)) r1) {r2 : Rho} (h2 : f r1 = .exc c r2) : whileL ft f (n + 1) r = .exc c r2 := by
  conv => lhs; unfold whileL
  rw [h]
  show (match f r1 with | .nx r2 => whileL ft f n r2 | .ct r2 => whileL ft f n r2 | .bk r2 => .nx r2 | o => o) = _
  rw [h2]
theorem touch_I {r : Rho} {i : Nat} {o : Bool} {xs : List Int} (h : r[i]? = some (some (.node .lst o (xs.map .int)))) : touch r (.loc i) = r := by
  show (match r[i]? with | some (some d) => r.set i (some (frzB d)) | _ => r) = r
  rw [h]
  show r.set i (some (.node .lst o (frzs (xs.map .int)))) = r
  rw [frzs_ints]
  exact Bt.set_same h
def rdw (K : List (List Int)) : List Int → List Int → Option (List Int × List Int)
  | acc, [] => if acc ∈ K then some (acc, []) else none
  | acc, b :: r => if acc ∈ K then some (acc, b :: r) else if acc.length = 256 then none else rdw K (acc ++ [b]) r
theorem rdw_congr {K K' : List (List Int)} (h : ∀ w, w ∈ K ↔ w ∈ K') : ∀ (r a : List Int), rdw K a r = rdw K' a r
  | [], a => by
    unfold rdw
    by_cases c : a ∈ K
    · rw [if_pos c, if_pos ((h a).mp c)]
    · rw [if_neg c, if_neg (fun q => c ((h a).mpr q))]
  | b :: r, a => by
    unfold rdw
    rw [rdw_congr h r]
    by_cases c : a ∈ K
    · rw [if_pos c, if_pos ((h a).mp c)]
    · rw [if_neg c, if_neg (fun q => c ((h a).mpr q))]
def signOf : List NK → List Int → Int
  | [], _ => 0
  | p :: W, w => if w ∈ W.map (·.2) then signOf W w else p.1
abbrev keysW (W : List NK) : List (List Int) := W.map (·.2)
def decN (W : List NK) : Nat → List Int → Option (List Int × List Int)
  | 0, r => some ([], r)
  | k + 1, r => match rdw (keysW W) [] r with
    | none => none
    | some (w, r1) => match decN W k r1 with
      | none => none
      | some (t, r2) => some (signOf W w :: t, r2)
theorem signOf_at : ∀ {W : List NK} {w : List Int}, w ∈ keysW W → (signOf W w, w) ∈ W
  | p :: W, w, h => by
    unfold signOf
    by_cases e : w ∈ W.map (·.2)
    · rw [if_pos e]; exact List.mem_cons_of_mem _ (signOf_at e)
    · rw [if_neg e]
      rcases List.mem_cons.mp h with h | h
      · rw [h]; exact List.mem_cons_self
      · exact (e h).elim
abbrev X10 (xs : List Int) (A Ld M : D) (S : D) (x5 x6 x7 x8 x9 : Option D) : Rho := [some (.node .lst false (xs.map .int)), some A, some Ld, some M, some S, x5, x6, x7, x8, x9]
noncomputable abbrev pBody : Sv := cTPut 4 (cTupOf (cVar 6)) (cVar 5)
theorem p_loop (xs : List Int) (A Ld M : D) (x7 x8 x9 : Option D) : ∀ (W : List NK) (ks : List (List Int)) (f : List Int → D) (x5 x6 : Option D), ks.Nodup → ks.length + W.length < 16777216 → ∃ (ks' : List (List Int)) (f' : List Int → D) (x5' x6' : Option D), forL (.tp [5, 6]) pBody (W.map (nlD false)) (X10 xs A Ld M (tD ks f) x5 x6 x7 x8 x9) = .nx (X10 xs A Ld M (tD ks' f') x5' x6' x7 x8 x9) ∧ ks'.Nodup ∧ (∀ w, w ∈ ks' ↔ w ∈ ks ∨ w ∈ keysW W) ∧ (∀ w, f' w = if w ∈ keysW W then .int (signOf W w) else f w)
  | [], ks, f, x5, x6, hn, _ => ⟨ks, f, x5, x6, rfl, hn, fun w => by simp, fun w => by simp⟩
  | p :: W, ks, f, x5, x6, hn, hl => by
    rw [List.length_cons] at hl
    obtain ⟨ks', f', y5, y6, e, h1, h2, h3⟩ := p_loop xs A Ld M x7 x8 x9 W (addT ks p.2) (upT f p.2 (.int p.1)) (some (.int p.1)) (some (.node .lst false (p.2.map .int))) (addT_nodup hn) (by have := addT_len ks p.2; omega)
    refine ⟨ks', f', y5, y6, ?_, h1, fun w => ?_, fun w => ?_⟩
    · refine forL_c (r1 := X10 xs A Ld M (tD ks f) (some (.int p.1)) (some (.node .lst false (p.2.map .int))) x7 x8 x9) (r2 := X10 xs A Ld M (tD (addT ks p.2) (upT f p.2 (.int p.1))) (some (.int p.1)) (some (.node .lst false (p.2.map .int))) x7 x8 x9) rfl ?_ e
      refine tput_ok (oo := false) (ks := ks) (f := f) (x := p.2) (d := .int p.1) (r1 := X10 xs A Ld M (tD ks f) (some (.int p.1)) (some (.node .lst false (p.2.map .int))) x7 x8 x9) (r2 := X10 xs A Ld M (tD ks f) (some (.int p.1)) (some (.node .lst false (p.2.map .int))) x7 x8 x9) rfl rfl ⟨.val (tupI false p.2), ?_, rfl⟩ rfl hn (by omega)
      exact tupOf_go (o := false) (xs := p.2.map .int) (VL.cvar_loc rfl rfl) rfl inferInstance (by
        show touch _ (.loc 6) = _
        rw [touch_I (o := false) (xs := p.2) rfl])
    · rw [h2, addT_mem]
      show _ ↔ _ ∨ w ∈ p.2 :: keysW W
      rw [List.mem_cons]
      constructor
      · rintro ((h | h) | h)
        · exact .inl h
        · exact .inr (.inl h)
        · exact .inr (.inr h)
      · rintro (h | h | h)
        · exact .inl (.inl h)
        · exact .inl (.inr h)
        · exact .inr h
    · rw [h3]
      show _ = if w ∈ p.2 :: keysW W then D.int (if w ∈ W.map (·.2) then signOf W w else p.1) else f w
      by_cases c : w ∈ keysW W
      · rw [if_pos c, if_pos (List.mem_cons_of_mem _ c), if_pos c]
      · rw [if_neg c]
        show (if w = p.2 then D.int p.1 else f w) = _
        by_cases c2 : w = p.2
        · rw [if_pos c2, if_pos (by rw [c2]; exact List.mem_cons_self), if_neg c]
        · rw [if_neg c2, if_neg (fun q => by
            rcases List.mem_cons.mp q with q | q
            · exact c2 q
            · exact c q)]
noncomputable abbrev gCond : Ev := cBin gTNotIn (cVar 6) (cVar 4)
noncomputable abbrev gBody : Sv := (cSeq (cIfS (cOr (cBin gGe (cVar 8) (cB (b1 lenD) (cCons (cVar 0) cNil))) (cBin gEq (cB (b1 lenD) (cCons (cVar 6) cNil)) (cC (.int 256)))) (cRaise 4) cSkip)
  (cSeq (cAugT 6 gAddT (cTup (cCons (cSet (cBin gIx (cVar 0) (cVar 8))) cNil)))
  (cAug 8 (g2 iAdd) (cC (.int 1)))))
abbrev G10 (xs : List Int) (A Ld M : D) (K : List (List Int)) (f : List Int → D) (x5 : Option D) (w : List Int) (x7 : Option D) (p : Nat) (x9 : Option D) : Rho := X10 xs A Ld M (tD K f) x5 (some (tupI false w)) x7 (some (nt p)) x9
theorem g_cond (xs : List Int) (A Ld M : D) (K : List (List Int)) (f : List Int → D) (x5 x7 x9 : Option D) (w : List Int) (p : Nat) : gCond (G10 xs A Ld M K f x5 w x7 p x9) = .ok (.val (.bl (decide (w ∉ K)))) (G10 xs A Ld M K f x5 w x7 p x9) :=
  bin_ok (VL.cvar_loc rfl rfl) (VL.cvar_loc rfl rfl) (gTNotIn_ok (o := true) (oo := false) (ks := K) (f := f) rfl rfl)
theorem g_stop (xs : List Int) (A Ld M : D) (K : List (List Int)) (f : List Int → D) (x5 x7 x9 : Option D) (w : List Int) (p : Nat) (h : xs.length ≤ p ∨ w.length = 256) : gBody (G10 xs A Ld M K f x5 w x7 p x9) = .exc 4 (G10 xs A Ld M K f x5 w x7 p x9) := by
  have l1 : cB (b1 lenD) (cCons (cVar 0) cNil) (G10 xs A Ld M K f x5 w x7 p x9) = .ok (.val (.int (xs.map D.int).length)) (G10 xs A Ld M K f x5 w x7 p x9) := len_go (VL.cvar_loc rfl rfl) rfl rfl
  have l2 : cB (b1 lenD) (cCons (cVar 6) cNil) (G10 xs A Ld M K f x5 w x7 p x9) = .ok (.val (.int (w.map D.int).length)) (G10 xs A Ld M K f x5 w x7 p x9) := len_go (VL.cvar_loc rfl rfl) rfl rfl
  rw [List.length_map] at l1 l2
  have c := VH.or_b (r := G10 xs A Ld M K f x5 w x7 p x9) (ge_ok (i := (p : Int)) (fa := cVar 8) rfl l1) (eq_ok l2 (j := 256) (fb := cC (.int 256)) rfl)
  refine seq_exc (ifs_y c ?_ rfl)
  rw [Bool.or_eq_true, decide_eq_true_eq, decide_eq_true_eq]
  omega
theorem g_step (xs : List Int) (A Ld M : D) (K : List (List Int)) (f : List Int → D) (x5 x7 x9 : Option D) (w : List Int) (p : Nat) (b : Int) (h : xs[p]? = some b) (hw : w.length ≠ 256) (hw2 : w.length ≤ 256) : gBody (G10 xs A Ld M K f x5 w x7 p x9) = .nx (G10 xs A Ld M K f x5 (w ++ [b]) x7 (p + 1) x9) := by
  have hp : p < xs.length := (List.getElem?_eq_some_iff.mp h).1
  have l1 : cB (b1 lenD) (cCons (cVar 0) cNil) (G10 xs A Ld M K f x5 w x7 p x9) = .ok (.val (.int (xs.map D.int).length)) (G10 xs A Ld M K f x5 w x7 p x9) := len_go (VL.cvar_loc rfl rfl) rfl rfl
  have l2 : cB (b1 lenD) (cCons (cVar 6) cNil) (G10 xs A Ld M K f x5 w x7 p x9) = .ok (.val (.int (w.map D.int).length)) (G10 xs A Ld M K f x5 w x7 p x9) := len_go (VL.cvar_loc rfl rfl) rfl rfl
  rw [List.length_map] at l1 l2
  have c := VH.or_b (r := G10 xs A Ld M K f x5 w x7 p x9) (ge_ok (i := (p : Int)) (fa := cVar 8) rfl l1) (eq_ok l2 (j := 256) (fb := cC (.int 256)) rfl)
  refine seq_go (ifs_n (r1 := G10 xs A Ld M K f x5 w x7 p x9) c ?_ rfl) ?_
  · rw [Bool.or_eq_false_iff, decide_eq_false_iff_not, decide_eq_false_iff_not]
    omega
  have e1 : cBin gIx (cVar 0) (cVar 8) (G10 xs A Ld M K f x5 w x7 p x9) = .ok (.val (.int b)) (G10 xs A Ld M K f x5 w x7 p x9) := by
    refine ixA_go (n := (p : Int)) (o := false) (k := .lst) (xs := xs.map .int) (VL.cvar_loc rfl rfl) rfl rfl rfl ?_ rfl
    rw [VL.atI_nat, List.getElem?_map, h]; rfl
  refine seq_go (r1 := G10 xs A Ld M K f x5 (w ++ [b]) x7 p x9) (augT_ok (o := false) w [b] rfl (tup_ok (cons_ok (set_val e1) (nil_ok _)) rfl (Nat.le_of_ble_eq_true rfl)) (by rw [List.length_singleton]; omega) rfl) ?_
  walk_at "gor"
theorem g_loop (xs : List Int) (A Ld M : D) (K : List (List Int)) (f : List Int → D) (x5 x7 x9 : Option D) : ∀ (rest w : List Int) (p m : Nat), xs.drop p = rest → p ≤ xs.length → rest.length < m → w.length ≤ 256 →
    match rdw K w rest with
    | some (w', r') => w' ∈ K ∧ r'.length ≤ rest.length ∧ xs.drop (xs.length - r'.length) = r' ∧ whileL gCond gBody m (G10 xs A Ld M K f x5 w x7 p x9) = .nx (G10 xs A Ld M K f x5 w' x7 (xs.length - r'.length) x9)
    | none => ∃ r, whileL gCond gBody m (G10 xs A Ld M K f x5 w x7 p x9) = .exc 4 r
  | rest, w, p, 0, _, _, hm, _ => by omega
  | [], w, p, m + 1, hr, hp, hm, hw => by
    have hpl : xs.length ≤ p := List.drop_eq_nil_iff.mp hr
    have ep : p = xs.length := by omega
    unfold rdw
    by_cases c : w ∈ K
    · rw [if_pos c]
      refine ⟨c, Nat.le_refl _, by rw [List.length_nil, Nat.sub_zero, List.drop_length], ?_⟩
      have := g_cond xs A Ld M K f x5 x7 x9 w p
      rw [decide_eq_false (fun q => q c)] at this
      rw [List.length_nil, Nat.sub_zero, ← ep]
      exact wh_n this rfl
    · rw [if_neg c]
      have := g_cond xs A Ld M K f x5 x7 x9 w p
      rw [decide_eq_true c] at this
      exact ⟨_, wh_x this (g_stop xs A Ld M K f x5 x7 x9 w p (.inl hpl))⟩
  | b :: rest, w, p, m + 1, hr, hp, hm, hw => by
    have hpl : p < xs.length := by
      rcases Nat.lt_or_ge p xs.length with h | h
      · exact h
      · rw [List.drop_eq_nil_iff.mpr h] at hr; cases hr
    have h0 : xs[p]? = some b := by
      have := congrArg (·[0]?) hr
      simpa using this
    have hr1 : xs.drop (p + 1) = rest := by
      have := congrArg (List.drop 1) hr
      rw [List.drop_drop] at this
      simpa [Nat.add_comm] using this
    have el : rest.length + 1 = xs.length - p := by
      have := congrArg List.length hr
      rw [List.length_drop, List.length_cons] at this
      omega
    unfold rdw
    by_cases c : w ∈ K
    · rw [if_pos c]
      have := g_cond xs A Ld M K f x5 x7 x9 w p
      rw [decide_eq_false (fun q => q c)] at this
      have e9 : xs.length - (b :: rest).length = p := by rw [List.length_cons]; omega
      refine ⟨c, Nat.le_refl _, by rw [e9, hr], ?_⟩
      rw [e9]
      exact wh_n this rfl
    · rw [if_neg c]
      have hc := g_cond xs A Ld M K f x5 x7 x9 w p
      rw [decide_eq_true c] at hc
      by_cases c2 : w.length = 256
      · rw [if_pos c2]
        exact ⟨_, wh_x hc (g_stop xs A Ld M K f x5 x7 x9 w p (.inr c2))⟩
      · rw [if_neg c2]
        have ih := g_loop xs A Ld M K f x5 x7 x9 rest (w ++ [b]) (p + 1) m hr1 (by omega) (by rw [List.length_cons] at hm; omega) (by rw [List.length_append, List.length_singleton]; omega)
        have e := wh_s (ft := gCond) (f := gBody) (n := m) hc (g_step xs A Ld M K f x5 x7 x9 w p b h0 c2 hw)
        revert ih
        cases rdw K (w ++ [b]) rest with
        | none =>
          rintro ⟨r, h⟩
          exact ⟨r, e.trans h⟩
        | some q =>
          rintro ⟨h1, h2, h3, h4⟩
          refine ⟨h1, by rw [List.length_cons]; omega, h3, e.trans h4⟩
noncomputable abbrev dBody : Sv := (cSeq (cAsg (.nm 6) (cTup cNil))
  (cSeq (whileL (cBin gTNotIn (cVar 6) (cVar 4)) gBody fuel)
  (cExpr (cApp 7 (cBin dgetT (cVar 4) (cVar 6))))))
abbrev H10 (xs : List Int) (A Ld M : D) (K : List (List Int)) (f : List Int → D) (x5 x6 : Option D) (t : List Int) (p : Nat) (x9 : Option D) : Rho := X10 xs A Ld M (tD K f) x5 x6 (some (.node .lst true (t.map .int))) (some (nt p)) x9
theorem d_step (xs : List Int) (A Ld M : D) (K : List (List Int)) (f : List Int → D) (g : List Int → Int) (hf : ∀ w ∈ K, f w = .int (g w)) (x5 x6 x9 : Option D) (t : List Int) (p : Nat) (hp : p ≤ xs.length) (hx : xs.length < 1000000) (ht : t.length < 16777216) :
    match rdw K [] (xs.drop p) with
    | some (w, r) => w ∈ K ∧ r.length ≤ (xs.drop p).length ∧ xs.drop (xs.length - r.length) = r ∧ dBody (H10 xs A Ld M K f x5 x6 t p x9) = .nx (H10 xs A Ld M K f x5 (some (tupI false w)) (t ++ [g w]) (xs.length - r.length) x9)
    | none => ∃ r, dBody (H10 xs A Ld M K f x5 x6 t p x9) = .exc 4 r := by
  have h := g_loop xs A Ld M K f x5 (some (.node .lst true (t.map .int))) x9 (xs.drop p) [] p fuel rfl hp (by rw [List.length_drop]; exact VH.lt_fuel (by omega)) (by decide)
  have e0 : cAsg (.nm 6) (cTup cNil) (H10 xs A Ld M K f x5 x6 t p x9) = .nx (G10 xs A Ld M K f x5 [] (some (.node .lst true (t.map .int))) p x9) :=
    VH.asg_go (set_val (tup_ok (nil_ok _) rfl (Nat.le_of_ble_eq_true rfl))) rfl
  revert h
  cases rdw K [] (xs.drop p) with
  | none =>
    rintro ⟨r, h⟩
    exact ⟨r, seq_go e0 (seq_exc h)⟩
  | some q =>
    rintro ⟨h1, h2, h3, h4⟩
    refine ⟨h1, h2, h3, seq_go e0 (seq_go h4 ?_)⟩
    have e1 : cBin dgetT (cVar 4) (cVar 6) (G10 xs A Ld M K f x5 q.1 (some (.node .lst true (t.map .int))) (xs.length - q.2.length) x9) = .ok (.val (.int (g q.1))) (G10 xs A Ld M K f x5 q.1 (some (.node .lst true (t.map .int))) (xs.length - q.2.length) x9) := by
      refine bin_ok (VL.cvar_loc rfl rfl) (VL.cvar_loc rfl rfl) ?_
      rw [dgetT_ok (o := true) (oo := false) (ks := K) (f := f) (k := q.1) rfl rfl h1, hf _ h1, q_pick]
      rfl
    refine app_go rfl (set_val e1) rfl (by rw [List.length_map]; exact ht) ?_
    show _ = H10 xs A Ld M K f x5 (some (tupI false q.1)) (t ++ [g q.1]) (xs.length - q.2.length) x9
    unfold H10
    rw [List.map_append]
    rfl
theorem d_loop (xs : List Int) (A Ld M : D) (W : List NK) (K : List (List Int)) (hK : ∀ w, w ∈ K ↔ w ∈ keysW W) (f : List Int → D) (hf : ∀ w ∈ K, f w = .int (signOf W w)) (hx : xs.length < 1000000) (x5 : Option D) : ∀ (ks : List Nat) (t : List Int) (p : Nat) (x6 x9 : Option D), p ≤ xs.length → t.length + ks.length < 16777216 →
    match decN W ks.length (xs.drop p) with
    | some (t', r) => r.length ≤ (xs.drop p).length ∧ xs.drop (xs.length - r.length) = r ∧ ∃ x6' x9', forL (.nm 9) dBody (ks.map nt) (H10 xs A Ld M K f x5 x6 t p x9) = .nx (H10 xs A Ld M K f x5 x6' (t ++ t') (xs.length - r.length) x9')
    | none => ∃ r, forL (.nm 9) dBody (ks.map nt) (H10 xs A Ld M K f x5 x6 t p x9) = .exc 4 r
  | [], t, p, x6, x9, hp, _ => by
    refine ⟨Nat.le_refl _, ?_, x6, x9, ?_⟩
    · rw [List.length_drop]
      congr 1; omega
    · rw [List.length_drop, List.append_nil, show xs.length - (xs.length - p) = p from by omega]
      rfl
  | k :: ks, t, p, x6, x9, hp, hl => by
    rw [List.length_cons] at hl
    have s := d_step xs A Ld M K f (signOf W) hf x5 x6 (some (nt k)) t p hp hx (by omega)
    have ek : rdw K [] (xs.drop p) = rdw (keysW W) [] (xs.drop p) := rdw_congr hK _ _
    rw [ek] at s
    show (match (match rdw (keysW W) [] (xs.drop p) with | none => none | some (w, r1) => match decN W ks.length r1 with | none => none | some (t, r2) => some (signOf W w :: t, r2)) with | some (t', r) => _ | none => _)
    revert s
    cases rdw (keysW W) [] (xs.drop p) with
    | none =>
      rintro ⟨r, h⟩
      exact ⟨r, forL_x rfl h⟩
    | some q =>
      rintro ⟨_, h2, h3, h4⟩
      have ih := d_loop xs A Ld M W K hK f hf hx x5 ks (t ++ [signOf W q.1]) (xs.length - q.2.length) (some (tupI false q.1)) (some (nt k)) (by omega) (by rw [List.length_append, List.length_singleton]; omega)
      rw [h3] at ih
      show (match (match decN W ks.length q.2 with | none => none | some (t, r2) => some (signOf W q.1 :: t, r2)) with | some (t', r) => _ | none => _)
      revert ih
      cases decN W ks.length q.2 with
      | none =>
        rintro ⟨r, h⟩
        exact ⟨r, forL_c rfl h4 h⟩
      | some z =>
        rintro ⟨h5, h6, x6', x9', h7⟩
        refine ⟨Nat.le_trans h5 h2, h6, x6', x9', forL_c rfl h4 ?_⟩
        rw [h7, List.append_assoc]
        rfl
theorem dec_head {L : List Lp} (g : Good L) (xs : List Int) (A M : D) : ∃ (ks : List (List Int)) (f : List Int → D) (x5 x6 : Option D), (∀ w, w ∈ ks ↔ w ∈ keysW (Wt L)) ∧ (∀ w ∈ ks, f w = .int (signOf (Wt L) w)) ∧
    cFor (.tp [5, 6]) (iLst (cCall 1 F_words_by (cCons (cVar 2) cNil))) pBody (X10 xs A (.node .lst false (L.map pl)) M (tD [] fun _ => .non) none none none none none) = .nx (X10 xs A (.node .lst false (L.map pl)) M (tD ks f) x5 x6 none none none) := by
  obtain ⟨ks, f, x5, x6, e, h1, h2, h3⟩ := p_loop xs A (.node .lst false (L.map pl)) M none none none (Wt L) [] (fun _ => .non) none none List.nodup_nil (by have := g.few; rw [Wt_len, List.length_nil]; omega)
  refine ⟨ks, f, x5, x6, fun w => by rw [h2]; simp, fun w hw => ?_, for_go (it_lstG (set_val (call_words g rfl)) rfl) e⟩
  rw [h3, if_pos]
  have := (h2 w).mp hw
  simpa using this
theorem decoded_ok {L : List Lp} (g : Good L) (xs : List Int) (hx : xs.length < 1000000) (p k : Nat) (hp : p ≤ xs.length) (hk : k < 1000000) : F_decoded [.node .lst false (xs.map .int), .int (p : Nat), .node .lst false (L.map pl), .int (k : Nat)] =
    match decN (Wt L) k (xs.drop p) with
    | some (t, r) => .ok (.node .tup false [.node .lst false (t.map .int), nt (xs.length - r.length)])
    | none => .exc 4 := by
  obtain ⟨ks, f, x5, x6, hK, hf, e⟩ := dec_head g xs (.int (p : Nat)) (.int (k : Nat))
  have d := d_loop xs (.int (p : Nat)) (.node .lst false (L.map pl)) (.int (k : Nat)) (Wt L) ks hK f hf hx x5 (List.range k) [] p x6 none hp (by rw [List.length_range]; simp; omega)
  rw [List.length_range] at d
  have e0 : cAsg (.nm 4) cTNew [some (.node .lst false (xs.map .int)), some (.int (p : Nat)), some (.node .lst false (L.map pl)), some (.int (k : Nat)), none, none, none, none, none, none] = .nx (X10 xs (.int (p : Nat)) (.node .lst false (L.map pl)) (.int (k : Nat)) (tD [] fun _ => .non) none none none none none) := VH.asg_go (set_val rfl) rfl
  have l1 : cB (b1 lenD) (cCons (cVar 0) cNil) (X10 xs (.int (p : Nat)) (.node .lst false (L.map pl)) (.int (k : Nat)) (tD ks f) x5 x6 none none none) = .ok (.val (.int (xs.map D.int).length)) (X10 xs (.int (p : Nat)) (.node .lst false (L.map pl)) (.int (k : Nat)) (tD ks f) x5 x6 none none none) := len_go (VL.cvar_loc rfl rfl) rfl rfl
  rw [List.length_map] at l1
  have c := VH.or_b (r := X10 xs (.int (p : Nat)) (.node .lst false (L.map pl)) (.int (k : Nat)) (tD ks f) x5 x6 none none none) (lt_ok (i := (p : Int)) (j := 0) (fa := cVar 1) (fb := cC (.int 0)) rfl rfl) (gt_ok (i := (p : Int)) (fa := cVar 1) rfl l1)
  have e2 : cAsg (.nm 7) (cLst cNil) (X10 xs (.int (p : Nat)) (.node .lst false (L.map pl)) (.int (k : Nat)) (tD ks f) x5 x6 none none none) = .nx (X10 xs (.int (p : Nat)) (.node .lst false (L.map pl)) (.int (k : Nat)) (tD ks f) x5 x6 (some (.node .lst true [])) none none) := VH.asg_go (set_val rfl) rfl
  have e3 : cAsg (.nm 8) (cVar 1) (X10 xs (.int (p : Nat)) (.node .lst false (L.map pl)) (.int (k : Nat)) (tD ks f) x5 x6 (some (.node .lst true [])) none none) = .nx (H10 xs (.int (p : Nat)) (.node .lst false (L.map pl)) (.int (k : Nat)) ks f x5 x6 [] p none) := VH.asg_go (set_val (cvar_at rfl rfl)) rfl
  have e4 : iRng rngI1 (cCons (cVar 3) cNil) (H10 xs (.int (p : Nat)) (.node .lst false (L.map pl)) (.int (k : Nat)) ks f x5 x6 [] p none) = .ok ((List.range k).map nt) (H10 xs (.int (p : Nat)) (.node .lst false (L.map pl)) (.int (k : Nat)) ks f x5 x6 [] p none) := by
    rw [it_rngI (n := (k : Int)) (cvar_at rfl rfl) (by unfold within; exact decide_eq_true (by omega)), Int.toNat_natCast, rng_nt]
  have hc : (decide ((p : Int) < 0) || decide (((xs.length : Nat) : Int) < (p : Int))) = false := by
    rw [Bool.or_eq_false_iff, decide_eq_false_iff_not, decide_eq_false_iff_not]
    omega
  unfold F_decoded f_decoded
  revert d
  cases decN (Wt L) k (xs.drop p) with
  | none =>
    rintro ⟨r, h⟩
    exact runF_exc (r1 := r) (r := [some (.node .lst false (xs.map .int)), some (.int (p : Nat)), some (.node .lst false (L.map pl)), some (.int (k : Nat)), none, none, none, none, none, none]) rfl (seq_go e0 (seq_go e (seq_go (ifs_n (r1 := X10 xs (.int (p : Nat)) (.node .lst false (L.map pl)) (.int (k : Nat)) (tD ks f) x5 x6 none none none) c hc rfl) (seq_go e2 (seq_go e3 (seq_exc (for_go e4 h)))))))
  | some z =>
    rintro ⟨_, _, x6', x9', h⟩
    refine runF_go (x := .val (.node .tup false [.node .lst false (z.1.map .int), nt (xs.length - z.2.length)])) (r1 := (H10 xs (.int (p : Nat)) (.node .lst false (L.map pl)) (.int (k : Nat)) ks f x5 x6' z.1 (xs.length - z.2.length) x9').set 7 (some (.node .lst false (z.1.map .int)))) (r := [some (.node .lst false (xs.map .int)), some (.int (p : Nat)), some (.node .lst false (L.map pl)), some (.int (k : Nat)), none, none, none, none, none, none]) rfl (seq_go e0 (seq_go e (seq_go (ifs_n (r1 := X10 xs (.int (p : Nat)) (.node .lst false (L.map pl)) (.int (k : Nat)) (tD ks f) x5 x6 none none none) c hc rfl) (seq_go e2 (seq_go e3 (seq_go (for_go e4 h) (ret_go ?_))))))) rfl
    exact tup_ok (cons_ok (set_loc (d := .node .lst true (z.1.map .int)) rfl rfl inferInstance rfl) (cons_ok (set_val (cvar_at rfl rfl)) (nil_ok _))) rfl (Nat.le_of_ble_eq_true rfl)
theorem decoded_far {L : List Lp} (g : Good L) (xs : List Int) (i : Int) (k : D) (hk : frz k = k) (hi : i < 0 ∨ (xs.length : Nat) < i) : F_decoded [.node .lst false (xs.map .int), .int i, .node .lst false (L.map pl), k] = .exc 4 := by
  obtain ⟨ks, f, x5, x6, hK, hf, e⟩ := dec_head g xs (.int i) k
  have e0 : cAsg (.nm 4) cTNew [some (.node .lst false (xs.map .int)), some (.int i), some (.node .lst false (L.map pl)), some k, none, none, none, none, none, none] = .nx (X10 xs (.int i) (.node .lst false (L.map pl)) k (tD [] fun _ => .non) none none none none none) := VH.asg_go (set_val rfl) rfl
  have l1 : cB (b1 lenD) (cCons (cVar 0) cNil) (X10 xs (.int i) (.node .lst false (L.map pl)) k (tD ks f) x5 x6 none none none) = .ok (.val (.int (xs.map D.int).length)) (X10 xs (.int i) (.node .lst false (L.map pl)) k (tD ks f) x5 x6 none none none) := len_go (VL.cvar_loc rfl rfl) rfl rfl
  rw [List.length_map] at l1
  have c := VH.or_b (r := X10 xs (.int i) (.node .lst false (L.map pl)) k (tD ks f) x5 x6 none none none) (lt_ok (i := i) (j := 0) (fa := cVar 1) (fb := cC (.int 0)) rfl rfl) (gt_ok (i := i) (fa := cVar 1) rfl l1)
  unfold F_decoded f_decoded
  refine runF_exc (r1 := X10 xs (.int i) (.node .lst false (L.map pl)) k (tD ks f) x5 x6 none none none) (r := [some (.node .lst false (xs.map .int)), some (.int i), some (.node .lst false (L.map pl)), some k, none, none, none, none, none, none]) rfl (seq_go e0 (seq_go e (seq_exc (ifs_y c ?_ rfl))))
  rw [Bool.or_eq_true, decide_eq_true_eq, decide_eq_true_eq]
  exact hi
theorem decoded_exc (L : List Lp) (A B k : D) (hA : frz A = A) (hB : frz B = B) (hk : frz k = k) (h : F_words_by [.node .lst false (L.map pl)] = .exc 2) : F_decoded [A, B, .node .lst false (L.map pl), k] = .exc 2 := by
  unfold F_decoded f_decoded
  have e : cCall 1 F_words_by (cCons (cVar 2) cNil) [some A, some B, some (.node .lst false (L.map pl)), some k, some (tD [] fun _ => .non), none, none, none, none, none] = .exc 2 [some A, some B, some (.node .lst false (L.map pl)), some k, some (tD [] fun _ => .non), none, none, none, none, none] := call_exc (cons_ok (VL.cvar_loc rfl rfl) (nil_ok _)) rfl inferInstance rfl h
  refine runF_exc (r1 := [some A, some B, some (.node .lst false (L.map pl)), some k, some (tD [] fun _ => .non), none, none, none, none, none]) (r := [some A, some B, some (.node .lst false (L.map pl)), some k, none, none, none, none, none, none]) rfl (seq_go (r1 := [some A, some B, some (.node .lst false (L.map pl)), some k, some (tD [] fun _ => .non), none, none, none, none, none]) (VH.asg_go (set_val rfl) rfl) (seq_exc ?_))
  have e2 : iLst (cCall 1 F_words_by (cCons (cVar 2) cNil)) [some A, some B, some (.node .lst false (L.map pl)), some k, some (tD [] fun _ => .non), none, none, none, none, none] = .exc 2 [some A, some B, some (.node .lst false (L.map pl)), some k, some (tD [] fun _ => .non), none, none, none, none, none] := by
    rw [q_iLst, q_set, e]
    rfl
  unfold cFor
  rw [e2]
end K10.Co

namespace K10.Co
open PySem PySem.Spec PyProof.Rows L2 VL VH
open K10 K10.Bt
theorem rdw_sound {K : List (List Int)} : ∀ (r acc : List Int) {w r' : List Int}, rdw K acc r = some (w, r') → w ∈ K ∧ ∃ x, w = acc ++ x ∧ r = x ++ r'
  | [], acc, w, r', h => by
    unfold rdw at h
    split at h
    · rename_i c
      cases h
      exact ⟨c, [], (List.append_nil _).symm, rfl⟩
    · cases h
  | b :: r, acc, w, r', h => by
    unfold rdw at h
    split at h
    · rename_i c
      cases h
      exact ⟨c, [], (List.append_nil _).symm, rfl⟩
    · split at h
      · cases h
      · obtain ⟨h1, x, h2, h3⟩ := rdw_sound r (acc ++ [b]) h
        exact ⟨h1, b :: x, by rw [h2, List.append_assoc]; rfl, by rw [h3]; rfl⟩
end K10.Co

namespace K10.Co
open PySem PySem.Spec PyProof.Rows L2 VL VH
open K10 K10.Bt
abbrev IL (o : Bool) (xs : List Int) : D := .node .lst o (xs.map .int)
theorem draw_ok (a b c m : Int) (hm : 0 < m) (hm2 : m < 1000000) : ∃ v a' c', F__law_draw (dk a b c) [.int m] = .ok (.int v) (dk a' b c') ∧ 0 ≤ v ∧ v < m := by
  have p : ∀ i, posOk i m = true := fun i => posOk_of hm
  have hd : ∀ i, divOk i m = true := fun i => divOk_of' hm (by omega)
  by_cases h : b = 0
  · refine ⟨a % m, a / m, c, ?_, Int.emod_nonneg _ (by omega), Int.emod_lt_of_pos _ hm⟩
    unfold F__law_draw runQ f__law_draw
    simp [dk, startR, putQ, h, atI, ixN, p, hd]
  · refine ⟨((((a % 1000000007 * 7919 + (c + 1) * 104729) % 1000000009) * ((a % 1000000007 * 7919 + (c + 1) * 104729) % 1000000009) % 998244353 * 31337 + (c + 1)) % 754974721 / 3) % m, a, c + 1, ?_, Int.emod_nonneg _ (by omega), Int.emod_lt_of_pos _ hm⟩
    unfold F__law_draw runQ f__law_draw
    have q1 : ∀ i, posOk i 1000000007 = true := fun i => rfl
    have q2 : ∀ i, posOk i 1000000009 = true := fun i => rfl
    have q3 : ∀ i, posOk i 998244353 = true := fun i => rfl
    have q4 : ∀ i, posOk i 754974721 = true := fun i => rfl
    have q5 : ∀ i, divOk i 3 = true := fun i => rfl
    have m1 : ∀ i, mulOk i 7919 = true := fun i => VL.mulOk_r (by decide)
    have m2 : ∀ i, mulOk i 104729 = true := fun i => VL.mulOk_r (by decide)
    have m3 : ∀ i, mulOk i 31337 = true := fun i => VL.mulOk_r (by decide)
    have m4 : ∀ i : Int, mulOk (i % 1000000009) (i % 1000000009) = true := fun i => VL.mulOk_r (by omega)
    simp [dk, startR, putQ, h, atI, ixN, p, hd, q1, q2, q3, q4, q5, m1, m2, m3, m4]
theorem dq {r : Rho} {i : Nat} {a b c : Int} {m : Int} {fm : Ev} (h : r[i]? = some (some (dk a b c))) (h2 : cSet fm r = .ok (.val (.int m)) r) (hm : 0 < m) (hm2 : m < 1000000) : ∃ v a' c', cCallQ 0 1 F__law_draw (cCons (cVar i) (cCons (cSet fm) cNil)) r = .ok (.val (.int v)) (r.set i (some (dk a' b c'))) ∧ 0 ≤ v ∧ v < m := by
  obtain ⟨v, a', c', e, h3, h4⟩ := draw_ok a b c m hm hm2
  exact ⟨v, a', c', callQ_loc (cons_ok (VL.cvar_loc h rfl) (cons_ok h2 (nil_ok _))) rfl rfl rfl rfl h e, h3, h4⟩
theorem dq2 {r r1 : Rho} {i : Nat} {a b c a1 c1 : Int} {m : Int} {fm : Ev} (h : r[i]? = some (some (dk a b c))) (h2 : cSet fm r = .ok (.val (.int m)) r1) (h5 : r1[i]? = some (some (dk a1 b c1))) (hm : 0 < m) (hm2 : m < 1000000) : ∃ v a' c', cCallQ 0 1 F__law_draw (cCons (cVar i) (cCons (cSet fm) cNil)) r = .ok (.val (.int v)) (r1.set i (some (dk a' b c'))) ∧ 0 ≤ v ∧ v < m := by
  obtain ⟨v, a', c', e, h3, h4⟩ := draw_ok a1 b c1 m hm hm2
  exact ⟨v, a', c', callQ_loc (cons_ok (VL.cvar_loc h rfl) (cons_ok h2 (nil_ok _))) rfl rfl rfl rfl h5 e, h3, h4⟩
theorem decks_ok (ns : List Int) (hl : ns.length ≤ 63) : ∃ ds, F__law_decks [script ns] = .ok (.node .lst true ds) ∧ ds.length ≤ 63 ∧ 0 < ds.length ∧ ∀ d ∈ ds, ∃ a b c, d = dk a b c := by
  have s1 : cAsg (.nm 1) (cSl (cVar 0) none (some (cC (.int 63)))) [some (script ns), none, none] = .nx [some (script ns), some (IL true ns), none] := by
    have e : cSl (cVar 0) none (some (cC (.int 63))) [some (script ns), none, none] = .ok (.val (.node .lst true ((ns.map D.int).take (63 : Int).toNat))) [some (script ns), none, none] :=
      sl_ns (x := .loc 0) (r1 := [some (script ns), none, none]) (k := .rd) (o := false) (xs := ns.map D.int) (xs' := ns.map D.int) rfl rfl rfl inferInstance rfl (by
        show [some (D.node .rd false (frzs (ns.map D.int))), none, none] = _
        rw [frzs_ints]; rfl) (by decide)
    rw [List.take_of_length_le (by rw [List.length_map]; show ns.length ≤ 63; exact hl)] at e
    exact VH.asg_go (set_val e) rfl
  have s2 : ∃ cs : List Int, cs.length ≤ 63 ∧ 0 < cs.length ∧ cIfS (cBin gEq (cVar 1) (cLst cNil)) (cAsg (.nm 1) (cLst (cCons (cSet (cC (.int 0))) cNil))) cSkip [some (script ns), some (IL true ns), none] = .nx [some (script ns), some (IL true cs), none] := by
    have e := eqD_go (r := [some (script ns), some (IL true ns), none]) (fa := cVar 1) (fb := cLst cNil) (VL.cvar_loc rfl rfl) (y := .val (.node .lst true [])) (r2 := [some (script ns), some (IL true ns), none]) rfl rfl rfl (VL.eq_lints ns [])
    by_cases h : ns = []
    · rw [decide_eq_true h] at e
      exact ⟨[0], by decide, by decide, ifs_y e rfl rfl⟩
    · rw [decide_eq_false h] at e
      refine ⟨ns, hl, ?_, ifs_n e rfl rfl⟩
      cases ns with
      | nil => exact (h rfl).elim
      | cons _ _ => exact Nat.succ_pos _
  obtain ⟨cs, h1, h2, s2⟩ := s2
  have l1 : cB (b1 lenD) (cCons (cVar 1) cNil) [some (script ns), some (IL true cs), none] = .ok (.val (.int (cs.map D.int).length)) [some (script ns), some (IL true cs), none] := len_go (VL.cvar_loc rfl rfl) rfl rfl
  rw [List.length_map] at l1
  have s3 : cLc [2] (.nm 2) (iRng rngI1 (cCons (cB (b1 lenD) (cCons (cVar 1) cNil)) cNil)) none (cLst (cCons (cSet (cBin gIx (cVar 1) (cVar 2))) (cCons (cSet (cBin gMod (cB (b1 lenD) (cCons (cVar 0) cNil)) (cC (.int 2)))) (cCons (cSet (cBin gMul (cC (.int 7)) (cVar 2))) cNil)))) [some (script ns), some (IL true cs), none] = .ok (.val (.node .lst true ((List.range cs.length).map fun k => dk (cs.getD k 0) (((ns.length : Nat) : Int) % 2) (7 * ((k : Nat) : Int))))) [some (script ns), some (IL true cs), none] := by
    refine lc_all (enc := nt) (g := fun k => dk (cs.getD k 0) (((ns.length : Nat) : Int) % 2) (7 * ((k : Nat) : Int))) (List.range cs.length) (r1 := [some (script ns), some (IL true cs), none]) (r0 := [some (script ns), some (IL true cs), none]) ?_ rfl (by rw [List.length_range]; omega) ?_
    · rw [it_rngI l1 (by unfold within; exact decide_eq_true (by omega)), Int.toNat_natCast, rng_nt]
    · intro k hk
      have hk : k < cs.length := List.mem_range.mp hk
      refine ⟨[some (script ns), some (IL true cs), some (nt k)], rfl, [some (script ns), some (IL true cs), some (nt k)], ?_, rfl⟩
      have l2 : cB (b1 lenD) (cCons (cVar 0) cNil) [some (script ns), some (IL true cs), some (nt k)] = .ok (.val (.int (ns.map D.int).length)) [some (script ns), some (IL true cs), some (nt k)] := len_go (k := .rd) (VL.cvar_loc rfl rfl) rfl rfl
      rw [List.length_map] at l2
      have at1 : atI (cs.map D.int) ((k : Nat) : Int) = some (.int (cs.getD k 0)) := by
        rw [VL.atI_nat, List.getElem?_map, List.getD_eq_getElem?_getD, List.getElem?_eq_getElem hk]; rfl
      exact set_val (lst_ok (cons_ok (set_val (ixA_go (VL.cvar_loc rfl rfl) (cvar_at rfl rfl) rfl rfl at1 rfl)) (cons_ok (set_val (mod_ok l2 (j := 2) rfl (by decide))) (cons_ok (set_val (mul_ok (i := 7) (j := (k : Int)) rfl rfl (VH.mulOk_l (by decide)))) (nil_ok _)))) rfl (Nat.le_of_ble_eq_true rfl))
  refine ⟨(List.range cs.length).map fun k : Nat => dk (cs.getD k 0) (((ns.length : Nat) : Int) % 2) (7 * ((k : Nat) : Int)), ?_, ?_, ?_, ?_⟩
  · unfold F__law_decks f__law_decks
    exact runF_go (r := [some (script ns), none, none]) (by walk_at "start") (seq_go s1 (seq_go s2 (ret_go s3))) rfl
  · rw [List.length_map, List.length_range]; exact h1
  · rw [List.length_map, List.length_range]; exact h2
  · intro d hd
    obtain ⟨k, _, rfl⟩ := List.mem_map.mp hd
    exact ⟨_, _, _, rfl⟩

structure Dr (L : List Lp) (z : Int) : Prop where
  pos : ∀ p ∈ L, 1 ≤ p.2
  lo : ∀ p ∈ L, 0 ≤ p.1 ∧ p.1 ≤ z
  up : L.Pairwise fun p q => p.1 < q.1
theorem Dr.add {L : List Lp} {z : Int} (h : Dr L z) (hz : -1 ≤ z) {v : Int} (hv : 0 ≤ v) {l : Nat} (hl : 1 ≤ l) : Dr (L ++ [(z + 1 + v, l)]) (z + 1 + v) := by
  refine ⟨fun p hp => ?_, fun p hp => ?_, List.pairwise_append.mpr ⟨h.up, List.pairwise_singleton _ _, fun p hp q hq => ?_⟩⟩
  · rcases List.mem_append.mp hp with hp | hp
    · exact h.pos p hp
    · rw [List.mem_singleton.mp hp]; exact hl
  · rcases List.mem_append.mp hp with hp | hp
    · have := h.lo p hp; omega
    · rw [List.mem_singleton.mp hp]; show 0 ≤ z + 1 + v ∧ z + 1 + v ≤ z + 1 + v; omega
  · rw [List.mem_singleton.mp hq]
    have := (h.lo p hp).2
    show p.1 < z + 1 + v
    omega
noncomputable abbrev dlB : Sv := (cSeq (cAsg (.nm 3) (cBin gAdd (cBin gAdd (cVar 3) (cC (.int 1))) (cCallQ 0 1 F__law_draw (cCons (cVar 4) (cCons (cSet (cC (.int 4))) cNil)))))
  (cExpr (cApp 2 (cTup (cCons (cSet (cVar 3)) (cCons (cSet (cBin gAdd (cC (.int 1)) (cCallQ 0 1 F__law_draw (cCons (cVar 4) (cCons (cSet (cBin gIx (cLst (cCons (cSet (cC (.int 6))) (cCons (cSet (cC (.int 12))) (cCons (cSet (cC (.int 12))) (cCons (cSet (cC (.int 257))) cNil))))) (cCallQ 0 1 F__law_draw (cCons (cVar 4) (cCons (cSet (cC (.int 4))) cNil))))) cNil))))) cNil))))))
abbrev D5 (S M : D) (L : List Lp) (z : Int) (d : Option D) : Rho := [some S, some M, some (.node .lst true (L.map pl)), some (.int z), d]
theorem dl_step (S M : D) (L : List Lp) (z : Int) (a b c : Int) (hl : L.length < 1000) : ∃ v a' c', ∃ l : Nat, 0 ≤ v ∧ v < 4 ∧ 1 ≤ l ∧ dlB (D5 S M L z (some (dk a b c))) = .nx (D5 S M (L ++ [(z + 1 + v, l)]) (z + 1 + v) (some (dk a' b c'))) := by
  obtain ⟨v, a1, c1, e1, h1, h2⟩ := dq (r := D5 S M L z (some (dk a b c))) (i := 4) (fm := cC (.int 4)) rfl (set_val rfl) (by decide) (by decide)
  have s1 : cAsg (.nm 3) (cBin gAdd (cBin gAdd (cVar 3) (cC (.int 1))) (cCallQ 0 1 F__law_draw (cCons (cVar 4) (cCons (cSet (cC (.int 4))) cNil)))) (D5 S M L z (some (dk a b c))) = .nx (D5 S M L (z + 1 + v) (some (dk a1 b c1))) :=
    VH.asg_go (set_val (add_ok (i := z + 1) (j := v) (add_ok (i := z) (j := 1) rfl rfl) e1)) rfl
  obtain ⟨w, a2, c2, e2, h3, h4⟩ := dq (r := D5 S M L (z + 1 + v) (some (dk a1 b c1))) (i := 4) (fm := cC (.int 4)) rfl (set_val rfl) (by decide) (by decide)
  have hm : ∃ m : Int, 0 < m ∧ m < 1000000 ∧ atI [D.int 6, D.int 12, D.int 12, D.int 257] w = some (.int m) := by
    have : w = 0 ∨ w = 1 ∨ w = 2 ∨ w = 3 := by omega
    rcases this with e | e | e | e <;> subst e
    · exact ⟨6, by decide, by decide, rfl⟩
    · exact ⟨12, by decide, by decide, rfl⟩
    · exact ⟨12, by decide, by decide, rfl⟩
    · exact ⟨257, by decide, by decide, rfl⟩
  obtain ⟨m, hm1, hm2, hm3⟩ := hm
  have e3 : cSet (cBin gIx (cLst (cCons (cSet (cC (.int 6))) (cCons (cSet (cC (.int 12))) (cCons (cSet (cC (.int 12))) (cCons (cSet (cC (.int 257))) cNil))))) (cCallQ 0 1 F__law_draw (cCons (cVar 4) (cCons (cSet (cC (.int 4))) cNil)))) (D5 S M L (z + 1 + v) (some (dk a1 b c1))) = .ok (.val (.int m)) (D5 S M L (z + 1 + v) (some (dk a2 b c2))) :=
    set_val (ixA_go (o := true) (k := .lst) (xs := [D.int 6, D.int 12, D.int 12, D.int 257]) rfl e2 rfl rfl hm3 rfl)
  obtain ⟨u, a3, c3, e4, h5, h6⟩ := dq2 (r := D5 S M L (z + 1 + v) (some (dk a1 b c1))) (i := 4) rfl e3 rfl hm1 hm2
  refine ⟨v, a3, c3, (1 + u).toNat, h1, h2, by omega, seq_go s1 ?_⟩
  have e5 : (((1 + u).toNat : Nat) : Int) = 1 + u := by omega
  refine app_go rfl (set_val (tup_ok (ds := [.int (z + 1 + v), .int (1 + u)]) (cons_ok (set_val (cvar_at rfl rfl)) (cons_ok (set_val (add_ok (i := 1) (j := u) rfl e4)) (nil_ok _))) rfl (Nat.le_of_ble_eq_true rfl))) rfl (by rw [List.length_map]; omega) ?_
  show _ = [some S, some M, some (.node .lst true ((L ++ [(z + 1 + v, (1 + u).toNat)]).map pl)), _, _]
  rw [List.map_append]
  show _ = [some S, some M, some (.node .lst true (L.map pl ++ [.node .tup false [.int (z + 1 + v), .int (((1 + u).toNat : Nat) : Int)]])), some (.int (z + 1 + v)), some (dk a3 b c3)]
  rw [e5]
  rfl
theorem dl_loop (S M : D) : ∀ (ds : List D) (L : List Lp) (z : Int) (d : Option D), (∀ d ∈ ds, ∃ a b c, d = dk a b c) → Dr L z → -1 ≤ z → L.length + ds.length < 1000 → ∃ L' z' d', forL (.nm 4) dlB ds (D5 S M L z d) = .nx (D5 S M L' z' d') ∧ Dr L' z' ∧ z' ≤ z + 4 * ds.length ∧ L'.length = L.length + ds.length
  | [], L1, z, d, _, h, _, _ => ⟨L1, z, d, rfl, h, by simp, rfl⟩
  | x :: ds, L1, z, d, hd, h, hz, hl => by
    rw [List.length_cons] at hl
    obtain ⟨a, b, c, rfl⟩ := hd x List.mem_cons_self
    obtain ⟨v, a', c', l, h1, h2, h3, e⟩ := dl_step S M L1 z a b c (by omega)
    obtain ⟨L', z', d', ih, h4, h5, h6⟩ := dl_loop S M ds (L1 ++ [(z + 1 + v, l)]) (z + 1 + v) (some (dk a' b c')) (fun y hy => hd y (List.mem_cons_of_mem _ hy)) (h.add hz h1 h3) (by omega) (by rw [List.length_append, List.length_singleton]; omega)
    rw [List.length_append, List.length_singleton] at h6
    exact ⟨L', z', d', forL_c rfl e ih, h4, by rw [List.length_cons]; omega, by rw [List.length_cons]; omega⟩
theorem drawn_ok (ns : List Int) (hl : ns.length ≤ 63) : ∃ L z, F__law_drawn_lengths [script ns, .int 12] = .ok (.node .lst true (L.map pl)) ∧ Dr L z ∧ z ≤ 50 ∧ L.length ≤ 12 ∧ 0 < L.length := by
  obtain ⟨ds, e, h1, h0, h2⟩ := decks_ok ns hl
  obtain ⟨L', z', d', e2, h3, h4, h5⟩ := dl_loop (script ns) (.int 12) (ds.take 12) [] (-1) none (fun d hd => h2 d (List.mem_of_mem_take hd)) ⟨fun p hp => (by cases hp), fun p hp => (by cases hp), List.Pairwise.nil⟩ (by decide) (by rw [List.length_take, List.length_nil]; omega)
  rw [List.length_take] at h4 h5
  rw [List.length_nil] at h5
  refine ⟨L', z', ?_, h3, by omega, by omega, by omega⟩
  have nl : noL (.node .lst true ds) = true := by
    show (true && noLs ds) = true
    rw [noLs_of fun d hd => ?_]
    · rfl
    · obtain ⟨a, b, c, rfl⟩ := h2 d hd
      rfl
  have c1 : cCall 1 F__law_decks (cCons (cVar 0) cNil) (D5 (script ns) (.int 12) [] (-1) none) = .ok (.val (.node .lst true ds)) (D5 (script ns) (.int 12) [] (-1) none) :=
    call_go (cons_ok (VL.cvar_loc rfl rfl) (nil_ok _)) rfl inferInstance rfl e ⟨nl⟩
  have i1 : iLst (cSlV (cCall 1 F__law_decks (cCons (cVar 0) cNil)) none (some (cVar 1))) (D5 (script ns) (.int 12) [] (-1) none) = .ok (ds.take 12) (D5 (script ns) (.int 12) [] (-1) none) := by
    refine it_lstG (o := true) (k := .lst) ?_ rfl
    refine set_val ?_
    unfold cSlV
    rw [c1, bd_ok, q_part0, VH.part_ok (f := cVar 1) (i := 12) (r1 := D5 (script ns) (.int 12) [] (-1) none) rfl]
    show EO.ok (R.val (.node .lst true (VL.cutD ds none (some 12)))) _ = _
    rw [VH.cutD_ns ds (by decide)]
    rfl
  unfold F__law_drawn_lengths f__law_drawn_lengths
  refine runF_go (x := .loc 2) (r1 := D5 (script ns) (.int 12) L' z' d') (r := [some (script ns), some (.int 12), none, none, none]) (by walk_at "start") (seq_go (r1 := [some (script ns), some (.int 12), some (.node .lst true []), none, none]) (VH.asg_go (set_val rfl) rfl) (seq_go (r1 := D5 (script ns) (.int 12) [] (-1) none) (VH.asg_go (set_val rfl) rfl) (seq_go (for_go i1 e2) (ret_go (VL.cvar_loc rfl rfl))))) rfl
end K10.Co

namespace K10.Co
open PySem PySem.Spec PyProof.Rows L2 VL VH
open K10 K10.Bt
def letP (L : List Lp) : Prop := (∀ p ∈ L, p.2 ≤ 256) ∧ kr L ≤ 2 ^ 256
instance (L : List Lp) : Decidable (letP L) := by unfold letP; infer_instance
theorem fold_max : ∀ (ns : List Int) (a : Int), ns.foldl max a ≤ 256 ↔ a ≤ 256 ∧ ∀ n ∈ ns, n ≤ 256
  | [], a => by simp
  | n :: ns, a => by
    show ns.foldl max (max a n) ≤ 256 ↔ _
    rw [fold_max ns]
    rw [Int.max_le, and_assoc]
    simp only [List.mem_cons, forall_eq_or_imp]
abbrev Z7 (L : List Lp) (a b c d e f : Option D) : Rho := [some (.node .lst false (L.map pl)), a, b, c, d, e, f]
theorem lens_lc (L : List Lp) (hl : L.length < 16777000) : cLc [3, 4] (.tp [3, 4]) (iLst (cVar 0)) none (cVar 4) (Z7 L none none none none none none) = .ok (.val (.node .lst true ((L.map fun p => ((p.2 : Nat) : Int)).map .int))) (Z7 L none none none none none none) := by
  rw [List.map_map]
  refine lc_all (enc := pl) (g := D.int ∘ fun p => ((p.2 : Nat) : Int)) L (r1 := Z7 L none none none none none none) (r0 := Z7 L none none none none none none) (it_lstG (o := false) (k := .lst) (set_loc (d := .node .lst false (L.map pl)) rfl rfl inferInstance rfl) rfl) rfl (by omega) ?_
  intro p _
  exact ⟨Z7 L none none (some (.int p.1)) (some (.int (p.2 : Nat))) none none, rfl, Z7 L none none (some (.int p.1)) (some (.int (p.2 : Nat))) none none, set_val (cvar_at rfl rfl), rfl⟩
theorem max_lens (L : List Lp) (hl : L.length < 16777000) : ∃ m : Int, cB (b1 maxD) (cCons (cBin gAdd (cLst (cCons (cSet (cC (.int 0))) cNil)) (cLc [3, 4] (.tp [3, 4]) (iLst (cVar 0)) none (cVar 4))) cNil) (Z7 L none none none none none none) = .ok (.val (.int m)) (Z7 L none none none none none none) ∧ (m ≤ 256 ↔ ∀ p ∈ L, p.2 ≤ 256) := by
  refine ⟨(L.map fun p => ((p.2 : Nat) : Int)).foldl max 0, ?_, ?_⟩
  · have e : cBin gAdd (cLst (cCons (cSet (cC (.int 0))) cNil)) (cLc [3, 4] (.tp [3, 4]) (iLst (cVar 0)) none (cVar 4)) (Z7 L none none none none none none) = .ok (.val (.node .lst true ([D.int 0] ++ (L.map fun p => ((p.2 : Nat) : Int)).map .int))) (Z7 L none none none none none none) :=
      addL_go (r1 := Z7 L none none none none none none) (x := .val (.node .lst true [D.int 0])) rfl (lens_lc L hl) rfl rfl inferInstance inferInstance (by rw [List.length_map, List.length_map, List.length_singleton]; omega) rfl rfl
    refine b1_ok e rfl ?_ rfl
    show (lstInts (.node .lst true ((0 :: (L.map fun p => ((p.2 : Nat) : Int))).map D.int))).bind _ = _
    have e2 : lstInts (.node .lst true ((0 :: (L.map fun p => ((p.2 : Nat) : Int))).map D.int)) = some (0 :: (L.map fun p => ((p.2 : Nat) : Int))) := by
      show intsOf _ = _
      rw [intsOf_map]
    rw [e2]
    rfl
  · rw [fold_max]
    constructor
    · intro h p hp
      have := h.2 _ (List.mem_map_of_mem (f := fun p : Lp => ((p.2 : Nat) : Int)) hp)
      have this : ((p.2 : Nat) : Int) ≤ 256 := this
      omega
    · intro h
      refine ⟨by decide, fun n hn => ?_⟩
      obtain ⟨p, hp, rfl⟩ := List.mem_map.mp hn
      have := h p hp
      show ((p.2 : Nat) : Int) ≤ 256
      omega
theorem half_loop (x0 x1 x2 x3 x4 : Option D) : ∀ (ks : List Nat) (n : Nat) (u : Option D), ∃ u', forL (.nm 6) (cAsg (.nm 5) (cBin gDiv (cVar 5) (cC (.int 2)))) (ks.map nt) [x0, x1, x2, x3, x4, some (nt n), u] = .nx [x0, x1, x2, x3, x4, some (nt (n / 2 ^ ks.length)), u']
  | [], n, u => ⟨u, by rw [List.length_nil, Nat.pow_zero, Nat.div_one]; rfl⟩
  | k :: ks, n, u => by
    obtain ⟨u', ih⟩ := half_loop x0 x1 x2 x3 x4 ks (n / 2) (some (nt k))
    refine ⟨u', forL_c (r2 := [x0, x1, x2, x3, x4, some (nt (n / 2)), some (nt k)]) rfl ?_ ?_⟩
    · exact VH.asg_go (set_val (div_ok (i := (n : Int)) (j := 2) rfl rfl (by decide) (by decide))) (by rfl)
    · rw [ih, List.length_cons, Nat.div_div_eq_div_mul, ← Nat.pow_succ']
noncomputable abbrev ltB : Sv := (cSeq (cAsg (.nm 5) (cVar 1))
  (cSeq (cFor (.nm 6) (iRng rngI1 (cCons (cVar 4) cNil)) (cAsg (.nm 5) (cBin gDiv (cVar 5) (cC (.int 2)))))
  (cAsg (.nm 2) (cBin gAdd (cVar 2) (cVar 5)))))
theorem let_loop (L : List Lp) : ∀ (M : List Lp) (t : Nat) (c d e f : Option D), (∀ p ∈ M, p.2 ≤ 256) → ∃ c' d' e' f', forL (.tp [3, 4]) ltB (M.map pl) (Z7 L (some (nt (2 ^ 256))) (some (nt t)) c d e f) = .nx (Z7 L (some (nt (2 ^ 256))) (some (nt (t + kr M))) c' d' e' f')
  | [], t, c, d, e, f, _ => ⟨c, d, e, f, rfl⟩
  | p :: M, t, c, d, e, f, h => by
    obtain ⟨u', e1⟩ := half_loop (some (.node .lst false (L.map pl))) (some (nt (2 ^ 256))) (some (nt t)) (some (.int p.1)) (some (nt p.2)) (List.range p.2) (2 ^ 256) f
    have hp := h p List.mem_cons_self
    rw [List.length_range, show 2 ^ 256 / 2 ^ p.2 = room p.2 from Nat.pow_div hp (by decide)] at e1
    obtain ⟨c', d', e', f', ih⟩ := let_loop L M (t + room p.2) (some (.int p.1)) (some (nt p.2)) (some (nt (room p.2))) u' fun q hq => h q (List.mem_cons_of_mem _ hq)
    refine ⟨c', d', e', f', ?_⟩
    have e2 : t + kr (p :: M) = t + room p.2 + kr M := by
      unfold kr
      rw [List.map_cons, List.sum_cons, Nat.add_assoc]
    rw [e2]
    refine forL_c (r1 := Z7 L (some (nt (2 ^ 256))) (some (nt t)) (some (.int p.1)) (some (nt p.2)) e f) (r2 := Z7 L (some (nt (2 ^ 256))) (some (nt (t + room p.2))) (some (.int p.1)) (some (nt p.2)) (some (nt (room p.2))) u') rfl ?_ ih
    refine seq_go (r1 := Z7 L (some (nt (2 ^ 256))) (some (nt t)) (some (.int p.1)) (some (nt p.2)) (some (nt (2 ^ 256))) f) (VH.asg_go (set_val (cvar_at rfl rfl)) rfl) ?_
    refine seq_go (r1 := Z7 L (some (nt (2 ^ 256))) (some (nt t)) (some (.int p.1)) (some (nt p.2)) (some (nt (room p.2))) u') (for_go (it_rngI (n := ((p.2 : Nat) : Int)) (cvar_at rfl rfl) (by unfold within; exact decide_eq_true (by omega))) (by rw [Int.toNat_natCast, rng_nt]; exact e1)) ?_
    refine VH.asg_go (set_val (add_ok (i := (t : Int)) (j := ((room p.2 : Nat) : Int)) rfl rfl)) ?_
    rw [show (t : Int) + ((room p.2 : Nat) : Int) = ((t + room p.2 : Nat) : Int) from by omega]
    rfl
theorem whole_ev (r : Rho) : cBin gMul (cBin gMul (cBin gMul (cBin gPow (cC (.int 2)) (cC (.int 64))) (cBin gPow (cC (.int 2)) (cC (.int 64)))) (cBin gPow (cC (.int 2)) (cC (.int 64)))) (cBin gPow (cC (.int 2)) (cC (.int 64))) r = .ok (.val (nt (2 ^ 256))) r := by
  have p1 : cBin gPow (cC (.int 2)) (cC (.int 64)) r = .ok (.val (.int (2 ^ 64))) r := pow_go (i := 2) (j := 64) rfl rfl (by decide +kernel) (by decide +kernel)
  have m1 := mul_ok p1 p1 (by decide +kernel)
  have m2 := mul_ok m1 p1 (by decide +kernel)
  have m3 := mul_ok m2 p1 (by decide +kernel)
  rw [m3]
  have e : (2 ^ 64 * 2 ^ 64 * 2 ^ 64 * 2 ^ 64 : Int) = ((2 ^ 256 : Nat) : Int) := by decide +kernel
  rw [e]
theorem let_ok (L : List Lp) (hl : L.length < 16777000) : F__law_let [.node .lst false (L.map pl)] = .ok (.bl (decide (letP L))) := by
  obtain ⟨m, e1, h1⟩ := max_lens L hl
  have g := gt_ok (fb := cC (.int 256)) (j := 256) e1 rfl
  unfold F__law_let f__law_let
  by_cases h : ∀ p ∈ L, p.2 ≤ 256
  · rw [decide_eq_false (show ¬ 256 < m from by have := h1.mpr h; omega)] at g
    obtain ⟨c', d', e', f', e2⟩ := let_loop L L 0 none none none none h
    rw [Nat.zero_add] at e2
    refine runF_go (x := .val (.bl (decide (letP L)))) (r := Z7 L none none none none none none) (r1 := Z7 L (some (nt (2 ^ 256))) (some (nt (kr L))) c' d' e' f') (by walk_at "start") (seq_go (ifs_n (r1 := Z7 L none none none none none none) g rfl rfl) (seq_go (r1 := Z7 L (some (nt (2 ^ 256))) none none none none none) (VH.asg_go (set_val (whole_ev _)) rfl) (seq_go (r1 := Z7 L (some (nt (2 ^ 256))) (some (nt 0)) none none none none) (VH.asg_go (set_val rfl) rfl) (seq_go (for_go (it_lstG (o := false) (k := .lst) (set_loc (d := .node .lst false (L.map pl)) rfl rfl inferInstance rfl) rfl) e2) (ret_go ?_))))) rfl
    have e3 := le_ok (i := ((kr L : Nat) : Int)) (j := ((2 ^ 256 : Nat) : Int)) (fa := cVar 2) (fb := cVar 1) (r := Z7 L (some (nt (2 ^ 256))) (some (nt (kr L))) c' d' e' f') rfl rfl
    rw [e3]
    have e4 : decide (((kr L : Nat) : Int) ≤ ((2 ^ 256 : Nat) : Int)) = decide (letP L) := by
      congr 1
      refine propext ⟨fun q => ⟨h, Int.ofNat_le.mp q⟩, fun q => Int.ofNat_le.mpr q.2⟩
    rw [e4]
  · rw [decide_eq_true (show 256 < m from by
      rcases Int.lt_or_le 256 m with q | q
      · exact q
      · exact (h (h1.mp q)).elim)] at g
    have e5 : decide (letP L) = false := decide_eq_false fun q => h q.1
    rw [e5]
    exact runF_go (r := Z7 L none none none none none none) (by walk_at "start") (seq_rt (ifs_y g rfl (ret_go rfl))) rfl
end K10.Co

namespace K10.Co
open PySem PySem.Spec PyProof.Rows L2 VL VH
open K10 K10.Bt
theorem bw_wb : ∀ (k : Nat) (x : List Bool), x.length = k → bw k (wb x) = x
  | 0, x, h => by
    have : x = [] := List.length_eq_zero_iff.mp h
    subst this; rfl
  | k + 1, x, h => by
    rcases List.eq_nil_or_concat x with e | ⟨y, b, e⟩
    · subst e; cases h
    · subst e
      rw [List.concat_eq_append] at h ⊢
      rw [List.length_append, List.length_singleton] at h
      have ih := bw_wb k y (by omega)
      rw [wb_snoc]
      show bw k ((2 * wb y + b.toNat) / 2) ++ [(2 * wb y + b.toNat) % 2 == 1] = y ++ [b]
      have e1 : (2 * wb y + b.toNat) / 2 = wb y := by cases b <;> simp <;> omega
      have e2 : ((2 * wb y + b.toNat) % 2 == 1) = b := by cases b <;> simp <;> omega
      rw [e1, e2, ih]
theorem wb_false (x : List Bool) : ∀ k : Nat, wb (x ++ List.replicate k false) = wb x * 2 ^ k
  | 0 => by rw [List.replicate_zero, List.append_nil, Nat.pow_zero, Nat.mul_one]
  | k + 1 => by
    rw [List.replicate_succ', ← List.append_assoc, wb_snoc, wb_false x k, Nat.pow_succ]
    show 2 * (wb x * 2 ^ k) + 0 = _
    rw [Nat.add_zero, Nat.mul_comm 2, Nat.mul_assoc]
theorem wb_true (x : List Bool) : ∀ k : Nat, wb (x ++ List.replicate k true) + 1 = (wb x + 1) * 2 ^ k
  | 0 => by rw [List.replicate_zero, List.append_nil, Nat.pow_zero, Nat.mul_one]
  | k + 1 => by
    have ih := wb_true x k
    rw [List.replicate_succ', ← List.append_assoc, wb_snoc, Nat.pow_succ]
    show 2 * wb (x ++ List.replicate k true) + 1 + 1 = _
    rw [← Nat.mul_assoc, ← ih]
    omega
theorem ones : ∀ (n : Nat) (x : List Bool), x.length = n → wb x + 1 < 2 ^ n → ∃ y k, x = y ++ false :: List.replicate k true
  | 0, x, h, h2 => by
    have : x = [] := List.length_eq_zero_iff.mp h
    subst this
    have : wb ([] : List Bool) = 0 := rfl
    rw [this] at h2
    omega
  | n + 1, x, h, h2 => by
    rcases List.eq_nil_or_concat x with e | ⟨y, b, e⟩
    · subst e; cases h
    · subst e
      rw [List.concat_eq_append] at h h2 ⊢
      rw [List.length_append, List.length_singleton] at h
      cases b with
      | false => exact ⟨y, 0, rfl⟩
      | true =>
        rw [wb_snoc, Nat.pow_succ] at h2
        have h3 : wb y + 1 < 2 ^ n := by
          have : (true : Bool).toNat = 1 := rfl
          omega
        obtain ⟨z, k, e⟩ := ones n y (by omega) h3
        refine ⟨z, k + 1, ?_⟩
        rw [e, List.replicate_succ', List.append_assoc]
        rfl
theorem inc_wb (y : List Bool) (k : Nat) : wb (y ++ true :: List.replicate k false) = wb (y ++ false :: List.replicate k true) + 1 := by
  have e1 : y ++ true :: List.replicate k false = (y ++ [true]) ++ List.replicate k false := by rw [List.append_assoc]; rfl
  have e2 : y ++ false :: List.replicate k true = (y ++ [false]) ++ List.replicate k true := by rw [List.append_assoc]; rfl
  rw [e1, e2, wb_false, wb_true, wb_snoc, wb_snoc]
  show (2 * wb y + 1) * 2 ^ k = (2 * wb y + 0 + 1) * 2 ^ k
  rw [Nat.add_zero]
theorem bw_next {a m : Nat} {y : List Bool} {k : Nat} (e : bw a m = y ++ false :: List.replicate k true) (hm : m + 1 < 2 ^ a) : y ++ true :: List.replicate k false = bw a (m + 1) := by
  have h := wb_bw a m (by omega)
  have l := bw_len a m
  rw [e] at h l
  have h2 := inc_wb y k
  rw [h] at h2
  have := bw_wb a (y ++ true :: List.replicate k false) (by simp at l ⊢; omega)
  rw [h2] at this
  exact this.symm
theorem bw_zeros {a n l : Nat} (h : n < 2 ^ a) (hl : a ≤ l) : bw a n ++ List.replicate (l - a) false = bw l (n * 2 ^ (l - a)) := by
  have e := wb_false (bw a n) (l - a)
  rw [wb_bw a n h] at e
  have := bw_wb l (bw a n ++ List.replicate (l - a) false) (by rw [List.length_append, bw_len, List.length_replicate]; omega)
  rw [e] at this
  exact this.symm
theorem bw_zero : ∀ l : Nat, bw l 0 = List.replicate l false
  | 0 => rfl
  | l + 1 => by
    show bw l (0 / 2) ++ [0 % 2 == 1] = _
    rw [show (0 : Nat) / 2 = 0 from rfl, bw_zero l, List.replicate_succ']
    rfl
theorem bi_set (x : List Bool) (i : Nat) (b : Bool) : ((VL.bi x).map D.int).set i (.int ((b.toNat : Nat) : Int)) = (VL.bi (x.set i b)).map .int := by
  unfold VL.bi
  rw [List.map_map, List.map_map, List.map_set]
  rfl
theorem bi_rep (k : Nat) : (List.replicate k (D.int 0)) = (VL.bi (List.replicate k false)).map .int := by
  unfold VL.bi
  rw [List.map_map, List.map_replicate]
  rfl
abbrev LBo (o : Bool) (x : List Bool) : D := .node .lst o ((VL.bi x).map .int)
abbrev W6 (A : D) (f : D) (x : List Bool) (l s a : Option D) : Rho := [some A, some f, some (LBo true x), l, s, a]
theorem one_loop (A f : D) (l s : Option D) (y : List Bool) : ∀ (k j m : Nat), k < m → whileL (cBin gEq (cBin gIx (cVar 2) (cVar 5)) (cC (.int 1))) (cSeq (cSetIx 2 (cVar 5) (cC (.int 0))) (cAsg (.nm 5) (cBin VL.gSub (cVar 5) (cC (.int 1))))) m (W6 A f ((y ++ false :: List.replicate k true) ++ List.replicate j false) l s (some (nt (y.length + k)))) = .nx (W6 A f ((y ++ false :: List.replicate (k + j) false)) l s (some (nt y.length)))
  | k, j, 0, h => by omega
  | 0, j, m + 1, _ => by
    have hx : atI ((VL.bi ((y ++ false :: List.replicate 0 true) ++ List.replicate j false)).map D.int) ((y.length + 0 : Nat) : Int) = some (.int 0) := by
      rw [VL.atI_nat, List.getElem?_map]
      unfold VL.bi
      rw [List.getElem?_map, List.append_assoc, Nat.add_zero, List.getElem?_append_right (Nat.le_refl _), Nat.sub_self]
      rfl
    have e := eq_ok (ixA_go (r := W6 A f ((y ++ false :: List.replicate 0 true) ++ List.replicate j false) l s (some (nt (y.length + 0)))) (fa := cVar 2) (fb := cVar 5) (VL.cvar_loc rfl rfl) (cvar_at rfl rfl) rfl rfl hx rfl) (j := 1) (fb := cC (.int 1)) rfl
    rw [wh_n e rfl, Nat.zero_add]
    have e2 : (y ++ false :: List.replicate 0 true) ++ List.replicate j false = y ++ false :: List.replicate j false := by rw [List.append_assoc]; rfl
    rw [e2]
    rfl
  | k + 1, j, m + 1, h => by
    have hlen : y.length + (k + 1) < ((y ++ false :: List.replicate (k + 1) true) ++ List.replicate j false).length := by simp; omega
    have hget : ((y ++ false :: List.replicate (k + 1) true) ++ List.replicate j false)[y.length + (k + 1)]? = some true := by
      rw [List.append_assoc, List.getElem?_append_right (by omega), Nat.add_sub_cancel_left]
      show (false :: (List.replicate (k + 1) true ++ List.replicate j false))[k + 1]? = _
      rw [List.getElem?_cons_succ, List.getElem?_append_left (by rw [List.length_replicate]; omega), List.getElem?_replicate, if_pos (by omega)]
    have hx : atI ((VL.bi ((y ++ false :: List.replicate (k + 1) true) ++ List.replicate j false)).map D.int) ((y.length + (k + 1) : Nat) : Int) = some (.int 1) := by
      rw [VL.atI_nat, List.getElem?_map]
      unfold VL.bi
      rw [List.getElem?_map, hget]
      rfl
    have e := eq_ok (ixA_go (r := W6 A f ((y ++ false :: List.replicate (k + 1) true) ++ List.replicate j false) l s (some (nt (y.length + (k + 1))))) (fa := cVar 2) (fb := cVar 5) (VL.cvar_loc rfl rfl) (cvar_at rfl rfl) rfl rfl hx rfl) (j := 1) (fb := cC (.int 1)) rfl
    have es : ((y ++ false :: List.replicate (k + 1) true) ++ List.replicate j false).set (y.length + (k + 1)) false = (y ++ false :: List.replicate k true) ++ List.replicate (j + 1) false := by
      have e0 : (y ++ false :: List.replicate (k + 1) true) ++ List.replicate j false = (y ++ false :: List.replicate k true) ++ true :: List.replicate j false := by
        rw [List.replicate_succ']
        simp [List.append_assoc]
      rw [e0, List.set_append_right _ _ (by simp), show y.length + (k + 1) - (y ++ false :: List.replicate k true).length = 0 from by simp]
      rfl
    have ih := one_loop A f l s y k (j + 1) m (by omega)
    refine (wh_s e ?_).trans (ih.trans ?_)
    · refine seq_go (r1 := W6 A f ((y ++ false :: List.replicate k true) ++ List.replicate (j + 1) false) l s (some (nt (y.length + (k + 1))))) ?_ ?_
      · have hix : ixN ((VL.bi ((y ++ false :: List.replicate (k + 1) true) ++ List.replicate j false)).map D.int).length ((y.length + (k + 1) : Nat) : Int) = some (y.length + (k + 1)) := ixN_nat (by rw [List.length_map, Bt.bi_len]; exact hlen)
        refine setIx_go (set_val rfl) rfl (cvar_at rfl rfl) rfl hix ?_
        show [some A, some f, some (.node .lst true (((VL.bi ((y ++ false :: List.replicate (k + 1) true) ++ List.replicate j false)).map D.int).set (y.length + (k + 1)) (.int (((false : Bool).toNat : Nat) : Int)))), l, s, _] = _
        rw [bi_set, es]
      · refine VH.asg_go (set_val (sub_ok (i := ((y.length + (k + 1) : Nat) : Int)) (j := 1) rfl rfl)) ?_
        rw [show ((y.length + (k + 1) : Nat) : Int) - 1 = ((y.length + k : Nat) : Int) from by omega]
        rfl
    · rw [show k + (j + 1) = k + 1 + j from by omega]
noncomputable abbrev lwB : Sv := (cSeq (cIfS (cBin gEq (cVar 1) (cLst cNil)) (cAsg (.nm 2) (cBin gMul (cLst (cCons (cSet (cC (.int 0))) cNil)) (cVar 3))) (cSeq (cAsg (.nm 2) (cB (gListOf) (cCons (cVar 2) cNil)))
  (cSeq (cAsg (.nm 5) (cBin VL.gSub (cB (b1 lenD) (cCons (cVar 2) cNil)) (cC (.int 1))))
  (cSeq (whileL (cBin gEq (cBin gIx (cVar 2) (cVar 5)) (cC (.int 1))) (cSeq (cSetIx 2 (cVar 5) (cC (.int 0)))
  (cAsg (.nm 5) (cBin VL.gSub (cVar 5) (cC (.int 1))))) fuel)
  (cSeq (cSetIx 2 (cVar 5) (cC (.int 1)))
  (cAsg (.nm 2) (cBin gAdd (cVar 2) (cBin gMul (cLst (cCons (cSet (cC (.int 0))) cNil)) (cBin VL.gSub (cVar 3) (cB (b1 lenD) (cCons (cVar 2) cNil)))))))))))
  (cExpr (cApp 1 (cTup (cCons (cSet (cVar 4)) (cCons (cSet (cVar 2)) cNil))))))
abbrev Y6 (A : D) (f : List (Int × List Bool)) (o : Bool) (x : List Bool) (l s a : Option D) : Rho := [some A, some (.node .lst true (f.map (nw false))), some (LBo o x), l, s, a]
theorem fp_nw (f : List (Int × List Bool)) : ∀ d ∈ f.map (nw false), FP 2 d := fun d hd => by
  obtain ⟨q, _, rfl⟩ := List.mem_map.mp hd
  refine fp_tup (k := 1) fun y hy => ?_
  simp only [List.mem_cons, List.not_mem_nil, or_false] at hy
  rcases hy with rfl | rfl
  · exact fp_int _ 1
  · exact fp_lst (k := 0) (fqs_enc (fun _ => fp_int _ 0) _)
theorem f_empty (A : D) (f : List (Int × List Bool)) (o : Bool) (x : List Bool) (l s a : Option D) : cBin gEq (cVar 1) (cLst cNil) (Y6 A f o x l s a) = .ok (.val (.bl (f.map (nw false)).isEmpty)) (Y6 A f o x l s a) :=
  eqD_go (VL.cvar_loc rfl rfl) (y := .val (.node .lst true [])) (r2 := Y6 A f o x l s a) rfl rfl rfl (VL.eq_nil (k := 2) (fp_nw f) (by decide))
theorem lw_app (A : D) (f : List (Int × List Bool)) (x : List Bool) (l a : Option D) (z : Int) (hf : f.length < 10000) : cExpr (cApp 1 (cTup (cCons (cSet (cVar 4)) (cCons (cSet (cVar 2)) cNil)))) (Y6 A f true x l (some (.int z)) a) = .nx (Y6 A (f ++ [(z, x)]) false x l (some (.int z)) a) := by
  refine app_go rfl (set_val (tup_ok (ds := [.int z, LBo false x]) (cons_ok (set_val (cvar_at rfl rfl)) (cons_ok (set_loc (d := LBo true x) rfl rfl inferInstance rfl) (nil_ok _))) rfl (Nat.le_of_ble_eq_true rfl))) rfl (by rw [List.length_map]; omega) ?_
  show _ = [some A, some (.node .lst true ((f ++ [(z, x)]).map (nw false))), _, _, _, _]
  rw [List.map_append]
  rfl
theorem lw_first (A : D) (o : Bool) (x : List Bool) (l : Nat) (z : Int) (a : Option D) (hl : l ≤ 256) : lwB (Y6 A [] o x (some (nt l)) (some (.int z)) a) = .nx (Y6 A [(z, bw l 0)] false (bw l 0) (some (nt l)) (some (.int z)) a) := by
  have e := f_empty A [] o x (some (nt l)) (some (.int z)) a
  have m := mulL_go (fa := cLst (cCons (cSet (cC (.int 0))) cNil)) (fb := cVar 3) (xs := [D.int 0]) (xs' := [D.int 0]) (r := Y6 A [] o x (some (nt l)) (some (.int z)) a) (r1 := Y6 A [] o x (some (nt l)) (some (.int z)) a) (r2 := Y6 A [] o x (some (nt l)) (some (.int z)) a) (n := (l : Int)) (o := true) rfl (cvar_at rfl rfl) inferInstance (by omega) (by omega) (by rw [List.length_singleton]; omega)
  have e3 : (List.replicate ((l : Nat) : Int).toNat [D.int 0]).flatten = (VL.bi (bw l 0)).map .int := by
    rw [Int.toNat_natCast, bw_zero, ← bi_rep, List.flatten_replicate_singleton]
  rw [e3] at m
  refine seq_go (r1 := Y6 A [] true (bw l 0) (some (nt l)) (some (.int z)) a) (ifs_y e rfl (VH.asg_go (set_val m) rfl)) ?_
  exact lw_app A [] (bw l 0) (some (nt l)) a z (by decide)
theorem lw_next (A : D) (f : List (Int × List Bool)) (hf : f ≠ []) (hf2 : f.length < 10000) (o : Bool) (a m l : Nat) (z : Int) (a5 : Option D) (hm : m + 1 < 2 ^ a) (hal : a ≤ l) (hl : l ≤ 256) : ∃ a5', lwB (Y6 A f o (bw a m) (some (nt l)) (some (.int z)) a5) = .nx (Y6 A (f ++ [(z, bw l ((m + 1) * 2 ^ (l - a)))]) false (bw l ((m + 1) * 2 ^ (l - a))) (some (nt l)) (some (.int z)) a5') := by
  have e := f_empty A f o (bw a m) (some (nt l)) (some (.int z)) a5
  have e1 : (f.map (nw false)).isEmpty = false := by cases f with
    | nil => exact (hf rfl).elim
    | cons _ _ => rfl
  rw [e1] at e
  obtain ⟨y, k, ey⟩ := ones a (bw a m) (bw_len a m) (by rw [wb_bw a m (by omega)]; exact hm)
  have hlen : a = y.length + 1 + k := by
    have := congrArg List.length ey
    rw [bw_len] at this
    simp at this; omega
  have hn := bw_next ey hm
  have k0 : k < 1000 := by omega
  have s1 : cAsg (.nm 2) (cB (gListOf) (cCons (cVar 2) cNil)) (Y6 A f o (bw a m) (some (nt l)) (some (.int z)) a5) = .nx (Y6 A f true (bw a m) (some (nt l)) (some (.int z)) a5) :=
    VH.asg_go (set_val (listOf_go (o := o) (k := .lst) (xs := (VL.bi (bw a m)).map .int) (VL.cvar_loc rfl rfl) rfl rfl inferInstance (touch_I (o := o) (xs := VL.bi (bw a m)) rfl))) rfl
  have l2 : cB (b1 lenD) (cCons (cVar 2) cNil) (Y6 A f true (bw a m) (some (nt l)) (some (.int z)) a5) = .ok (.val (.int ((VL.bi (bw a m)).map D.int).length)) (Y6 A f true (bw a m) (some (nt l)) (some (.int z)) a5) := len_go (VL.cvar_loc rfl rfl) rfl rfl
  rw [List.length_map, Bt.bi_len, bw_len] at l2
  have s2 : cAsg (.nm 5) (cBin VL.gSub (cB (b1 lenD) (cCons (cVar 2) cNil)) (cC (.int 1))) (Y6 A f true (bw a m) (some (nt l)) (some (.int z)) a5) = .nx (Y6 A f true (bw a m) (some (nt l)) (some (.int z)) (some (nt (y.length + k)))) := by
    refine VH.asg_go (set_val (sub_ok l2 (j := 1) (fb := cC (.int 1)) rfl)) ?_
    rw [show ((a : Nat) : Int) - 1 = ((y.length + k : Nat) : Int) from by omega]
    rfl
  have s3 := one_loop A (.node .lst true (f.map (nw false))) (some (nt l)) (some (.int z)) y k 0 fuel (VH.lt_fuel (by omega))
  rw [List.replicate_zero, List.append_nil, ← ey, Nat.add_zero] at s3
  have s4 : cSetIx 2 (cVar 5) (cC (.int 1)) (Y6 A f true (y ++ false :: List.replicate k false) (some (nt l)) (some (.int z)) (some (nt y.length))) = .nx (Y6 A f true (bw a (m + 1)) (some (nt l)) (some (.int z)) (some (nt y.length))) := by
    have hix : ixN ((VL.bi (y ++ false :: List.replicate k false)).map D.int).length ((y.length : Nat) : Int) = some y.length := ixN_nat (by rw [List.length_map, Bt.bi_len]; simp)
    refine setIx_go (set_val rfl) rfl (cvar_at rfl rfl) rfl hix ?_
    show [some A, some (.node .lst true (f.map (nw false))), some (.node .lst true (((VL.bi (y ++ false :: List.replicate k false)).map D.int).set y.length (.int (((true : Bool).toNat : Nat) : Int)))), some (nt l), some (.int z), _] = _
    rw [bi_set, List.set_append_right _ _ (Nat.le_refl _), Nat.sub_self, ← hn]
    rfl
  have l5 : cB (b1 lenD) (cCons (cVar 2) cNil) (Y6 A f true (bw a (m + 1)) (some (nt l)) (some (.int z)) (some (nt y.length))) = .ok (.val (.int ((VL.bi (bw a (m + 1))).map D.int).length)) (Y6 A f true (bw a (m + 1)) (some (nt l)) (some (.int z)) (some (nt y.length))) := len_go (VL.cvar_loc rfl rfl) rfl rfl
  rw [List.length_map, Bt.bi_len, bw_len] at l5
  have s5 : cAsg (.nm 2) (cBin gAdd (cVar 2) (cBin gMul (cLst (cCons (cSet (cC (.int 0))) cNil)) (cBin VL.gSub (cVar 3) (cB (b1 lenD) (cCons (cVar 2) cNil))))) (Y6 A f true (bw a (m + 1)) (some (nt l)) (some (.int z)) (some (nt y.length))) = .nx (Y6 A f true (bw l ((m + 1) * 2 ^ (l - a))) (some (nt l)) (some (.int z)) (some (nt y.length))) := by
    have e5 := sub_ok (r := Y6 A f true (bw a (m + 1)) (some (nt l)) (some (.int z)) (some (nt y.length))) (fa := cVar 3) (i := (l : Int)) rfl l5
    rw [show (l : Int) - ((a : Nat) : Int) = ((l - a : Nat) : Int) from by omega] at e5
    have e6 := mulL_go (fa := cLst (cCons (cSet (cC (.int 0))) cNil)) (xs := [D.int 0]) (xs' := [D.int 0]) (r := Y6 A f true (bw a (m + 1)) (some (nt l)) (some (.int z)) (some (nt y.length))) (r1 := Y6 A f true (bw a (m + 1)) (some (nt l)) (some (.int z)) (some (nt y.length))) (o := true) rfl e5 inferInstance (by omega) (by omega) (by rw [List.length_singleton]; omega)
    rw [Int.toNat_natCast, List.flatten_replicate_singleton, bi_rep] at e6
    have e7 := addL_go (r := Y6 A f true (bw a (m + 1)) (some (nt l)) (some (.int z)) (some (nt y.length))) (fa := cVar 2) (VL.cvar_loc rfl rfl) e6 rfl rfl (xs' := (VL.bi (bw a (m + 1))).map .int) inferInstance inferInstance (by rw [List.length_map, List.length_map, Bt.bi_len, Bt.bi_len, bw_len, List.length_replicate]; omega) rfl (touch_I (o := true) (xs := VL.bi (bw a (m + 1))) rfl)
    have e8 : (VL.bi (bw a (m + 1))).map D.int ++ (VL.bi (List.replicate (l - a) false)).map D.int = (VL.bi (bw l ((m + 1) * 2 ^ (l - a)))).map .int := by
      rw [← bw_zeros hm hal]
      unfold VL.bi
      rw [List.map_append, List.map_append]
    rw [e8] at e7
    exact VH.asg_go (set_val e7) rfl
  exact ⟨_, seq_go (ifs_n (r1 := Y6 A f o (bw a m) (some (nt l)) (some (.int z)) a5) e rfl (seq_go s1 (seq_go s2 (seq_go s3 (seq_go s4 s5))))) (lw_app A f _ _ _ z hf2)⟩
theorem lw_loop (A : D) : ∀ (S : List (Nat × Int)) (f : List (Int × List Bool)) (m a : Nat) (o : Bool) (x4 x5 x6 : Option D), f ≠ [] → Fit (m + 1) a S → m + 1 ≤ 2 ^ a → f.length + S.length < 10000 → ∃ o' x x4' x5' x6', forL (.tp [3, 4]) lwB (S.map fun q => VL.pairD (((q.1 : Nat) : Int), q.2)) (Y6 A f o (bw a m) x4 x5 x6) = .nx (Y6 A (f ++ ws (m + 1) a S) o' x x4' x5' x6')
  | [], f, m, a, o, x4, x5, x6, _, _, _, _ => ⟨o, bw a m, x4, x5, x6, by
    show SO.nx _ = _
    rw [show ws (m + 1) a [] = [] from rfl, List.append_nil]⟩
  | q :: S, f, m, a, o, x4, x5, x6, hf, h, hm, hl => by
    rw [List.length_cons] at hl
    have hq := h.2.1 q List.mem_cons_self
    have h1 := h.head
    have hm2 : m + 1 < 2 ^ a := by
      have h2 := h1.1
      have e : 2 ^ q.1 = 2 ^ a * 2 ^ (q.1 - a) := by rw [← Nat.pow_add]; congr 1; omega
      rw [e] at h2
      exact Nat.lt_of_mul_lt_mul_right h2
    obtain ⟨a5, e⟩ := lw_next A f hf (by omega) o a m q.1 q.2 x6 hm2 hq.1 hq.2
    obtain ⟨o', x, y4, y5, y6, ih⟩ := lw_loop A S (f ++ [(q.2, bw q.1 ((m + 1) * 2 ^ (q.1 - a)))]) ((m + 1) * 2 ^ (q.1 - a)) q.1 false (some (nt q.1)) (some (.int q.2)) a5 (by simp) h1.2 h1.1 (by rw [List.length_append, List.length_singleton]; omega)
    refine ⟨o', x, y4, y5, y6, ?_⟩
    rw [List.append_assoc] at ih
    exact forL_c rfl e ih
theorem lwords_ok {L : List Lp} (g : Good L) : F__law_words [.node .lst false (L.map pl)] = .ok (.node .lst true ((Wt L).map (nlD false))) := by
  have hfit := so_fit g.le g.fit
  have h : ∃ o x x4 x5 x6, forL (.tp [3, 4]) lwB ((so L).map fun q => VL.pairD (((q.1 : Nat) : Int), q.2)) (Y6 (.node .lst false (L.map pl)) [] true [] none none none) = .nx (Y6 (.node .lst false (L.map pl)) (Ws L) o x x4 x5 x6) := by
    have hlen := so_len L
    unfold Ws
    revert hfit hlen
    generalize so L = S
    intro hfit hlen
    cases S with
    | nil => exact ⟨true, [], none, none, none, rfl⟩
    | cons q S =>
      have hq := hfit.2.1 q List.mem_cons_self
      have h1 := hfit.head
      rw [Nat.zero_mul] at h1
      have e := lw_first (.node .lst false (L.map pl)) true [] q.1 q.2 none hq.2
      obtain ⟨o', x, y4, y5, y6, ih⟩ := lw_loop (.node .lst false (L.map pl)) S [(q.2, bw q.1 0)] 0 q.1 false (some (nt q.1)) (some (.int q.2)) none (by simp) h1.2 (Nat.pow_pos (by decide)) (by
        have := g.few
        rw [List.length_cons] at hlen
        rw [List.length_singleton]; omega)
      refine ⟨o', x, y4, y5, y6, ?_⟩
      have e2 : ws 0 0 (q :: S) = [(q.2, bw q.1 0)] ++ ws (0 + 1) q.1 S := by
        show (q.2, bw q.1 (0 * 2 ^ (q.1 - 0))) :: ws (0 * 2 ^ (q.1 - 0) + 1) q.1 S = _
        rw [Nat.zero_mul]; rfl
      rw [e2]
      exact forL_c rfl e ih
  obtain ⟨o, x, x4, x5, x6, e⟩ := h
  have e1 : cLc [4, 3] (.tp [4, 3]) (iLst (cVar 0)) none (cTup (cCons (cSet (cVar 3)) (cCons (cSet (cVar 4)) cNil))) (Y6 (.node .lst false (L.map pl)) [] true [] none none none) = .ok (.val (.node .lst true ((L.map fun p => (((p.2 : Nat) : Int), p.1)).map VL.pairD))) (Y6 (.node .lst false (L.map pl)) [] true [] none none none) := by
    rw [List.map_map]
    refine lc_all (enc := pl) (g := VL.pairD ∘ fun p => (((p.2 : Nat) : Int), p.1)) L (r1 := Y6 (.node .lst false (L.map pl)) [] true [] none none none) (r0 := Y6 (.node .lst false (L.map pl)) [] true [] none none none) ?_ rfl (by have := g.few; omega) ?_
    · exact it_lstG (o := false) (k := .lst) (set_loc (d := .node .lst false (L.map pl)) rfl rfl inferInstance rfl) rfl
    · intro p hp
      refine ⟨Y6 (.node .lst false (L.map pl)) [] true [] (some (nt p.2)) (some (.int p.1)) none, rfl, Y6 (.node .lst false (L.map pl)) [] true [] (some (nt p.2)) (some (.int p.1)) none, ?_, rfl⟩
      exact set_val (tup_ok (cons_ok (set_val (cvar_at rfl rfl)) (cons_ok (set_val (cvar_at rfl rfl)) (nil_ok _))) rfl (Nat.le_of_ble_eq_true rfl))
  have e2 := VL.sortedP_ok e1
  rw [so_back, List.map_map] at e2
  have e3 : cFor (.tp [3, 4]) (iLst (cB gSortedP (cCons (cLc [4, 3] (.tp [4, 3]) (iLst (cVar 0)) none (cTup (cCons (cSet (cVar 3)) (cCons (cSet (cVar 4)) cNil)))) cNil))) lwB (Y6 (.node .lst false (L.map pl)) [] true [] none none none) = .nx (Y6 (.node .lst false (L.map pl)) (Ws L) o x x4 x5 x6) :=
    for_go (it_lstG (set_val e2) rfl) e
  have e4 : cB gSortedN (cCons (cVar 1) cNil) (Y6 (.node .lst false (L.map pl)) (Ws L) o x x4 x5 x6) = .ok (.val (.node .lst true ((Wt L).map (nlD false)))) (touch (Y6 (.node .lst false (L.map pl)) (Ws L) o x x4 x5 x6) (.loc 1)) := by
    rw [q_B, q_cons, VL.cvar_loc (d := .node .lst true ((Ws L).map (nw false))) rfl rfl]
    show (match nlsOf ((Ws L).map (nw false)) with | some ps => EO.ok (.val (.node .lst true ((srtN ps).map (nlD false)))) (touch _ _) | none => .bad) = _
    have e5 : (Ws L).map (nw false) = ((Ws L).map fun q => (q.1, VL.bi q.2)).map (nlD false) := by rw [List.map_map]; rfl
    rw [e5, nlsOf_map]
    rfl
  unfold F__law_words f__law_words
  exact runF_go (x := .val (.node .lst true ((Wt L).map (nlD false)))) (r := [some (.node .lst false (L.map pl)), none, none, none, none, none]) (by walk_at "start") (seq_go (r1 := [some (.node .lst false (L.map pl)), some (.node .lst true []), none, none, none, none]) (VH.asg_go (set_val rfl) rfl) (seq_go (r1 := Y6 (.node .lst false (L.map pl)) [] true [] none none none) (VH.asg_go (set_val rfl) rfl) (seq_go e3 (ret_go e4)))) rfl
end K10.Co

namespace K10.Co
open PySem PySem.Spec PyProof.Rows L2 VL VH
open K10 K10.Bt
theorem bi_inj : ∀ {a b : List Bool}, VL.bi a = VL.bi b → a = b
  | [], [], _ => rfl
  | [], _ :: _, h => by cases h
  | _ :: _, [], h => by cases h
  | x :: a, y :: b, h => by
    have h : ((x.toNat : Nat) : Int) :: VL.bi a = ((y.toNat : Nat) : Int) :: VL.bi b := h
    injection h with h1 h2
    have h1 : x.toNat = y.toNat := Int.ofNat.inj h1
    rw [bi_inj h2]
    cases x <;> cases y <;> first | rfl | cases h1
theorem wb_app (x : List Bool) : ∀ (n : Nat) (t : List Bool), t.length = n → wb (x ++ t) = wb x * 2 ^ n + wb t
  | 0, t, h => by
    have : t = [] := List.length_eq_zero_iff.mp h
    subst this
    rw [List.append_nil, Nat.pow_zero, Nat.mul_one]; rfl
  | n + 1, t, h => by
    rcases List.eq_nil_or_concat t with e | ⟨y, b, e⟩
    · subst e; cases h
    · subst e
      rw [List.concat_eq_append] at h ⊢
      rw [List.length_append, List.length_singleton] at h
      rw [← List.append_assoc, wb_snoc, wb_snoc, wb_app x n y (by omega), Nat.pow_succ]
      have : wb x * (2 ^ n * 2) = 2 * (wb x * 2 ^ n) := by rw [← Nat.mul_assoc, Nat.mul_comm]
      omega
theorem ws_ge : ∀ (S : List (Nat × Int)) (n a : Nat), Fit n a S → ∀ q ∈ ws n a S, ∃ l N, q.2 = bw l N ∧ a ≤ l ∧ n * 2 ^ (l - a) ≤ N ∧ N < 2 ^ l
  | p :: S, n, a, h, q, hq => by
    have hp := h.2.1 p List.mem_cons_self
    rcases List.mem_cons.mp hq with e | hq
    · subst e
      exact ⟨p.1, _, rfl, hp.1, Nat.le_refl _, h.head.1⟩
    · obtain ⟨l, N, h1, h2, h3, h4⟩ := ws_ge S _ _ h.head.2 q hq
      refine ⟨l, N, h1, by omega, Nat.le_trans ?_ h3, h4⟩
      have e : 2 ^ (l - a) = 2 ^ (p.1 - a) * 2 ^ (l - p.1) := by rw [← Nat.pow_add]; congr 1; omega
      rw [e, ← Nat.mul_assoc]
      exact Nat.mul_le_mul_right _ (Nat.le_succ _)
theorem not_front {l l' N N' : Nat} (h : l ≤ l') (h2 : (N + 1) * 2 ^ (l' - l) ≤ N') (h3 : N < 2 ^ l) (h4 : N' < 2 ^ l') : ¬ bw l N <+: bw l' N' := by
  rintro ⟨t, e⟩
  have ht : t.length = l' - l := by
    have := congrArg List.length e
    rw [List.length_append, bw_len, bw_len] at this
    omega
  have e2 := wb_app (bw l N) _ t ht
  rw [e, wb_bw l' N' h4, wb_bw l N h3] at e2
  have h5 := wb_lt t
  rw [ht] at h5
  rw [Nat.add_mul, Nat.one_mul] at h2
  omega
theorem ws_pf : ∀ (S : List (Nat × Int)) (n a : Nat), Fit n a S → (ws n a S).Pairwise fun p q => ¬ p.2 <+: q.2 ∧ ¬ q.2 <+: p.2
  | [], _, _, _ => List.Pairwise.nil
  | p :: S, n, a, h => by
    refine List.pairwise_cons.mpr ⟨fun q hq => ?_, ws_pf S _ _ h.head.2⟩
    obtain ⟨l, N, h1, h2, h3, h4⟩ := ws_ge S _ _ h.head.2 q hq
    have h5 : ¬ bw p.1 (n * 2 ^ (p.1 - a)) <+: q.2 := by
      rw [h1]
      exact not_front h2 h3 h.head.1 h4
    refine ⟨h5, fun h6 => h5 ?_⟩
    have h7 := h6.length_le
    rw [h1] at h7
    have h7 : (bw l N).length ≤ (bw p.1 (n * 2 ^ (p.1 - a))).length := h7
    rw [bw_len, bw_len] at h7
    have h8 : q.2 = bw p.1 (n * 2 ^ (p.1 - a)) := h6.eq_of_length (by rw [h1, bw_len]; show l = (bw p.1 _).length; rw [bw_len]; omega)
    rw [h8]
    exact List.prefix_refl _
theorem pw_all {α : Type} {R : α → α → Prop} (hs : ∀ a b, R a b → R b a) : ∀ {xs : List α}, xs.Pairwise R → ∀ a ∈ xs, ∀ b ∈ xs, a = b ∨ R a b
  | x :: xs, h, a, ha, b, hb => by
    have h := List.pairwise_cons.mp h
    rcases List.mem_cons.mp ha with ea | ha
    · rcases List.mem_cons.mp hb with eb | hb
      · exact .inl (ea.trans eb.symm)
      · rw [ea]; exact .inr (h.1 b hb)
    · rcases List.mem_cons.mp hb with eb | hb
      · rw [eb]; exact .inr (hs _ _ (h.1 a ha))
      · exact pw_all hs h.2 a ha b hb
theorem bi_front {x y : List Bool} (h : VL.bi x <+: VL.bi y) : x <+: y := by
  obtain ⟨t, e⟩ := h
  refine ⟨y.drop x.length, ?_⟩
  have e2 : x = y.take x.length := by
    refine bi_inj ?_
    have := congrArg (List.take x.length) e
    rw [show x.length = (VL.bi x).length from (Bt.bi_len x).symm, List.take_left, Bt.bi_len x] at this
    rw [this]
    unfold VL.bi
    rw [List.map_take]
  conv => lhs; lhs; rw [e2]
  exact List.take_append_drop _ _
theorem Good.free {L : List Lp} (g : Good L) : ∀ p ∈ Wt L, ∀ q ∈ Wt L, p.2 <+: q.2 → p = q := fun p hp q hq h => by
  obtain ⟨a, ha, ea, _⟩ := Wt_at hp
  obtain ⟨b, hb, eb, _⟩ := Wt_at hq
  have w := pw_all (R := fun p q : Int × List Bool => ¬ p.2 <+: q.2 ∧ ¬ q.2 <+: p.2) (fun a b h => ⟨h.2, h.1⟩) (ws_pf (so L) 0 0 (so_fit g.le g.fit)) a ha b hb
  rw [ea, eb] at h
  rcases w with w | w
  · rw [ea, eb, w]
  · exact (w.1 (bi_front h)).elim
theorem rdw_full {K : List (List Int)} {w : List Int} (hw : w ∈ K) (hf : ∀ v ∈ K, v <+: w → v = w) (hl : w.length ≤ 256) : ∀ (x acc r : List Int), acc ++ x = w → rdw K acc (x ++ r) = some (w, r)
  | [], acc, r, e => by
    rw [List.append_nil] at e
    subst e
    cases r with
    | nil => show rdw K acc [] = _; unfold rdw; rw [if_pos hw]
    | cons b r => show rdw K acc (b :: r) = _; unfold rdw; rw [if_pos hw]
  | b :: x, acc, r, e => by
    show rdw K acc (b :: (x ++ r)) = _
    unfold rdw
    have hlen : acc.length < w.length := by rw [← e, List.length_append, List.length_cons]; omega
    rw [if_neg (fun h => by
      have := hf acc h ⟨b :: x, e⟩
      rw [this] at hlen
      omega), if_neg (by omega)]
    exact rdw_full hw hf hl x (acc ++ [b]) r (by rw [← e, List.append_assoc]; rfl)
def ahd (W : List NK) (r : List Int) : List NK := W.filter fun p => decide (r.take p.2.length = p.2)
theorem one_of {α : Type} {p : α} : ∀ {xs : List α}, xs.Nodup → p ∈ xs → (∀ q ∈ xs, q = p) → xs = [p]
  | [x], _, hp, _ => by rw [List.mem_singleton.mp hp]
  | x :: y :: xs, hn, _, h => by
    have h1 := h x List.mem_cons_self
    have h2 := h y (List.mem_cons_of_mem _ List.mem_cons_self)
    exact ((List.nodup_cons.mp hn).1 (by rw [h1, ← h2]; exact List.mem_cons_self)).elim
theorem take_front {r w : List Int} (h : r.take w.length = w) : w <+: r := ⟨r.drop w.length, by
  have := List.take_append_drop w.length r
  rw [h] at this
  exact this⟩
theorem ahd_ok {L : List Lp} (g : Good L) (r : List Int) : match rdw (keysW (Wt L)) [] r with
    | some (w, r') => ahd (Wt L) r = [(signOf (Wt L) w, w)] ∧ r = w ++ r'
    | none => ahd (Wt L) r = [] := by
  have hfr : ∀ p ∈ Wt L, p.2 <+: r → rdw (keysW (Wt L)) [] r = some (p.2, r.drop p.2.length) := fun p hp h => by
    obtain ⟨t, e⟩ := h
    have := rdw_full (K := keysW (Wt L)) (w := p.2) (List.mem_map_of_mem (f := fun q : NK => q.2) hp) (fun v hv hv2 => by
      obtain ⟨q, hq, rfl⟩ := List.mem_map.mp hv
      rw [g.free q hq p hp hv2]) (Wt_word g.le p hp) p.2 [] t rfl
    rw [e] at this
    rw [this, ← e, List.drop_left]
  cases e : rdw (keysW (Wt L)) [] r with
  | some z =>
    obtain ⟨w, r'⟩ := z
    obtain ⟨h1, x, h2, h3⟩ := rdw_sound r [] e
    have h2 : w = x := h2
    subst h2
    have h4 := signOf_at h1
    refine ⟨one_of ?_ ?_ ?_, h3⟩
    · refine List.Pairwise.filter _ ?_
      exact (List.pairwise_map.mp g.nodup).imp fun h e => h (congrArg (fun q : NK => q.1) e)
    · refine List.mem_filter.mpr ⟨h4, decide_eq_true ?_⟩
      show r.take w.length = w
      rw [h3, List.take_left]
    · intro q hq
      have hq := List.mem_filter.mp hq
      have hq2 : r.take q.2.length = q.2 := of_decide_eq_true hq.2
      have h5 := hfr q hq.1 (take_front hq2)
      rw [e] at h5
      have h6 : w = q.2 := by
        have := Option.some.inj h5
        exact congrArg Prod.fst this
      refine g.free q hq.1 _ h4 ?_
      show q.2 <+: w
      rw [h6]
      exact List.prefix_refl _
  | none =>
    show ahd (Wt L) r = []
    unfold ahd
    rw [List.filter_eq_nil_iff]
    intro q hq h
    have hq2 : r.take q.2.length = q.2 := of_decide_eq_true h
    have h5 := hfr q hq (take_front hq2)
    rw [e] at h5
    cases h5
end K10.Co

namespace K10.Co
open PySem PySem.Spec PyProof.Rows L2 VL VH
open K10 K10.Bt
abbrev kN : D := .node .lst true [.bl true, .bl false, .bl true, .bl false]
abbrev kB : D := .node .lst true [.bl false, .bl true, .bl true, .bl false]
abbrev told (d : D) : D := .node .lst true [.str "told", d]
theorem forL_rt {t : Tg} {f : Sv} {d : D} {ds : List D} {r r1 r2 : Rho} {x : R} (h1 : tgt t d r = some r1) (h2 : f r1 = .rt x r2) : forL t f (d :: ds) r = .rt x r2 := by
  unfold forL
  rw [h1]
  show (match f r1 with | .nx r2 => forL t f ds r2 | .ct r2 => forL t f ds r2 | .bk r2 => .nx r2 | o => o) = _
  rw [h2]
theorem mk_good {L : List Lp} {z : Int} (d : Dr L z) (h : letP L) (hl : L.length < 10000) : Good L := ⟨h.1, d.pos, h.2, List.pairwise_map.mpr (d.up.imp fun h e => by
  have e : _ = _ := e
  omega), hl⟩
theorem not_let {L : List Lp} {r : Rho} {i : Nat} (hl : L.length < 10000) (h : r[i]? = some (some (.node .lst false (L.map pl)))) : cNot (cCall 1 F__law_let (cCons (cVar i) cNil)) r = .ok (.val (.bl (!decide (letP L)))) r := by
  refine not_ok (call_go (ds := [.node .lst false (L.map pl)]) (cons_ok (VL.cvar_loc h rfl) (nil_ok _)) ?_ (show Fzs [.node .lst false (L.map pl)] [.node .lst false (L.map pl)] from inferInstance) rfl (let_ok L (by omega)) inferInstance)
  show (match opd r (.loc i), opds r [] with | some d, some ds => some (d :: ds) | _, _ => none) = _
  rw [VL.opd_loc' h]; rfl
noncomputable abbrev lcB : Sv := (cSeq (cIfS (cBin gDNotIn (cVar 4) (cVar 2)) (cRet (cLst (cCons (cSet (cC (.bl true))) (cCons (cSet (cC (.bl false))) (cCons (cSet (cC (.bl true))) (cCons (cSet (cC (.bl false))) cNil)))))) cSkip)
  (cAsg (.nm 3) (cBin gAdd (cVar 3) (cBin dgetK (cVar 2) (cVar 4)))))
theorem lc_step (A Ld : D) (W : List NK) (f : List Int) (s : Int) (hs : s ∈ W.map (·.1)) (hl : f.length + (look W s).length ≤ 16777216) : lcB (C5 A Ld W f (some (.int s))) = .nx (C5 A Ld W (f ++ look W s) (some (.int s))) := by
  have h1 := dnin_go (fa := cVar 4) (i := 2) (ks := W.map (·.1)) (f := fL W) (r := C5 A Ld W f (some (.int s))) (r1 := C5 A Ld W f (some (.int s))) (k := s) rfl rfl
  rw [decide_eq_false (fun q => q hs)] at h1
  refine seq_go (ifs_n (r1 := C5 A Ld W f (some (.int s))) h1 rfl rfl) ?_
  have e : (fun x => frz (fL W x)) = fL W := funext fun x => by
    show D.node .lst false (frzs ((look W x).map .int)) = _
    rw [frzs_ints]
  have h2 : cBin dgetK (cVar 2) (cVar 4) (C5 A Ld W f (some (.int s))) = .ok (.val (.node .lst false ((look W s).map .int))) (C5 A Ld W f (some (.int s))) := by
    refine dget_go (ks := W.map (·.1)) (f := fL W) (k := s) rfl rfl hs ?_ (by rw [e]; rfl)
    exact congrFun e s
  have h3 := addL_go (fa := cVar 3) (r := C5 A Ld W f (some (.int s))) (VL.cvar_loc rfl rfl) h2 rfl rfl (xs' := f.map .int) inferInstance inferInstance (by rw [List.length_map, List.length_map]; exact hl) rfl (touch_I (o := true) (xs := f) rfl)
  rw [← List.map_append] at h3
  exact VH.asg_go (set_val h3) rfl
theorem lc_loop (A Ld : D) (W : List NK) (hw : ∀ p ∈ W, p.2.length ≤ 256) : ∀ (t : List Int) (f : List Int) (u : Option D), (∀ s ∈ t, s ∈ W.map (·.1)) → f.length + 256 * t.length ≤ 16777216 → ∃ u', forL (.nm 4) lcB (t.map .int) (C5 A Ld W f u) = .nx (C5 A Ld W (f ++ cat W t) u')
  | [], f, u, _, _ => ⟨u, by rw [show cat W [] = [] from rfl, List.append_nil]; rfl⟩
  | s :: t, f, u, h, hl => by
    rw [List.length_cons] at hl
    have hs := h s List.mem_cons_self
    have h3 := hw _ (look_mem hs)
    have h3 : (look W s).length ≤ 256 := h3
    obtain ⟨u', ih⟩ := lc_loop A Ld W hw t (f ++ look W s) (some (.int s)) (fun x hx => h x (List.mem_cons_of_mem _ hx)) (by rw [List.length_append]; omega)
    refine ⟨u', forL_c rfl (lc_step A Ld W f s hs (by omega)) ?_⟩
    rw [ih, cat_cons, List.append_assoc]
theorem lc_bad (A Ld : D) (W : List NK) (hw : ∀ p ∈ W, p.2.length ≤ 256) : ∀ (t : List Int) (f : List Int) (u : Option D), (∃ s ∈ t, s ∉ W.map (·.1)) → f.length + 256 * t.length ≤ 16777216 → ∃ r, forL (.nm 4) lcB (t.map .int) (C5 A Ld W f u) = .rt (.val kN) r
  | [], f, u, h, _ => by obtain ⟨s, hs, _⟩ := h; cases hs
  | s :: t, f, u, h, hl => by
    rw [List.length_cons] at hl
    by_cases hs : s ∈ W.map (·.1)
    · have h3 := hw _ (look_mem hs)
      have h3 : (look W s).length ≤ 256 := h3
      have h4 : ∃ s ∈ t, s ∉ W.map (·.1) := by
        obtain ⟨x, hx, hx2⟩ := h
        rcases List.mem_cons.mp hx with e | hx
        · exact (hx2 (e ▸ hs)).elim
        · exact ⟨x, hx, hx2⟩
      obtain ⟨r, ih⟩ := lc_bad A Ld W hw t (f ++ look W s) (some (.int s)) h4 (by rw [List.length_append]; omega)
      exact ⟨r, forL_c rfl (lc_step A Ld W f s hs (by omega)) ih⟩
    · have h1 := dnin_go (fa := cVar 4) (i := 2) (ks := W.map (·.1)) (f := fL W) (r := C5 A Ld W f (some (.int s))) (r1 := C5 A Ld W f (some (.int s))) (k := s) rfl rfl
      rw [decide_eq_true hs] at h1
      exact ⟨_, forL_rt rfl (seq_rt (ifs_y h1 rfl (ret_go rfl)))⟩
theorem call_lwords {L : List Lp} (g : Good L) {r : Rho} {i : Nat} (h : r[i]? = some (some (.node .lst false (L.map pl)))) : cCall 1 F__law_words (cCons (cVar i) cNil) r = .ok (.val (.node .lst true ((Wt L).map (nlD false)))) r := by
  refine call_any (cons_ok (VL.cvar_loc h rfl) (nil_ok _)) (ds := [.node .lst false (L.map pl)]) ?_ (show Fzs [.node .lst false (L.map pl)] [.node .lst false (L.map pl)] from inferInstance) rfl (lwords_ok g) ?_
  · show (match opd r (.loc i), opds r [] with | some d, some ds => some (d :: ds) | _, _ => none) = _
    rw [VL.opd_loc' h]; rfl
  · show VL.settles (VL.settle r (.loc i)) [] = r
    show VL.settle r (.loc i) = r
    unfold VL.settle
    simp only [h]
    show r.set i (some (.node .lst false (frzs (L.map pl)))) = r
    rw [frzs_pl]
    exact Bt.set_same h
abbrev S5 (A Ld : D) : Rho := [some A, some Ld, none, none, none]
theorem lcoded_let {L : List Lp} (hl : L.length < 10000) (h : ¬ letP L) (t : List Int) : F__law_coded [IL false t, .node .lst false (L.map pl)] = .ok kN := by
  have e := not_let (r := S5 (IL false t) (.node .lst false (L.map pl))) (i := 1) hl rfl
  rw [decide_eq_false h] at e
  unfold F__law_coded f__law_coded
  exact runF_go (r := S5 (IL false t) (.node .lst false (L.map pl))) (by walk_at "start") (seq_rt (ifs_y e rfl (ret_go rfl))) rfl
theorem lcoded_ok {L : List Lp} (g : Good L) (t : List Int) (ht : t.length ≤ 60000) (h : ∀ s ∈ t, s ∈ L.map (·.1)) : F__law_coded [IL false t, .node .lst false (L.map pl)] = .ok (told (IL false (cat (Wt L) t))) := by
  obtain ⟨u', e⟩ := lc_loop (IL false t) (.node .lst false (L.map pl)) (Wt L) (Wt_word g.le) t [] none (fun s hs => Wt_mem.mpr (h s hs)) (by simp; omega)
  rw [List.nil_append] at e
  have e0 := not_let (r := S5 (IL false t) (.node .lst false (L.map pl))) (i := 1) g.few rfl
  rw [decide_eq_true (show letP L from ⟨g.le, g.fit⟩)] at e0
  have e1 := dict_words (call_lwords g (r := S5 (IL false t) (.node .lst false (L.map pl))) (i := 1) rfl) g.nodup
  have e2 : cFor (.nm 4) (iLst (cVar 0)) lcB (C5 (IL false t) (.node .lst false (L.map pl)) (Wt L) [] none) = .nx (C5 (IL false t) (.node .lst false (L.map pl)) (Wt L) (cat (Wt L) t) u') :=
    for_go (it_lstG (o := false) (k := .lst) (set_loc (d := IL false t) rfl rfl inferInstance rfl) rfl) e
  unfold F__law_coded f__law_coded
  refine runF_go (x := .val (told (IL false (cat (Wt L) t)))) (r1 := (C5 (IL false t) (.node .lst false (L.map pl)) (Wt L) (cat (Wt L) t) u').set 3 (some (IL false (cat (Wt L) t)))) (r := S5 (IL false t) (.node .lst false (L.map pl))) (by walk_at "start") (seq_go (ifs_n (r1 := S5 (IL false t) (.node .lst false (L.map pl))) e0 rfl rfl) (seq_go (VH.asg_go (set_val e1) rfl) (seq_go (r1 := C5 (IL false t) (.node .lst false (L.map pl)) (Wt L) [] none) (VH.asg_go (set_val rfl) rfl) (seq_go e2 (ret_go ?_))))) rfl
  exact lst_ok (cons_ok (set_val rfl) (cons_ok (set_loc (d := IL true (cat (Wt L) t)) rfl rfl inferInstance rfl) (nil_ok _))) rfl (Nat.le_of_ble_eq_true rfl)
theorem lcoded_no {L : List Lp} (g : Good L) (t : List Int) (ht : t.length ≤ 60000) (h : ∃ s ∈ t, s ∉ L.map (·.1)) : F__law_coded [IL false t, .node .lst false (L.map pl)] = .ok kN := by
  obtain ⟨r, e⟩ := lc_bad (IL false t) (.node .lst false (L.map pl)) (Wt L) (Wt_word g.le) t [] none (by obtain ⟨s, h1, h2⟩ := h; exact ⟨s, h1, fun q => h2 (Wt_mem.mp q)⟩) (by simp; omega)
  have e0 := not_let (r := S5 (IL false t) (.node .lst false (L.map pl))) (i := 1) g.few rfl
  rw [decide_eq_true (show letP L from ⟨g.le, g.fit⟩)] at e0
  have e1 := dict_words (call_lwords g (r := S5 (IL false t) (.node .lst false (L.map pl))) (i := 1) rfl) g.nodup
  have e2 : cFor (.nm 4) (iLst (cVar 0)) lcB (C5 (IL false t) (.node .lst false (L.map pl)) (Wt L) [] none) = .rt (.val kN) r :=
    for_go (it_lstG (o := false) (k := .lst) (set_loc (d := IL false t) rfl rfl inferInstance rfl) rfl) e
  unfold F__law_coded f__law_coded
  exact runF_go (x := .val kN) (r1 := r) (r := S5 (IL false t) (.node .lst false (L.map pl))) (by walk_at "start") (seq_go (ifs_n (r1 := S5 (IL false t) (.node .lst false (L.map pl))) e0 rfl rfl) (seq_go (VH.asg_go (set_val e1) rfl) (seq_go (r1 := C5 (IL false t) (.node .lst false (L.map pl)) (Wt L) [] none) (VH.asg_go (set_val rfl) rfl) (seq_rt e2)))) rfl
end K10.Co

namespace K10.Co
open PySem PySem.Spec PyProof.Rows L2 VL VH
open K10 K10.Bt
abbrev Q10 (xs : List Int) (p : Nat) (Ld M : D) (W : List NK) (o : Bool) (t : List Int) (k h : Option D) : Rho := [some (IL false xs), some (nt p), some Ld, some M, some (.node .lst o (W.map (nlD false))), some (IL true t), k, h, none, none]
abbrev Q10' (xs : List Int) (p : Nat) (Ld M : D) (W : List NK) (o : Bool) (t : List Int) (k h : Option D) (s w : Option D) : Rho := [some (IL false xs), some (nt p), some Ld, some M, some (.node .lst o (W.map (nlD false))), some (IL true t), k, h, s, w]
instance (W : List NK) : Fzs (W.map (nlD false)) (W.map (nlD false)) := ⟨frzs_nl W⟩
theorem here_ok (xs : List Int) (p : Nat) (Ld M : D) (W : List NK) (o : Bool) (t : List Int) (k h : Option D) (hW : W.length < 10000) : cLc [8, 9] (.tp [8, 9]) (iLst (cVar 4)) (some (cBin gEq (cSl (cVar 0) (some (cVar 1)) (some (cBin gAdd (cVar 1) (cB (b1 lenD) (cCons (cVar 9) cNil))))) (cVar 9))) (cVar 8) (Q10 xs p Ld M W o t k h) = .ok (.val (.node .lst true ((ahd W (xs.drop p)).map fun q => D.int q.1))) (Q10 xs p Ld M W false t k h) := by
  refine lc_fl (enc := nlD false) (g := fun q => D.int q.1) (p := fun q : NK => decide ((xs.drop p).take q.2.length = q.2)) W (r1 := Q10 xs p Ld M W false t k h) (r0 := Q10 xs p Ld M W false t k h) (it_lstG (o := false) (k := .lst) (set_loc (d := .node .lst o (W.map (nlD false))) rfl rfl inferInstance rfl) rfl) rfl (by omega) ?_
  intro q _
  refine ⟨Q10' xs p Ld M W false t k h (some (.int q.1)) (some (IL false q.2)), rfl, Q10' xs p Ld M W false t k h (some (.int q.1)) (some (IL false q.2)), ?_, rfl, fun _ => ⟨Q10' xs p Ld M W false t k h (some (.int q.1)) (some (IL false q.2)), set_val (cvar_at rfl rfl), rfl⟩⟩
  show cBin gEq _ _ _ = _
  have l : cB (b1 lenD) (cCons (cVar 9) cNil) (Q10' xs p Ld M W false t k h (some (.int q.1)) (some (IL false q.2))) = .ok (.val (.int (q.2.map D.int).length)) (Q10' xs p Ld M W false t k h (some (.int q.1)) (some (IL false q.2))) := len_go (VL.cvar_loc rfl rfl) rfl rfl
  rw [List.length_map] at l
  have s := sl_ss (fa := cVar 0) (r := Q10' xs p Ld M W false t k h (some (.int q.1)) (some (IL false q.2))) (VL.cvar_loc rfl rfl) rfl rfl (xs' := xs.map .int) inferInstance (fl := cVar 1) (i := (p : Int)) rfl (add_ok (fa := cVar 1) (i := (p : Int)) rfl l) (touch_I (o := false) (xs := xs) rfl) (by omega) (by omega)
  have e1 : ((xs.map D.int).drop ((p : Nat) : Int).toNat).take (((p : Int) + ((q.2.length : Nat) : Int)).toNat - ((p : Nat) : Int).toNat) = (((xs.drop p).take q.2.length)).map .int := by
    rw [Int.toNat_natCast, show ((p : Int) + ((q.2.length : Nat) : Int)).toNat = p + q.2.length from by omega, Nat.add_sub_cancel_left, List.map_take, List.map_drop]
  rw [e1] at s
  exact eqD_go s (VL.cvar_loc rfl rfl) rfl rfl (VL.eq_lints _ _)
noncomputable abbrev ldB : Sv := (cSeq (cAsg (.nm 7) (cLc [8, 9] (.tp [8, 9]) (iLst (cVar 4)) (some (cBin gEq (cSl (cVar 0) (some (cVar 1)) (some (cBin gAdd (cVar 1) (cB (b1 lenD) (cCons (cVar 9) cNil))))) (cVar 9))) (cVar 8)))
  (cSeq (cIfS (cBin gEq (cVar 7) (cLst cNil)) (cRet (cLst (cCons (cSet (cC (.bl false))) (cCons (cSet (cC (.bl true))) (cCons (cSet (cC (.bl true))) (cCons (cSet (cC (.bl false))) cNil)))))) cSkip)
  (cSeq (cExpr (cApp 5 (cBin gIx (cVar 7) (cC (.int 0)))))
  (cAsg (.nm 1) (cBin gAdd (cVar 1) (cB (b1 lenD) (cCons (cBin dgetK (cDictOf (cVar 4)) (cBin gIx (cVar 7) (cC (.int 0)))) cNil)))))))
theorem ld_step {L : List Lp} (g : Good L) (xs : List Int) (p : Nat) (Ld M : D) (o : Bool) (t : List Int) (k h : Option D) (ht : t.length < 16777000) :
    match rdw (keysW (Wt L)) [] (xs.drop p) with
    | some (w, r) => (xs.drop p) = w ++ r ∧ ∃ h', ldB (Q10 xs p Ld M (Wt L) o t k h) = .nx (Q10 xs (p + w.length) Ld M (Wt L) false (t ++ [signOf (Wt L) w]) k h')
    | none => ∃ r, ldB (Q10 xs p Ld M (Wt L) o t k h) = .rt (.val kB) r := by
  have hW : (Wt L).length < 10000 := by rw [Wt_len]; exact g.few
  have e := here_ok xs p Ld M (Wt L) o t k h hW
  have a := ahd_ok g (xs.drop p)
  have em : (ahd (Wt L) (xs.drop p)).map (fun q => D.int q.1) = ((ahd (Wt L) (xs.drop p)).map (fun q => q.1)).map .int := by rw [List.map_map]; rfl
  rw [em] at e
  have e2 := eqD_go (fa := cVar 7) (fb := cLst cNil) (r := Q10 xs p Ld M (Wt L) false t k (some (IL true ((ahd (Wt L) (xs.drop p)).map (fun q => q.1))))) (VL.cvar_loc rfl rfl) (y := .val (.node .lst true [])) (r2 := Q10 xs p Ld M (Wt L) false t k (some (IL true ((ahd (Wt L) (xs.drop p)).map (fun q => q.1))))) rfl rfl rfl (VL.eq_lints _ [])
  have s1 : cAsg (.nm 7) (cLc [8, 9] (.tp [8, 9]) (iLst (cVar 4)) (some (cBin gEq (cSl (cVar 0) (some (cVar 1)) (some (cBin gAdd (cVar 1) (cB (b1 lenD) (cCons (cVar 9) cNil))))) (cVar 9))) (cVar 8)) (Q10 xs p Ld M (Wt L) o t k h) = .nx (Q10 xs p Ld M (Wt L) false t k (some (IL true ((ahd (Wt L) (xs.drop p)).map (fun q => q.1))))) := VH.asg_go (set_val e) rfl
  revert a
  cases rdw (keysW (Wt L)) [] (xs.drop p) with
  | none =>
    intro a
    have a : ahd (Wt L) (xs.drop p) = [] := a
    rw [a] at e2 s1
    exact ⟨_, seq_go s1 (seq_rt (ifs_y e2 rfl (ret_go rfl)))⟩
  | some z =>
    intro a
    obtain ⟨w, r⟩ := z
    obtain ⟨a1, a2⟩ : ahd (Wt L) (xs.drop p) = [(signOf (Wt L) w, w)] ∧ xs.drop p = w ++ r := a
    rw [a1] at e2 s1
    refine ⟨a2, some (IL true [signOf (Wt L) w]), seq_go s1 (seq_go (ifs_n (r1 := Q10 xs p Ld M (Wt L) false t k (some (IL true [signOf (Wt L) w]))) e2 rfl rfl) ?_)⟩
    have hmem : (signOf (Wt L) w, w) ∈ Wt L := (List.mem_filter.mp (by show _ ∈ ahd (Wt L) (xs.drop p); rw [a1]; exact List.mem_cons_self)).1
    have i1 : ∀ t', cBin gIx (cVar 7) (cC (.int 0)) (Q10 xs p Ld M (Wt L) false t' k (some (IL true [signOf (Wt L) w]))) = .ok (.val (.int (signOf (Wt L) w))) (Q10 xs p Ld M (Wt L) false t' k (some (IL true [signOf (Wt L) w]))) := fun t' =>
      ixA_go (n := 0) (xs := [D.int (signOf (Wt L) w)]) (o := true) (k := .lst) (VL.cvar_loc rfl rfl) rfl rfl rfl rfl rfl
    have s3 : cExpr (cApp 5 (cBin gIx (cVar 7) (cC (.int 0)))) (Q10 xs p Ld M (Wt L) false t k (some (IL true [signOf (Wt L) w]))) = .nx (Q10 xs p Ld M (Wt L) false (t ++ [signOf (Wt L) w]) k (some (IL true [signOf (Wt L) w]))) := by
      refine app_go rfl (set_val (i1 t)) rfl (by rw [List.length_map]; omega) ?_
      show _ = [some (IL false xs), some (nt p), some Ld, some M, some (.node .lst false ((Wt L).map (nlD false))), some (.node .lst true ((t ++ [signOf (Wt L) w]).map .int)), k, _, none, none]
      rw [List.map_append]
      rfl
    refine seq_go s3 ?_
    have ek : ((Wt L).map fun p => ((Sum.inl p.1 : L2.Key), D.node .lst false (p.2.map .int))).map (fun p => p.1) = kI ((Wt L).map (·.1)) := by
      show _ = ((Wt L).map (·.1)).map Sum.inl
      rw [List.map_map, List.map_map]; rfl
    have ev : frzs (((Wt L).map fun p => ((Sum.inl p.1 : L2.Key), D.node .lst false (p.2.map .int))).map (fun p => p.2)) = ((Wt L).map (·.1)).map (fL (Wt L)) := by
      rw [frzs_map, List.map_map, List.map_map, List.map_map]
      refine List.map_congr_left fun p hp => ?_
      show D.node .lst false (frzs (p.2.map .int)) = D.node .lst false ((look (Wt L) p.1).map .int)
      rw [frzs_ints, look_at g.nodup hp]
    have d1 := dictOf_ok (fa := cVar 4) (r := Q10 xs p Ld M (Wt L) false (t ++ [signOf (Wt L) w]) k (some (IL true [signOf (Wt L) w]))) (r1 := Q10 xs p Ld M (Wt L) false (t ++ [signOf (Wt L) w]) k (some (IL true [signOf (Wt L) w]))) (r2 := Q10 xs p Ld M (Wt L) false (t ++ [signOf (Wt L) w]) k (some (IL true [signOf (Wt L) w]))) (VL.cvar_loc rfl rfl) rfl (pairs_nl (Wt L)) (by rw [ek]; exact kI_nodup g.nodup) (by
      show [some (IL false xs), some (nt p), some Ld, some M, some (frzB (.node .lst false ((Wt L).map (nlD false)))), some (IL true (t ++ [signOf (Wt L) w])), k, some (IL true [signOf (Wt L) w]), none, none] = _
      show [some (IL false xs), some (nt p), some Ld, some M, some (D.node .lst false (frzs ((Wt L).map (nlD false)))), some (IL true (t ++ [signOf (Wt L) w])), k, some (IL true [signOf (Wt L) w]), none, none] = _
      rw [frzs_nl])
    rw [ek, ev] at d1
    have d2 : cBin dgetK (cDictOf (cVar 4)) (cBin gIx (cVar 7) (cC (.int 0))) (Q10 xs p Ld M (Wt L) false (t ++ [signOf (Wt L) w]) k (some (IL true [signOf (Wt L) w]))) = .ok (.val (IL false w)) (Q10 xs p Ld M (Wt L) false (t ++ [signOf (Wt L) w]) k (some (IL true [signOf (Wt L) w]))) := by
      refine bin_ok d1 (i1 _) ?_
      rw [dgetK_ok (o := true) (ks := (Wt L).map (·.1)) (f := fL (Wt L)) (k := signOf (Wt L) w) rfl rfl (List.mem_map_of_mem (f := fun q : NK => q.1) hmem), q_pick]
      have e7 : look (Wt L) (signOf (Wt L) w) = w := look_at g.nodup hmem
      show (if atom (D.node .lst false ((look (Wt L) (signOf (Wt L) w)).map .int)) = true then _ else EO.ok (.val (frz (D.node .lst false ((look (Wt L) (signOf (Wt L) w)).map .int)))) _) = _
      rw [e7]
      show EO.ok (R.val (D.node .lst false (frzs (w.map .int)))) _ = _
      rw [frzs_ints]
      rfl
    have l := len_go (o := false) (k := .lst) (xs := w.map .int) d2 rfl rfl
    rw [List.length_map] at l
    refine VH.asg_go (set_val (add_ok (fa := cVar 1) (i := (p : Int)) rfl l)) ?_
    rw [show (p : Int) + ((w.length : Nat) : Int) = ((p + w.length : Nat) : Int) from by omega]
    rfl
theorem ld_loop {L : List Lp} (g : Good L) (xs : List Int) (Ld M : D) : ∀ (ks : List Nat) (p : Nat) (o : Bool) (t : List Int) (k h : Option D), p ≤ xs.length → t.length + ks.length < 16777000 →
    match decN (Wt L) ks.length (xs.drop p) with
    | some (t', r) => r.length ≤ xs.length ∧ ∃ o' k' h', forL (.nm 6) ldB (ks.map nt) (Q10 xs p Ld M (Wt L) o t k h) = .nx (Q10 xs (xs.length - r.length) Ld M (Wt L) o' (t ++ t') k' h')
    | none => ∃ r, forL (.nm 6) ldB (ks.map nt) (Q10 xs p Ld M (Wt L) o t k h) = .rt (.val kB) r
  | [], p, o, t, k, h, hp, _ => by
    refine ⟨by rw [List.length_drop]; omega, o, k, h, ?_⟩
    rw [List.length_drop, List.append_nil, show xs.length - (xs.length - p) = p from by omega]
    rfl
  | a :: ks, p, o, t, k, h, hp, hl => by
    rw [List.length_cons] at hl
    have s := ld_step g xs p Ld M o t (some (nt a)) h (by omega)
    show (match (match rdw (keysW (Wt L)) [] (xs.drop p) with | none => none | some (w, r1) => match decN (Wt L) ks.length r1 with | none => none | some (t, r2) => some (signOf (Wt L) w :: t, r2)) with | some (t', r) => _ | none => _)
    revert s
    cases rdw (keysW (Wt L)) [] (xs.drop p) with
    | none =>
      rintro ⟨r, h⟩
      exact ⟨r, forL_rt rfl h⟩
    | some q =>
      obtain ⟨w, r1⟩ := q
      rintro ⟨h1, h', h2⟩
      have hlen : (xs.drop p).length = w.length + r1.length := by rw [h1, List.length_append]
      rw [List.length_drop] at hlen
      have er : xs.drop (p + w.length) = r1 := by
        rw [← List.drop_drop, h1, List.drop_left]
      have ih := ld_loop g xs Ld M ks (p + w.length) false (t ++ [signOf (Wt L) w]) (some (nt a)) h' (by omega) (by rw [List.length_append, List.length_singleton]; omega)
      rw [er] at ih
      show (match (match decN (Wt L) ks.length r1 with | none => none | some (t, r2) => some (signOf (Wt L) w :: t, r2)) with | some (t', r) => _ | none => _)
      revert ih
      cases decN (Wt L) ks.length r1 with
      | none =>
        rintro ⟨r, h⟩
        exact ⟨r, forL_c rfl h2 h⟩
      | some z =>
        rintro ⟨h5, o', k', h6, h7⟩
        refine ⟨h5, o', k', h6, forL_c rfl h2 ?_⟩
        rw [h7, List.append_assoc]
        rfl
abbrev S10 (xs : List Int) (i : Int) (Ld M : D) : Rho := [some (IL false xs), some (.int i), some Ld, some M, none, none, none, none, none, none]
theorem ldecoded_let {L : List Lp} (hl : L.length < 10000) (h : ¬ letP L) (xs : List Int) (i : Int) (k : Int) : F__law_decoded [IL false xs, .int i, .node .lst false (L.map pl), .int k] = .ok kN := by
  have e := not_let (r := S10 xs i (.node .lst false (L.map pl)) (.int k)) (i := 2) hl rfl
  rw [decide_eq_false h] at e
  unfold F__law_decoded f__law_decoded
  exact runF_go (r := S10 xs i (.node .lst false (L.map pl)) (.int k)) (by walk_at "start") (seq_rt (ifs_y e rfl (ret_go rfl))) rfl
theorem ldecoded_far {L : List Lp} (g : Good L) (xs : List Int) (i : Int) (k : Int) (hi : i < 0 ∨ (xs.length : Nat) < i) : F__law_decoded [IL false xs, .int i, .node .lst false (L.map pl), .int k] = .ok kB := by
  have e0 := not_let (r := S10 xs i (.node .lst false (L.map pl)) (.int k)) (i := 2) g.few rfl
  rw [decide_eq_true (show letP L from ⟨g.le, g.fit⟩)] at e0
  have e1 := call_lwords g (r := S10 xs i (.node .lst false (L.map pl)) (.int k)) (i := 2) rfl
  have l1 : cB (b1 lenD) (cCons (cVar 0) cNil) ((S10 xs i (.node .lst false (L.map pl)) (.int k)).set 4 (some (.node .lst true ((Wt L).map (nlD false))))) = .ok (.val (.int (xs.map D.int).length)) ((S10 xs i (.node .lst false (L.map pl)) (.int k)).set 4 (some (.node .lst true ((Wt L).map (nlD false))))) := len_go (VL.cvar_loc rfl rfl) rfl rfl
  rw [List.length_map] at l1
  have c := VH.or_b (lt_ok (i := i) (j := 0) (fa := cVar 1) (fb := cC (.int 0)) rfl rfl) (gt_ok (i := i) (fa := cVar 1) rfl l1)
  unfold F__law_decoded f__law_decoded
  refine runF_go (x := .val kB) (r1 := (S10 xs i (.node .lst false (L.map pl)) (.int k)).set 4 (some (.node .lst true ((Wt L).map (nlD false))))) (r := S10 xs i (.node .lst false (L.map pl)) (.int k)) (by walk_at "start") (seq_go (ifs_n (r1 := S10 xs i (.node .lst false (L.map pl)) (.int k)) e0 rfl rfl) (seq_go (VH.asg_go (set_val e1) rfl) (seq_rt (ifs_y c ?_ (ret_go rfl))))) rfl
  rw [Bool.or_eq_true, decide_eq_true_eq, decide_eq_true_eq]
  exact hi
theorem ldecoded_ok {L : List Lp} (g : Good L) (xs : List Int) (p k : Nat) (hp : p ≤ xs.length) (hk : k < 1000000) : F__law_decoded [IL false xs, .int (p : Nat), .node .lst false (L.map pl), .int (k : Nat)] = .ok (match decN (Wt L) k (xs.drop p) with
    | some (t, r) => told (.node .tup false [IL false t, nt (xs.length - r.length)])
    | none => kB) := by
  have e0 := not_let (r := S10 xs (p : Nat) (.node .lst false (L.map pl)) (.int (k : Nat))) (i := 2) g.few rfl
  rw [decide_eq_true (show letP L from ⟨g.le, g.fit⟩)] at e0
  have e1 := call_lwords g (r := S10 xs (p : Nat) (.node .lst false (L.map pl)) (.int (k : Nat))) (i := 2) rfl
  have l1 : cB (b1 lenD) (cCons (cVar 0) cNil) ((S10 xs (p : Nat) (.node .lst false (L.map pl)) (.int (k : Nat))).set 4 (some (.node .lst true ((Wt L).map (nlD false))))) = .ok (.val (.int (xs.map D.int).length)) ((S10 xs (p : Nat) (.node .lst false (L.map pl)) (.int (k : Nat))).set 4 (some (.node .lst true ((Wt L).map (nlD false))))) := len_go (VL.cvar_loc rfl rfl) rfl rfl
  rw [List.length_map] at l1
  have c := VH.or_b (lt_ok (i := (p : Int)) (j := 0) (fa := cVar 1) (fb := cC (.int 0)) rfl rfl) (gt_ok (i := (p : Int)) (fa := cVar 1) rfl l1)
  have hc : (decide ((p : Int) < 0) || decide (((xs.length : Nat) : Int) < (p : Int))) = false := by
    rw [Bool.or_eq_false_iff, decide_eq_false_iff_not, decide_eq_false_iff_not]
    omega
  have d := ld_loop g xs (.node .lst false (L.map pl)) (.int (k : Nat)) (List.range k) p true [] none none hp (by rw [List.length_range, List.length_nil]; omega)
  rw [List.length_range] at d
  have e4 : iRng rngI1 (cCons (cVar 3) cNil) (Q10 xs p (.node .lst false (L.map pl)) (.int (k : Nat)) (Wt L) true [] none none) = .ok ((List.range k).map nt) (Q10 xs p (.node .lst false (L.map pl)) (.int (k : Nat)) (Wt L) true [] none none) := by
    rw [it_rngI (n := (k : Int)) (cvar_at rfl rfl) (by unfold within; exact decide_eq_true (by omega)), Int.toNat_natCast, rng_nt]
  unfold F__law_decoded f__law_decoded
  revert d
  cases decN (Wt L) k (xs.drop p) with
  | none =>
    rintro ⟨r, h⟩
    exact runF_go (x := .val kB) (r1 := r) (r := S10 xs (p : Nat) (.node .lst false (L.map pl)) (.int (k : Nat))) (by walk_at "start") (seq_go (ifs_n (r1 := S10 xs (p : Nat) (.node .lst false (L.map pl)) (.int (k : Nat))) e0 rfl rfl) (seq_go (VH.asg_go (set_val e1) rfl) (seq_go (ifs_n c hc rfl) (seq_go (r1 := Q10 xs p (.node .lst false (L.map pl)) (.int (k : Nat)) (Wt L) true [] none none) (VH.asg_go (set_val rfl) rfl) (seq_rt (for_go e4 h)))))) rfl
  | some z =>
    rintro ⟨_, o', k', h', h⟩
    refine runF_go (x := .val (told (.node .tup false [IL false z.1, nt (xs.length - z.2.length)]))) (r1 := (Q10 xs (xs.length - z.2.length) (.node .lst false (L.map pl)) (.int (k : Nat)) (Wt L) o' z.1 k' h').set 5 (some (IL false z.1))) (r := S10 xs (p : Nat) (.node .lst false (L.map pl)) (.int (k : Nat))) (by walk_at "start") (seq_go (ifs_n (r1 := S10 xs (p : Nat) (.node .lst false (L.map pl)) (.int (k : Nat))) e0 rfl rfl) (seq_go (VH.asg_go (set_val e1) rfl) (seq_go (ifs_n c hc rfl) (seq_go (r1 := Q10 xs p (.node .lst false (L.map pl)) (.int (k : Nat)) (Wt L) true [] none none) (VH.asg_go (set_val rfl) rfl) (seq_go (for_go e4 h) (ret_go ?_)))))) rfl
    exact lst_ok (cons_ok (set_val rfl) (cons_ok (set_val (tup_ok (ds := [IL false z.1, nt (xs.length - z.2.length)]) (cons_ok (set_loc (d := IL true z.1) rfl rfl inferInstance rfl) (cons_ok (set_val (cvar_at rfl rfl)) (nil_ok _))) rfl (Nat.le_of_ble_eq_true rfl))) (nil_ok _))) rfl (Nat.le_of_ble_eq_true rfl)
end K10.Co

namespace K10.Co
open PySem PySem.Spec PyProof.Rows L2 VL VH
open K10 K10.Bt
abbrev K9 (w : Int) (a b c m : D) (ca f e s : Option D) : Rho := [some (.int w), some a, some b, some c, some m, ca, f, e, s]
noncomputable abbrev kTry : Sv := cTry (tbOf tab 0) (some 7) (cIfS (cBin gEq (cVar 0) (cC (.int 0))) (cAsg (.nm 6) (cCall 2 F_coded (cCons (cVar 1) (cCons (cVar 3) cNil)))) (cAsg (.nm 6) (cCall 4 F_decoded (cCons (cVar 1) (cCons (cVar 2) (cCons (cVar 3) (cCons (cVar 4) cNil))))))) (cAsg (.nm 5) (cVar 7))
theorem kind_told {w : Int} {a b c m d : D} (fa : frz a = a) (fb : frz b = b) (fc : frz c = c) (fm : frz m = m) (h : kTry (K9 w a b c m (some .non) (some .non) none none) = .nx (K9 w a b c m (some .non) (some d) none none)) : F__law_kind [.int w, a, b, c, m] = .ok (told d) := by
  haveI : Fz a a := ⟨fa⟩
  haveI : Fz b b := ⟨fb⟩
  haveI : Fz c c := ⟨fc⟩
  haveI : Fz m m := ⟨fm⟩
  unfold F__law_kind f__law_kind
  refine runF_go (x := .val (told d)) (r1 := K9 w a b c m (some .non) (some .any) none none) (r := K9 w a b c m none none none none) (by walk_at "start") (seq_go (r1 := K9 w a b c m (some .non) none none none) (VH.asg_go (set_val rfl) rfl) (seq_go (r1 := K9 w a b c m (some .non) (some .non) none none) (VH.asg_go (set_val rfl) rfl) (seq_go h (seq_rt (ifs_y (r1 := K9 w a b c m (some .non) (some d) none none) (b := true) rfl rfl (ret_go ?_)))))) rfl
  exact lst_ok (ds := [.str "told", d]) (cons_ok (set_val rfl) (cons_ok (take_at rfl) (nil_ok _))) rfl (Nat.le_of_ble_eq_true rfl)
theorem kind_exc {w : Int} {a b c m : D} {k : Nat} (hk : k = 2 ∨ k = 4) (fa : frz a = a) (fb : frz b = b) (fc : frz c = c) (fm : frz m = m) (h : kTry (K9 w a b c m (some .non) (some .non) none none) = .nx (K9 w a b c m (some (.exc k)) (some .non) none none)) : F__law_kind [.int w, a, b, c, m] = .ok (if k = 2 then kN else kB) := by
  haveI : Fz a a := ⟨fa⟩
  haveI : Fz b b := ⟨fb⟩
  haveI : Fz c c := ⟨fc⟩
  haveI : Fz m m := ⟨fm⟩
  unfold F__law_kind f__law_kind
  rcases hk with e | e <;> subst e
  · refine runF_go (x := .val kN) (r1 := K9 w a b c m (some (.exc 2)) (some .non) none (some (.node .lst true [.bl true, .bl false, .bl true]))) (r := K9 w a b c m none none none none) (by walk_at "start") (seq_go (r1 := K9 w a b c m (some .non) none none none) (VH.asg_go (set_val rfl) rfl) (seq_go (r1 := K9 w a b c m (some .non) (some .non) none none) (VH.asg_go (set_val rfl) rfl) (seq_go h (seq_go (ifs_n (r1 := K9 w a b c m (some (.exc 2)) (some .non) none none) (b := false) rfl rfl rfl) (seq_go (r1 := K9 w a b c m (some (.exc 2)) (some .non) none (some (.node .lst true [.bl true, .bl false, .bl true]))) (VH.asg_go (set_val rfl) rfl) (ret_go ?_)))))) rfl
    exact addL_go (r1 := K9 w a b c m (some (.exc 2)) (some .non) none (some (.node .lst true [.bl true, .bl false, .bl true]))) (x := .loc 8) (y := .val (.node .lst true [.bl false])) (VL.cvar_loc rfl rfl) rfl rfl rfl (inferInstance : Fzs [D.bl true, D.bl false, D.bl true] [D.bl true, D.bl false, D.bl true]) (inferInstance : Fzs [D.bl false] [D.bl false]) (by decide) rfl rfl
  · refine runF_go (x := .val kB) (r1 := K9 w a b c m (some (.exc 4)) (some .non) none (some (.node .lst true [.bl false, .bl true, .bl true]))) (r := K9 w a b c m none none none none) (by walk_at "start") (seq_go (r1 := K9 w a b c m (some .non) none none none) (VH.asg_go (set_val rfl) rfl) (seq_go (r1 := K9 w a b c m (some .non) (some .non) none none) (VH.asg_go (set_val rfl) rfl) (seq_go h (seq_go (ifs_n (r1 := K9 w a b c m (some (.exc 4)) (some .non) none none) (b := false) rfl rfl rfl) (seq_go (r1 := K9 w a b c m (some (.exc 4)) (some .non) none (some (.node .lst true [.bl false, .bl true, .bl true]))) (VH.asg_go (set_val rfl) rfl) (ret_go ?_)))))) rfl
    exact addL_go (r1 := K9 w a b c m (some (.exc 4)) (some .non) none (some (.node .lst true [.bl false, .bl true, .bl true]))) (x := .loc 8) (y := .val (.node .lst true [.bl false])) (VL.cvar_loc rfl rfl) rfl rfl rfl (inferInstance : Fzs [D.bl false, D.bl true, D.bl true] [D.bl false, D.bl true, D.bl true]) (inferInstance : Fzs [D.bl false] [D.bl false]) (by decide) rfl rfl
theorem asg_exc {t : Tg} {fa : Ev} {r r1 : Rho} {c : Nat} (h : fa r = .exc c r1) : cAsg t fa r = .exc c r1 := by
  show (cSet fa r).st _ = _
  rw [q_set, h]
  rfl
theorem tb2 : tbOf tab 0 2 = some true := by decide
section
variable {xs : List Int} {L : List Lp}
theorem kc_ok {i k : Int} {d : D} (h : F_coded [IL false xs, .node .lst false (L.map pl)] = .ok d) : F__law_kind [.int 0, IL false xs, .int i, .node .lst false (L.map pl), .int k] = .ok (told d) := by
  refine kind_told (frz_ints xs false) rfl (by show D.node .lst false (frzs _) = _; rw [frzs_pl]) rfl (try_no ?_)
  have e : cCall 2 F_coded (cCons (cVar 1) (cCons (cVar 3) cNil)) (K9 0 (IL false xs) (.int i) (.node .lst false (L.map pl)) (.int k) (some .non) (some .non) none none) = .ok (.val d) (K9 0 (IL false xs) (.int i) (.node .lst false (L.map pl)) (.int k) (some .non) (some .non) none none) := by
    refine call_any (by walk_at "ev") rfl inferInstance rfl h ?_
    walk_at "se"
  walk_at "yes"
  walk_at "go"
theorem kc_no {i k : Int} (h : F_coded [IL false xs, .node .lst false (L.map pl)] = .exc 2) : F__law_kind [.int 0, IL false xs, .int i, .node .lst false (L.map pl), .int k] = .ok kN := by
  refine kind_exc (k := 2) (.inl rfl) (frz_ints xs false) rfl (by show D.node .lst false (frzs _) = _; rw [frzs_pl]) rfl ?_
  have e : cCall 2 F_coded (cCons (cVar 1) (cCons (cVar 3) cNil)) (K9 0 (IL false xs) (.int i) (.node .lst false (L.map pl)) (.int k) (some .non) (some .non) none none) = .exc 2 (K9 0 (IL false xs) (.int i) (.node .lst false (L.map pl)) (.int k) (some .non) (some .non) none none) :=
    call_exc (by walk_at "ev") rfl inferInstance rfl h
  exact try_go (r3 := K9 0 (IL false xs) (.int i) (.node .lst false (L.map pl)) (.int k) (some (.exc 2)) (some .non) (some (.exc 2)) none) (ifs_y (eq_ok rfl rfl) rfl (asg_exc e)) tb2 rfl (VH.asg_go (set_val (cvar_at rfl rfl)) rfl) rfl
theorem kd_ok {i k : Int} {d : D} (h : F_decoded [IL false xs, .int i, .node .lst false (L.map pl), .int k] = .ok d) : F__law_kind [.int 1, IL false xs, .int i, .node .lst false (L.map pl), .int k] = .ok (told d) := by
  refine kind_told (frz_ints xs false) rfl (by show D.node .lst false (frzs _) = _; rw [frzs_pl]) rfl (try_no ?_)
  have e : cCall 4 F_decoded (cCons (cVar 1) (cCons (cVar 2) (cCons (cVar 3) (cCons (cVar 4) cNil)))) (K9 1 (IL false xs) (.int i) (.node .lst false (L.map pl)) (.int k) (some .non) (some .non) none none) = .ok (.val d) (K9 1 (IL false xs) (.int i) (.node .lst false (L.map pl)) (.int k) (some .non) (some .non) none none) := by
    refine call_any (by walk_at "ev") rfl inferInstance rfl h ?_
    walk_at "se"
  walk_at "no"
  walk_at "go"
theorem kd_no {i k : Int} {c : Nat} (hc : c = 2 ∨ c = 4) (h : F_decoded [IL false xs, .int i, .node .lst false (L.map pl), .int k] = .exc c) : F__law_kind [.int 1, IL false xs, .int i, .node .lst false (L.map pl), .int k] = .ok (if c = 2 then kN else kB) := by
  refine kind_exc hc (frz_ints xs false) rfl (by show D.node .lst false (frzs _) = _; rw [frzs_pl]) rfl ?_
  have e : cCall 4 F_decoded (cCons (cVar 1) (cCons (cVar 2) (cCons (cVar 3) (cCons (cVar 4) cNil)))) (K9 1 (IL false xs) (.int i) (.node .lst false (L.map pl)) (.int k) (some .non) (some .non) none none) = .exc c (K9 1 (IL false xs) (.int i) (.node .lst false (L.map pl)) (.int k) (some .non) (some .non) none none) :=
    call_exc (by walk_at "ev") rfl inferInstance rfl h
  have tc : tbOf tab 0 c = some true := by rcases hc with e | e <;> subst e <;> decide
  exact try_go (r3 := K9 1 (IL false xs) (.int i) (.node .lst false (L.map pl)) (.int k) (some (.exc c)) (some .non) (some (.exc c)) none) (ifs_n (r1 := K9 1 (IL false xs) (.int i) (.node .lst false (L.map pl)) (.int k) (some .non) (some .non) none none) (eq_ok rfl rfl) rfl (asg_exc e)) tc rfl (VH.asg_go (set_val (cvar_at rfl rfl)) rfl) rfl
end
theorem coded_same {L : List Lp} {z : Int} (d : Dr L z) (hl : L.length < 10000) (t : List Int) (ht : t.length ≤ 60000) (i k : Int) : (∃ bs : List Int, F__law_kind [.int 0, IL false t, .int i, .node .lst false (L.map pl), .int k] = .ok (told (IL true bs)) ∧ F__law_coded [IL false t, .node .lst false (L.map pl)] = .ok (told (IL false bs)) ∧ bs.length < 16777216) ∨ (F__law_kind [.int 0, IL false t, .int i, .node .lst false (L.map pl), .int k] = .ok kN ∧ F__law_coded [IL false t, .node .lst false (L.map pl)] = .ok kN) := by
  by_cases h : letP L
  · have g := mk_good d h hl
    by_cases hs : ∀ s ∈ t, s ∈ L.map (·.1)
    · refine .inl ⟨cat (Wt L) t, kc_ok (coded_ok g t ht hs), lcoded_ok g t ht hs, ?_⟩
      have : ∀ t : List Int, (∀ s ∈ t, s ∈ L.map (·.1)) → (cat (Wt L) t).length ≤ 256 * t.length := fun t => by
        induction t with
        | nil => intro _; exact Nat.le_refl _
        | cons s t ih =>
          intro h
          have h2 := ih fun x hx => h x (List.mem_cons_of_mem _ hx)
          have h3 : (look (Wt L) s).length ≤ 256 := Wt_word g.le _ (look_mem (Wt_mem.mpr (h s List.mem_cons_self)))
          rw [cat_cons, List.length_append, List.length_cons]
          omega
      have := this t hs
      omega
    · have hs : ∃ s ∈ t, s ∉ L.map (·.1) := by
        rcases Classical.em (∃ s ∈ t, s ∉ L.map (·.1)) with q | q
        · exact q
        · exact (hs fun s hm => Classical.byContradiction fun z => q ⟨s, hm, z⟩).elim
      exact .inr ⟨kc_no (coded_no g t ht hs), lcoded_no g t ht hs⟩
  · have hn : F_need_words [.node .lst false (L.map pl)] = .exc 2 := by
      by_cases h2 : ∀ p ∈ L, p.2 ≤ 256
      · exact need_full L (by omega) h2 (Nat.lt_of_not_le fun q => h ⟨h2, q⟩)
      · refine need_long L (by omega) ?_
        rcases Classical.em (∃ p ∈ L, 256 < p.2) with q | q
        · exact q
        · exact (h2 fun p hp => Nat.le_of_not_lt fun z => q ⟨p, hp, z⟩).elim
    exact .inr ⟨kc_no (coded_exc L _ (frz_ints t false) (words_exc L hl hn)), lcoded_let hl h t⟩
theorem read_same {L : List Lp} {z : Int} (d : Dr L z) (hl : L.length < 10000) (xs : List Int) (hx : xs.length < 1000000) (i : Int) (k : Nat) (hk : k < 1000000) : (∃ (t : List Int) (q : Nat), F__law_kind [.int 1, IL false xs, .int i, .node .lst false (L.map pl), .int (k : Nat)] = .ok (told (.node .tup false [IL false t, nt q])) ∧ F__law_decoded [IL false xs, .int i, .node .lst false (L.map pl), .int (k : Nat)] = .ok (told (.node .tup false [IL false t, nt q]))) ∨ (∃ e : D, (e = kN ∨ e = kB) ∧ F__law_kind [.int 1, IL false xs, .int i, .node .lst false (L.map pl), .int (k : Nat)] = .ok e ∧ F__law_decoded [IL false xs, .int i, .node .lst false (L.map pl), .int (k : Nat)] = .ok e) := by
  by_cases h : letP L
  · have g := mk_good d h hl
    by_cases hi : i < 0 ∨ (xs.length : Nat) < i
    · exact .inr ⟨kB, .inr rfl, kd_no (c := 4) (.inr rfl) (decoded_far g xs i _ rfl hi), ldecoded_far g xs i _ hi⟩
    · obtain ⟨p, hp⟩ : ∃ p : Nat, i = (p : Int) := ⟨i.toNat, by omega⟩
      subst hp
      have e1 := decoded_ok g xs hx p k (by omega) hk
      have e2 := ldecoded_ok g xs p k (by omega) hk
      revert e1 e2
      cases decN (Wt L) k (xs.drop p) with
      | some q => exact fun e1 e2 => .inl ⟨q.1, xs.length - q.2.length, kd_ok e1, e2⟩
      | none => exact fun e1 e2 => .inr ⟨kB, .inr rfl, kd_no (c := 4) (.inr rfl) e1, e2⟩
  · have hn : F_need_words [.node .lst false (L.map pl)] = .exc 2 := by
      by_cases h2 : ∀ p ∈ L, p.2 ≤ 256
      · exact need_full L (by omega) h2 (Nat.lt_of_not_le fun q => h ⟨h2, q⟩)
      · refine need_long L (by omega) ?_
        rcases Classical.em (∃ p ∈ L, 256 < p.2) with q | q
        · exact q
        · exact (h2 fun p hp => Nat.le_of_not_lt fun z => q ⟨p, hp, z⟩).elim
    exact .inr ⟨kN, .inl rfl, kd_no (c := 2) (.inl rfl) (decoded_exc L _ _ _ (frz_ints xs false) rfl rfl (words_exc L hl hn)), ldecoded_let hl h xs i _⟩
end K10.Co

namespace K10.Co
open PySem PySem.Spec PyProof.Rows L2 VL VH
open K10 K10.Bt
theorem so_str : PyData.canLay0 (.str (Str.ofString "told")) = true := by decide +kernel
theorem fp_str (x : Str) (k : Nat) (h : PyData.canLay0 (.str x) = true) : FP k (.str x) := ⟨h, Nat.zero_le _⟩
theorem ne_str : neD (.str "told") (.str "told") = some (.bl false) := neD_same (fp_str _ 0 so_str) (by decide) rfl
theorem eq_str : eqD (.str "told") (.str "told") = some (.bl true) := eqD_same (fp_str _ 0 so_str) (by decide) rfl
theorem ne_bt (b : Bool) : neD (.bl b) (.str "told") = some (.bl true) := by
  unfold neD
  rw [eqOk_fp (fp_bl b 0) (by decide), eqOk_fp (fp_str _ 0 so_str) (by decide)]
  cases b <;> rfl
theorem eq_bt (b : Bool) : eqD (.bl b) (.str "told") = some (.bl false) := by
  unfold eqD
  rw [eqOk_fp (fp_bl b 0) (by decide), eqOk_fp (fp_str _ 0 so_str) (by decide)]
  cases b <;> rfl
instance : Fq 0 (.str "told") := ⟨fp_str _ 0 so_str⟩
theorem fp_pls (L : List Lp) : ∀ d ∈ L.map pl, FP 1 d := fun d hd => by
  obtain ⟨p, _, rfl⟩ := List.mem_map.mp hd
  refine fp_tup (k := 0) fun y hy => ?_
  simp only [List.mem_cons, List.not_mem_nil, or_false] at hy
  rcases hy with rfl | rfl <;> exact fp_int _ 0
theorem fp_hand (o o1 o2 : Bool) (t : List Int) (L : List Lp) : FP 3 (.node .lst o [IL o1 t, .node .lst o2 (L.map pl)]) := fp_lst (k := 2) fun y hy => by
  simp only [List.mem_cons, List.not_mem_nil, or_false] at hy
  rcases hy with rfl | rfl
  · exact fp_lst (k := 1) (fqs_enc (fun _ => fp_int _ 1) _)
  · exact fp_lst (k := 1) (fp_pls L)
theorem fp_k (b c d e o : Bool) : FP 1 (.node .lst o [.bl b, .bl c, .bl d, .bl e]) := fp_lst (k := 0) fun y hy => by
  simp only [List.mem_cons, List.not_mem_nil, or_false] at hy
  rcases hy with rfl | rfl | rfl | rfl <;> exact fp_bl _ 0
theorem fp_told (o o1 : Bool) (t : List Int) : FP 2 (.node .lst o [.str "told", IL o1 t]) := fp_lst (k := 1) fun y hy => by
  simp only [List.mem_cons, List.not_mem_nil, or_false] at hy
  rcases hy with rfl | rfl
  · exact fp_str _ 1 so_str
  · exact fp_lst (k := 0) (fqs_enc (fun _ => fp_int _ 0) _)
theorem fp_toldT (o o1 : Bool) (t : List Int) (q : Nat) : FP 3 (.node .lst o [.str "told", .node .tup false [IL o1 t, nt q]]) := fp_lst (k := 2) fun y hy => by
  simp only [List.mem_cons, List.not_mem_nil, or_false] at hy
  rcases hy with rfl | rfl
  · exact fp_str _ 2 so_str
  · refine fp_tup (k := 1) fun y hy => ?_
    simp only [List.mem_cons, List.not_mem_nil, or_false] at hy
    rcases hy with rfl | rfl
    · exact fp_lst (k := 0) (fqs_enc (fun _ => fp_int _ 0) _)
    · exact fp_int _ 1
abbrev B2 (d : D) (u : Option D) : Rho := [some d, u]
theorem bits_right_no (b c d e : Bool) : F__law_bits_right [.node .lst false [.bl b, .bl c, .bl d, .bl e]] = .ok (.bl true) := by
  have h := ne_bt b
  unfold F__law_bits_right f__law_bits_right
  walk_at "def"
  walk_at "yes"
  walk_at "go"
  rfl
theorem bits_right_ok (bs : List Int) (hl : bs.length < 16777216) : F__law_bits_right [.node .lst false [.str "told", IL false bs]] = .ok (.bl true) := by
  have h := ne_str
  have c : cLc [1] (.nm 1) (iLst (cBin gIx (cVar 0) (cC (.int 1)))) (some (cOr (cNot (cB (gIsi (etab tab)) (cCons (cVar 1) (cCons (cC (.ty "int")) cNil)))) (cB (gIsi (etab tab)) (cCons (cVar 1) (cCons (cC (.ty "bool")) cNil))))) (cVar 1) (B2 (.node .lst false [.str "told", IL false bs]) none) = .ok (.val (.node .lst true ((bs.filter fun _ => false).map .int))) (B2 (.node .lst false [.str "told", IL false bs]) none) := by
    refine lc_fl (enc := D.int) (g := D.int) (p := fun _ => false) bs (r1 := B2 (.node .lst false [.str "told", IL false bs]) none) (r0 := B2 (.node .lst false [.str "told", IL false bs]) none) ?_ rfl hl ?_
    · refine it_lstG (o := false) (k := .lst) (set_val ?_) rfl
      walk_at "ev"
    · intro n _
      exact ⟨B2 (.node .lst false [.str "told", IL false bs]) (some (.int n)), rfl, B2 (.node .lst false [.str "told", IL false bs]) (some (.int n)), rfl, rfl, fun z => (by cases z)⟩
  have e : (bs.filter fun _ => false) = [] := by rw [List.filter_eq_nil_iff]; intro _ _ h; cases h
  rw [e] at c
  have c2 := eqD_go (fb := cLst cNil) c (y := .val (.node .lst true [])) (r2 := B2 (.node .lst false [.str "told", IL false bs]) none) rfl rfl rfl (VL.eq_lints [] [])
  unfold F__law_bits_right f__law_bits_right
  walk_at "def"
  walk_at "no"
  exact ret_go c2
  rfl
instance (L : List Lp) : Nls (L.map pl) := ⟨noLs_enc (fun _ => rfl) _⟩
theorem coded_right_ok {L : List Lp} {z : Int} (d : Dr L z) (hl : L.length < 10000) (t : List Int) (ht : t.length ≤ 60000) : F__law_coded_right [IL false t, .node .lst false (L.map pl)] = .ok (.bl true) := by
  have q := eqD_same (fp_hand true false false t L) (by decide) (e := .node .lst true [IL false t, .node .lst false (L.map pl)]) rfl
  unfold F__law_coded_right f__law_coded_right
  rcases coded_same d hl t ht 0 0 with ⟨bs, h1, h2, h3⟩ | ⟨h1, h2⟩
  · have n1 : neD (told (IL true bs)) (told (IL false bs)) = some (.bl false) := neD_same (fp_told true true bs) (by decide) rfl
    have b1 := bits_right_ok bs h3
    have e1 := eq_str
    walk_at "def"
    walk_at "no"
    walk_at "go"
    walk_at "yes"
    refine seq_go (appP_ok (fk := cC (.int 1)) (fa := cC (.int 1)) (i := 3) (k := .lst) (o := true) (m := 1) (kk := 1) (d := .int 1) (acc := bs.map .int) (ds := [.str "told", IL true bs]) (r1 := [some (IL false t), some (.node .lst false (L.map pl)), some (.node .lst true [IL false t, .node .lst false (L.map pl)]), some (told (IL true bs))]) (r2 := [some (IL false t), some (.node .lst false (L.map pl)), some (.node .lst true [IL false t, .node .lst false (L.map pl)]), some .any]) rfl rfl rfl rfl rfl rfl rfl (by rw [List.length_map]; exact h3)) ?_
    walk_at "go"
    rfl
  · have n1 : neD kN kN = some (.bl false) := neD_same (fp_k _ _ _ _ true) (by decide) rfl
    have b1 := bits_right_no true false true false
    have e1 := eq_bt true
    walk_at "def"
    walk_at "no"
    walk_at "no"
    walk_at "go"
    rfl
theorem read_right_ok {L : List Lp} {z : Int} (d : Dr L z) (hl : L.length < 10000) (xs : List Int) (hx : xs.length < 1000000) (i : Int) (k : Nat) (hk : k < 1000000) : F__law_read_right [IL false xs, .int i, .node .lst false (L.map pl), .int (k : Nat)] = .ok (.bl true) := by
  have q := neD_same (fp_hand true false false xs L) (by decide) (e := .node .lst true [IL false xs, .node .lst false (L.map pl)]) rfl
  unfold F__law_read_right f__law_read_right
  rcases read_same d hl xs hx i k hk with ⟨t, p, h1, h2⟩ | ⟨e, he, h1, h2⟩
  · have n1 : neD (told (.node .tup false [IL false t, nt p])) (told (.node .tup false [IL false t, nt p])) = some (.bl false) := neD_same (fp_toldT true false t p) (by decide) rfl
    have e1 := ne_str
    walk_at "def"
    walk_at "no"
    walk_at "go"
    rfl
  · rcases he with he | he <;> subst he
    · have n1 : neD kN kN = some (.bl false) := neD_same (fp_k _ _ _ _ true) (by decide) rfl
      have e1 := ne_bt true
      walk_at "def"
      walk_at "no"
      walk_at "go"
      rfl
    · have n1 : neD kB kB = some (.bl false) := neD_same (fp_k _ _ _ _ true) (by decide) rfl
      have e1 := ne_bt false
      walk_at "def"
      walk_at "no"
      walk_at "go"
      rfl
end K10.Co

namespace K10.Co
open PySem PySem.Spec PyProof.Rows L2 VL VH
open K10 K10.Bt
abbrev LD (L : List Lp) : D := .node .lst false (L.map pl)
abbrev A9 (a b dr : List Int) (L W : List Lp) (s : List Int) (x m t : Option D) : Rho := [some (IL false a), some (IL false b), some (IL false dr), some (LD L), some (LD W), some (IL false s), x, m, t]
noncomputable abbrev a1B : Sv := (cSeq (cIfS (cNot (cCall 4 F__law_read_right (cCons (cVar 6) (cCons (cB (b1 lenD) (cCons (cVar 0) cNil)) (cCons (cVar 3) (cCons (cVar 7) cNil)))))) (cRet (cC (.bl false))) cSkip)
  (cSeq (cIfS (cNot (cCall 4 F__law_read_right (cCons (cBin gAdd (cVar 0) (cVar 1)) (cCons (cB (b1 lenD) (cCons (cVar 0) cNil)) (cCons (cVar 3) (cCons (cVar 7) cNil)))))) (cRet (cC (.bl false))) cSkip)
  (cSeq (cIfS (cNot (cCall 4 F__law_read_right (cCons (cVar 2) (cCons (cB (b1 lenD) (cCons (cVar 0) cNil)) (cCons (cVar 3) (cCons (cBin gDiv (cVar 7) (cC (.int 3))) cNil)))))) (cRet (cC (.bl false))) cSkip)
  (cIfS (cNot (cCall 4 F__law_read_right (cCons (cVar 6) (cCons (cC (.int 0)) (cCons (cVar 4) (cCons (cVar 7) cNil)))))) (cRet (cC (.bl false))) cSkip))))
section
variable {a b dr s X : List Int} {L W : List Lp} {z z2 : Int}
theorem a1_step (dL : Dr L z) (dW : Dr W z2) (hL : L.length < 1000) (hW : W.length < 1000) (ha : a.length < 100000) (hb : b.length < 100000) (hd : dr.length < 100000) (hX : X.length < 1000000) (k : Nat) (hk : k < 1000000) (t : Option D) : a1B (A9 a b dr L W s (some (IL true X)) (some (nt k)) t) = .nx (A9 a b dr L W s (some (IL true X)) (some (nt k)) t) := by
  have r1 := read_right_ok dL (by omega) X hX ((a.length : Nat) : Int) k hk
  have r2 := read_right_ok dL (by omega) (a ++ b) (by rw [List.length_append]; omega) ((a.length : Nat) : Int) k hk
  rw [show IL false (a ++ b) = .node .lst false (a.map .int ++ b.map .int) from by show D.node .lst false _ = _; rw [List.map_append]] at r2
  have r3 := read_right_ok dL (by omega) dr (by omega) ((a.length : Nat) : Int) (k / 3) (by omega)
  rw [show ((k / 3 : Nat) : Int) = (k : Int) / 3 from by omega] at r3
  have r4 := read_right_ok dW (by omega) X hX 0 k hk
  have hz : (a.map D.int).length + (b.map D.int).length ≤ 16777216 := by rw [List.length_map, List.length_map]; omega
  walk_at "no"
  walk_at "no"
  walk_at "no"
  walk_at "no"
  rfl
theorem a1_loop (dL : Dr L z) (dW : Dr W z2) (hL : L.length < 1000) (hW : W.length < 1000) (ha : a.length < 100000) (hb : b.length < 100000) (hd : dr.length < 100000) (hX : X.length < 1000000) : ∀ (ks : List Nat) (m t : Option D), (∀ k ∈ ks, k < 1000000) → ∃ m', forL (.nm 7) a1B (ks.map nt) (A9 a b dr L W s (some (IL true X)) m t) = .nx (A9 a b dr L W s (some (IL true X)) m' t)
  | [], m, t, _ => ⟨m, rfl⟩
  | k :: ks, m, t, h => by
    obtain ⟨m', ih⟩ := a1_loop dL dW hL hW ha hb hd hX ks (some (nt k)) t fun x hx => h x (List.mem_cons_of_mem _ hx)
    exact ⟨m', forL_c (r1 := A9 a b dr L W s (some (IL true X)) (some (nt k)) t) rfl (a1_step dL dW hL hW ha hb hd hX k (h k List.mem_cons_self) t) ih⟩
noncomputable abbrev a2B : Sv := (cIfS (cOr (cNot (cCall 4 F__law_read_right (cCons (cVar 6) (cCons (cVar 8) (cCons (cVar 3) (cCons (cVar 7) cNil)))))) (cNot (cCall 4 F__law_read_right (cCons (cVar 6) (cCons (cVar 8) (cCons (cLst cNil) (cCons (cVar 7) cNil))))))) (cRet (cC (.bl false))) cSkip)
theorem dr_nil : Dr [] (-1) := ⟨fun p hp => (by cases hp), fun p hp => (by cases hp), List.Pairwise.nil⟩
theorem a2_step (dL : Dr L z) (hL : L.length < 1000) (hX : X.length < 1000000) (i : Int) (k : Nat) (hk : k < 1000000) : a2B (A9 a b dr L W s (some (IL true X)) (some (nt k)) (some (.int i))) = .nx (A9 a b dr L W s (some (IL true X)) (some (nt k)) (some (.int i))) := by
  have r1 := read_right_ok dL (by omega) X hX i k hk
  have r2 : F__law_read_right [IL false X, .int i, .node .lst false [], .int (k : Nat)] = .ok (.bl true) := read_right_ok dr_nil (by decide) X hX i k hk
  walk_at "no"
  rfl
noncomputable abbrev a3B : Sv := (cFor (.nm 7) (iLst (cLst (cCons (cSet (cC (.int 0))) (cCons (cSet (cC (.int 1))) (cCons (cSet (cC (.int 3))) cNil))))) a2B)
theorem a3_loop (dL : Dr L z) (hL : L.length < 1000) (hX : X.length < 1000000) : ∀ (is : List Int) (m t : Option D), ∃ m' t', forL (.nm 8) a3B (is.map .int) (A9 a b dr L W s (some (IL true X)) m t) = .nx (A9 a b dr L W s (some (IL true X)) m' t')
  | [], m, t => ⟨m, t, rfl⟩
  | i :: is, m, t => by
    obtain ⟨m', t', ih⟩ := a3_loop dL hL hX is (some (nt 3)) (some (.int i))
    refine ⟨m', t', forL_c (r1 := A9 a b dr L W s (some (IL true X)) m (some (.int i))) rfl ?_ ih⟩
    refine for_go (ds := [nt 0, nt 1, nt 3]) (r1 := A9 a b dr L W s (some (IL true X)) m (some (.int i))) rfl ?_
    exact forL_c (r1 := A9 a b dr L W s (some (IL true X)) (some (nt 0)) (some (.int i))) rfl (a2_step dL hL hX i 0 (by decide)) (forL_c (r1 := A9 a b dr L W s (some (IL true X)) (some (nt 1)) (some (.int i))) rfl (a2_step dL hL hX i 1 (by decide)) (forL_c (r1 := A9 a b dr L W s (some (IL true X)) (some (nt 3)) (some (.int i))) rfl (a2_step dL hL hX i 3 (by decide)) rfl))
theorem all_read_ok (dL : Dr L z) (dW : Dr W z2) (hL : L.length < 1000) (hW : W.length < 1000) (ha : a.length < 100000) (hb : b.length < 100000) (hd : dr.length < 100000) (hs : s.length < 100000) : F__law_all_read [IL false a, IL false b, IL false dr, LD L, LD W, IL false s] = .ok (.bl true) := by
  have hX : (a ++ b ++ (dr.drop 9).take 11).length < 1000000 := by
    rw [List.length_append, List.length_append, List.length_take, List.length_drop]; omega
  have e1 : cBin gAdd (cBin gAdd (cVar 0) (cVar 1)) (cSl (cVar 2) (some (cC (.int 9))) (some (cC (.int 20)))) (A9 a b dr L W s none none none) = .ok (.val (IL true (a ++ b ++ (dr.drop 9).take 11))) (A9 a b dr L W s none none none) := by
    have hz : (a.map D.int).length + (b.map D.int).length ≤ 16777216 := by rw [List.length_map, List.length_map]; omega
    have hz2 : (a.map D.int ++ b.map D.int).length + (((dr.map D.int).drop (9 : Int).toNat).take ((20 : Int).toNat - (9 : Int).toNat)).length ≤ 16777216 := by
      rw [List.length_append, List.length_map, List.length_map, List.length_take, List.length_drop, List.length_map]
      show _ + min 11 (dr.length - 9) ≤ _
      omega
    have h : cBin gAdd (cBin gAdd (cVar 0) (cVar 1)) (cSl (cVar 2) (some (cC (.int 9))) (some (cC (.int 20)))) (A9 a b dr L W s none none none) = .ok (.val (.node .lst true (a.map D.int ++ b.map D.int ++ ((dr.map D.int).drop (9 : Int).toNat).take ((20 : Int).toNat - (9 : Int).toNat)))) (A9 a b dr L W s none none none) := by
      walk_at "ev"
    rw [h]
    show EO.ok (R.val (.node .lst true _)) _ = EO.ok (R.val (.node .lst true _)) _
    rw [List.map_append, List.map_append, List.map_take, List.map_drop]
    rfl
  revert e1 hX
  generalize a ++ b ++ (dr.drop 9).take 11 = X
  intro hX e1
  obtain ⟨m1, l1⟩ := a1_loop (s := s) dL dW hL hW ha hb hd hX [0, 1, s.length / 2, s.length, s.length + 1, s.length + 2] none none (by
    intro k hk
    simp only [List.mem_cons, List.not_mem_nil, or_false] at hk
    omega)
  obtain ⟨m2, t2, l2⟩ := a3_loop (a := a) (b := b) (dr := dr) (s := s) (W := W) dL hL hX [-1, -1 - (X.length : Int), (X.length : Int), (X.length : Int) + 1, (X.length : Int) + 2 + (dr.length : Int)] m1 none
  have i1 : iLst (cLst (cCons (cSet (cC (.int 0))) (cCons (cSet (cC (.int 1))) (cCons (cSet (cBin gDiv (cB (b1 lenD) (cCons (cVar 5) cNil)) (cC (.int 2)))) (cCons (cSet (cB (b1 lenD) (cCons (cVar 5) cNil))) (cCons (cSet (cBin gAdd (cB (b1 lenD) (cCons (cVar 5) cNil)) (cC (.int 1)))) (cCons (cSet (cBin gAdd (cB (b1 lenD) (cCons (cVar 5) cNil)) (cC (.int 2)))) cNil))))))) (A9 a b dr L W s (some (IL true X)) none none) = .ok ([0, 1, s.length / 2, s.length, s.length + 1, s.length + 2].map nt) (A9 a b dr L W s (some (IL true X)) none none) := by
    have h : iLst (cLst (cCons (cSet (cC (.int 0))) (cCons (cSet (cC (.int 1))) (cCons (cSet (cBin gDiv (cB (b1 lenD) (cCons (cVar 5) cNil)) (cC (.int 2)))) (cCons (cSet (cB (b1 lenD) (cCons (cVar 5) cNil))) (cCons (cSet (cBin gAdd (cB (b1 lenD) (cCons (cVar 5) cNil)) (cC (.int 1)))) (cCons (cSet (cBin gAdd (cB (b1 lenD) (cCons (cVar 5) cNil)) (cC (.int 2)))) cNil))))))) (A9 a b dr L W s (some (IL true X)) none none) = .ok [.int 0, .int 1, .int (((s.length : Nat) : Int) / 2), .int ((s.length : Nat) : Int), .int (((s.length : Nat) : Int) + 1), .int (((s.length : Nat) : Int) + 2)] (A9 a b dr L W s (some (IL true X)) none none) := by
      walk_at "ev"
    exact h
  have i2 : iLst (cLst (cCons (cSet (cNeg (cC (.int 1)))) (cCons (cSet (cBin VL.gSub (cNeg (cC (.int 1))) (cB (b1 lenD) (cCons (cVar 6) cNil)))) (cCons (cSet (cB (b1 lenD) (cCons (cVar 6) cNil))) (cCons (cSet (cBin gAdd (cB (b1 lenD) (cCons (cVar 6) cNil)) (cC (.int 1)))) (cCons (cSet (cBin gAdd (cBin gAdd (cB (b1 lenD) (cCons (cVar 6) cNil)) (cC (.int 2))) (cB (b1 lenD) (cCons (cVar 2) cNil)))) cNil)))))) (A9 a b dr L W s (some (IL true X)) m1 none) = .ok ([-1, -1 - (X.length : Int), (X.length : Int), (X.length : Int) + 1, (X.length : Int) + 2 + (dr.length : Int)].map .int) (A9 a b dr L W s (some (IL true X)) m1 none) := by
    have h : iLst (cLst (cCons (cSet (cNeg (cC (.int 1)))) (cCons (cSet (cBin VL.gSub (cNeg (cC (.int 1))) (cB (b1 lenD) (cCons (cVar 6) cNil)))) (cCons (cSet (cB (b1 lenD) (cCons (cVar 6) cNil))) (cCons (cSet (cBin gAdd (cB (b1 lenD) (cCons (cVar 6) cNil)) (cC (.int 1)))) (cCons (cSet (cBin gAdd (cBin gAdd (cB (b1 lenD) (cCons (cVar 6) cNil)) (cC (.int 2))) (cB (b1 lenD) (cCons (cVar 2) cNil)))) cNil)))))) (A9 a b dr L W s (some (IL true X)) m1 none) = .ok [.int (-1), .int (-1 - ((X.length : Nat) : Int)), .int ((X.length : Nat) : Int), .int (((X.length : Nat) : Int) + 1), .int (((X.length : Nat) : Int) + 2 + ((dr.length : Nat) : Int))] (A9 a b dr L W s (some (IL true X)) m1 none) := by
      walk_at "ev"
    exact h
  unfold F__law_all_read f__law_all_read
  exact runF_go (r := A9 a b dr L W s none none none) (by walk_at "start") (seq_go (VH.asg_go (set_val e1) rfl) (seq_go (for_go i1 l1) (seq_go (for_go i2 l2) (ret_go rfl)))) rfl
end
end K10.Co

namespace K10.Co
open PySem PySem.Spec PyProof.Rows L2 VL VH
open K10 K10.Bt
theorem bits_lc (b : Int) (M : D) : ∀ (ds : List D) (a c : Int) (bs : List Int), bs.length + ds.length < 16777216 → ∃ a' c' bs', lcL (.nm 2) none (cCallQ 0 1 F__law_draw (cCons (cVar 0) (cCons (cSet (cC (.int 2))) cNil))) [2] ds (bs.map .int) [some (dk a b c), some M, none] = .ok ((bs ++ bs').map .int) [some (dk a' b c'), some M, none] ∧ bs'.length = ds.length
  | [], a, c, bs, _ => ⟨a, c, [], by rw [List.append_nil]; rfl, rfl⟩
  | d :: ds, a, c, bs, hl => by
    rw [List.length_cons] at hl
    obtain ⟨v, a1, c1, e, _, _⟩ := dq (r := [some (dk a b c), some M, some d]) (i := 0) (fm := cC (.int 2)) rfl (set_val rfl) (by decide) (by decide)
    obtain ⟨a2, c2, bs', ih, h2⟩ := bits_lc b M ds a1 c1 (bs ++ [v]) (by rw [List.length_append, List.length_singleton]; omega)
    refine ⟨a2, c2, v :: bs', ?_, by rw [List.length_cons, h2, List.length_cons]⟩
    rw [VL.lcL_step (r1 := [some (dk a b c), some M, some d]) rfl (set_val e) (by rw [List.length_map]; omega)]
    rw [List.map_append, List.append_assoc] at ih
    exact ih
theorem bits_ok (a b c : Int) : ∃ bs a' c', F__law_bits (dk a b c) [.int 6] = .ok (IL true bs) (dk a' b c') ∧ bs.length ≤ 6 := by
  obtain ⟨v, a1, c1, e, h1, h2⟩ := dq (r := [some (dk a b c), some (.int 6), none]) (i := 0) (fm := cBin gAdd (cVar 1) (cC (.int 1))) rfl (set_val (add_ok (i := 6) (j := 1) rfl rfl)) (by decide) (by decide)
  have i1 : iRng rngI1 (cCons (cCallQ 0 1 F__law_draw (cCons (cVar 0) (cCons (cSet (cBin gAdd (cVar 1) (cC (.int 1)))) cNil))) cNil) [some (dk a b c), some (.int 6), none] = .ok (rngD 0 1 v.toNat) [some (dk a1 b c1), some (.int 6), none] :=
    it_rngI e (by unfold within; exact decide_eq_true (by omega))
  obtain ⟨a2, c2, bs, e2, h3⟩ := bits_lc b (.int 6) (rngD 0 1 v.toNat) a1 c1 [] (by unfold rngD; rw [List.length_map, List.length_range, List.length_nil]; omega)
  rw [List.nil_append] at e2
  have e3 : cLc [2] (.nm 2) (iRng rngI1 (cCons (cCallQ 0 1 F__law_draw (cCons (cVar 0) (cCons (cSet (cBin gAdd (cVar 1) (cC (.int 1)))) cNil))) cNil)) none (cCallQ 0 1 F__law_draw (cCons (cVar 0) (cCons (cSet (cC (.int 2))) cNil))) [some (dk a b c), some (.int 6), none] = .ok (.val (IL true bs)) [some (dk a2 b c2), some (.int 6), none] := by
    rw [q_lc, i1]
    show (match lcL (.nm 2) none _ [2] (rngD 0 1 v.toNat) [] [some (dk a1 b c1), some (.int 6), none] with | .ok acc r2 => EO.ok (.val (.node .lst true acc)) (backR [some (dk a1 b c1), some (.int 6), none] r2 [2]) | .bad => .bad) = _
    have e4 : lcL (.nm 2) none (cCallQ 0 1 F__law_draw (cCons (cVar 0) (cCons (cSet (cC (.int 2))) cNil))) [2] (rngD 0 1 v.toNat) [] [some (dk a1 b c1), some (.int 6), none] = .ok (bs.map .int) [some (dk a2 b c2), some (.int 6), none] := e2
    rw [e4]
    rfl
  refine ⟨bs, a2, c2, ?_, by rw [h3]; unfold rngD; rw [List.length_map, List.length_range]; omega⟩
  unfold F__law_bits runQ f__law_bits
  have e5 : startR 3 (putQ 0 (dk a b c) [.int 6]) = [some (dk a b c), some (.int 6), none] := rfl
  rw [e5, ret_go e3]
  rfl
abbrev N17 (ns : List Int) (dd ld wd : D) (t dr : List Int) (d : Option D) : Rho := [some (script ns), some dd, some ld, some wd, some (IL true t), some (IL true dr), d, none, none, none, none, none, none, none, none, none, none]
noncomputable abbrev tE : Ev := (cBin gIx (cBin gIx (cVar 3) (cCallQ 0 1 F__law_draw (cCons (cVar 6) (cCons (cSet (cB (gMax2) (cCons (cC (.int 1)) (cCons (cB (b1 lenD) (cCons (cVar 2) cNil)) cNil)))) cNil)))) (cC (.int 0)))
theorem t_lc (ns : List Int) (dd : D) (L W : List Lp) (hL : L.length ≤ W.length) (hW : W.length < 1000) (h0 : 0 < W.length) (t dr : List Int) (b : Int) : ∀ (ds : List D) (a c : Int) (bs : List Int), bs.length + ds.length < 16777216 → ∃ a' c' bs', lcL (.nm 15) none tE [15] ds (bs.map .int) (N17 ns dd (.node .lst true (L.map pl)) (.node .lst true (W.map pl)) t dr (some (dk a b c))) = .ok ((bs ++ bs').map .int) (N17 ns dd (.node .lst true (L.map pl)) (.node .lst true (W.map pl)) t dr (some (dk a' b c'))) ∧ bs'.length = ds.length
  | [], a, c, bs, _ => ⟨a, c, [], by rw [List.append_nil]; rfl, rfl⟩
  | d :: ds, a, c, bs, hl => by
    rw [List.length_cons] at hl
    have l1 : cB (b1 lenD) (cCons (cVar 2) cNil) ((N17 ns dd (.node .lst true (L.map pl)) (.node .lst true (W.map pl)) t dr (some (dk a b c))).set 15 (some d)) = .ok (.val (.int (L.map pl).length)) ((N17 ns dd (.node .lst true (L.map pl)) (.node .lst true (W.map pl)) t dr (some (dk a b c))).set 15 (some d)) := len_go (VL.cvar_loc rfl rfl) rfl rfl
    rw [List.length_map] at l1
    have m1 := max_ok (fa := cC (.int 1)) (i := 1) rfl l1
    obtain ⟨v, a1, c1, e, h1, h2⟩ := dq (r := (N17 ns dd (.node .lst true (L.map pl)) (.node .lst true (W.map pl)) t dr (some (dk a b c))).set 15 (some d)) (i := 6) rfl (set_val m1) (by omega) (by omega)
    obtain ⟨p, hp⟩ : ∃ p : Lp, W[v.toNat]? = some p := ⟨W[v.toNat]'(by omega), List.getElem?_eq_getElem _⟩
    have at1 : atI (W.map pl) v = some (pl p) := by
      have ev : v = ((v.toNat : Nat) : Int) := by omega
      rw [ev, VL.atI_nat, List.getElem?_map, hp]; rfl
    have x1 : cBin gIx (cVar 3) (cCallQ 0 1 F__law_draw (cCons (cVar 6) (cCons (cSet (cB (gMax2) (cCons (cC (.int 1)) (cCons (cB (b1 lenD) (cCons (cVar 2) cNil)) cNil)))) cNil))) ((N17 ns dd (.node .lst true (L.map pl)) (.node .lst true (W.map pl)) t dr (some (dk a b c))).set 15 (some d)) = .ok (.val (pl p)) ((N17 ns dd (.node .lst true (L.map pl)) (.node .lst true (W.map pl)) t dr (some (dk a1 b c1))).set 15 (some d)) := by
      refine ix_go (k := .lst) (o := true) (xs := W.map pl) (d := pl p) (VL.cvar_loc rfl rfl) e rfl rfl at1 ⟨frz_pl p⟩ ?_ (fun h => by cases h)
      show (N17 ns dd (.node .lst true (L.map pl)) (.node .lst true (frzs (W.map pl))) t dr (some (dk a1 b c1))).set 15 (some d) = _
      rw [frzs_pl]
    have x2 : tE ((N17 ns dd (.node .lst true (L.map pl)) (.node .lst true (W.map pl)) t dr (some (dk a b c))).set 15 (some d)) = .ok (.val (.int p.1)) ((N17 ns dd (.node .lst true (L.map pl)) (.node .lst true (W.map pl)) t dr (some (dk a1 b c1))).set 15 (some d)) :=
      ixA_go (n := 0) (k := .tup) (o := false) (xs := [.int p.1, .int (p.2 : Nat)]) x1 rfl rfl rfl rfl rfl
    obtain ⟨a2, c2, bs', ih, h3⟩ := t_lc ns dd L W hL hW h0 t dr b ds a1 c1 (bs ++ [p.1]) (by rw [List.length_append, List.length_singleton]; omega)
    refine ⟨a2, c2, p.1 :: bs', ?_, by rw [List.length_cons, h3, List.length_cons]⟩
    rw [VL.lcL_step (r1 := (N17 ns dd (.node .lst true (L.map pl)) (.node .lst true (W.map pl)) t dr (some (dk a b c))).set 15 (some d)) rfl (set_val x2) (by rw [List.length_map]; omega)]
    rw [List.map_append, List.append_assoc] at ih
    exact ih
noncomputable abbrev dB : Sv := (cSeq (cAsg (.nm 4) (cBin gAdd (cVar 4) (cLc [15] (.nm 15) (iRng rngI1 (cCons (cBin gAdd (cC (.int 1)) (cCallQ 0 1 F__law_draw (cCons (cVar 6) (cCons (cSet (cC (.int 3))) cNil)))) cNil)) none tE)))
  (cAsg (.nm 5) (cBin gAdd (cVar 5) (cCallQ 0 1 F__law_bits (cCons (cVar 6) (cCons (cSet (cC (.int 6))) cNil))))))
theorem d_body (ns : List Int) (dd : D) (L W : List Lp) (hL : L.length ≤ W.length) (hW : W.length < 1000) (h0 : 0 < W.length) (t dr : List Int) (a b c : Int) (ht : t.length < 10000) (hd : dr.length < 10000) : ∃ t' dr' a' c', dB (N17 ns dd (.node .lst true (L.map pl)) (.node .lst true (W.map pl)) t dr (some (dk a b c))) = .nx (N17 ns dd (.node .lst true (L.map pl)) (.node .lst true (W.map pl)) t' dr' (some (dk a' b c'))) ∧ t'.length ≤ t.length + 3 ∧ dr'.length ≤ dr.length + 6 := by
  obtain ⟨v, a1, c1, e, h1, h2⟩ := dq (r := N17 ns dd (.node .lst true (L.map pl)) (.node .lst true (W.map pl)) t dr (some (dk a b c))) (i := 6) (fm := cC (.int 3)) rfl (set_val rfl) (by decide) (by decide)
  have i1 : iRng rngI1 (cCons (cBin gAdd (cC (.int 1)) (cCallQ 0 1 F__law_draw (cCons (cVar 6) (cCons (cSet (cC (.int 3))) cNil)))) cNil) (N17 ns dd (.node .lst true (L.map pl)) (.node .lst true (W.map pl)) t dr (some (dk a b c))) = .ok (rngD 0 1 (1 + v).toNat) (N17 ns dd (.node .lst true (L.map pl)) (.node .lst true (W.map pl)) t dr (some (dk a1 b c1))) :=
    it_rngI (add_ok (i := 1) (j := v) rfl e) (by unfold within; exact decide_eq_true (by omega))
  obtain ⟨a2, c2, bs, e2, h3⟩ := t_lc ns dd L W hL hW h0 t dr b (rngD 0 1 (1 + v).toNat) a1 c1 [] (by unfold rngD; rw [List.length_map, List.length_range, List.length_nil]; omega)
  rw [List.nil_append] at e2
  have hbl : bs.length ≤ 3 := by rw [h3]; unfold rngD; rw [List.length_map, List.length_range]; omega
  have e3 : cLc [15] (.nm 15) (iRng rngI1 (cCons (cBin gAdd (cC (.int 1)) (cCallQ 0 1 F__law_draw (cCons (cVar 6) (cCons (cSet (cC (.int 3))) cNil)))) cNil)) none tE (N17 ns dd (.node .lst true (L.map pl)) (.node .lst true (W.map pl)) t dr (some (dk a b c))) = .ok (.val (IL true bs)) (N17 ns dd (.node .lst true (L.map pl)) (.node .lst true (W.map pl)) t dr (some (dk a2 b c2))) := by
    rw [q_lc, i1]
    have e4 : lcL (.nm 15) none tE [15] (rngD 0 1 (1 + v).toNat) [] (wipeR (N17 ns dd (.node .lst true (L.map pl)) (.node .lst true (W.map pl)) t dr (some (dk a1 b c1))) [15]) = .ok (bs.map .int) (N17 ns dd (.node .lst true (L.map pl)) (.node .lst true (W.map pl)) t dr (some (dk a2 b c2))) := e2
    show (match lcL (.nm 15) none tE [15] (rngD 0 1 (1 + v).toNat) [] (wipeR (N17 ns dd (.node .lst true (L.map pl)) (.node .lst true (W.map pl)) t dr (some (dk a1 b c1))) [15]) with | .ok acc r2 => EO.ok (.val (.node .lst true acc)) (backR (N17 ns dd (.node .lst true (L.map pl)) (.node .lst true (W.map pl)) t dr (some (dk a1 b c1))) r2 [15]) | .bad => .bad) = _
    rw [e4]
    rfl
  have s1 : cAsg (.nm 4) (cBin gAdd (cVar 4) (cLc [15] (.nm 15) (iRng rngI1 (cCons (cBin gAdd (cC (.int 1)) (cCallQ 0 1 F__law_draw (cCons (cVar 6) (cCons (cSet (cC (.int 3))) cNil)))) cNil)) none tE)) (N17 ns dd (.node .lst true (L.map pl)) (.node .lst true (W.map pl)) t dr (some (dk a b c))) = .nx (N17 ns dd (.node .lst true (L.map pl)) (.node .lst true (W.map pl)) (t ++ bs) dr (some (dk a2 b c2))) := by
    have e5 := addL_go (fa := cVar 4) (r := N17 ns dd (.node .lst true (L.map pl)) (.node .lst true (W.map pl)) t dr (some (dk a b c))) (xs' := t.map .int) (VL.cvar_loc rfl rfl) e3 rfl rfl inferInstance inferInstance (by rw [List.length_map, List.length_map]; omega) rfl (touch_I (o := true) (xs := t) rfl)
    rw [← List.map_append] at e5
    exact VH.asg_go (set_val e5) rfl
  obtain ⟨ds, a3, c3, e6, h4⟩ := bits_ok a2 b c2
  have e7 : cCallQ 0 1 F__law_bits (cCons (cVar 6) (cCons (cSet (cC (.int 6))) cNil)) (N17 ns dd (.node .lst true (L.map pl)) (.node .lst true (W.map pl)) (t ++ bs) dr (some (dk a2 b c2))) = .ok (.val (IL true ds)) (N17 ns dd (.node .lst true (L.map pl)) (.node .lst true (W.map pl)) (t ++ bs) dr (some (dk a3 b c3))) :=
    callQ_loc (i := 6) (d0 := dk a2 b c2) (cons_ok (VL.cvar_loc rfl rfl) (cons_ok (set_val rfl) (nil_ok _))) rfl rfl rfl rfl rfl e6
  refine ⟨t ++ bs, dr ++ ds, a3, c3, seq_go s1 ?_, by rw [List.length_append]; omega, by rw [List.length_append]; omega⟩
  have e8 := addL_go (fa := cVar 5) (r := N17 ns dd (.node .lst true (L.map pl)) (.node .lst true (W.map pl)) (t ++ bs) dr (some (dk a2 b c2))) (xs' := dr.map .int) (VL.cvar_loc rfl rfl) e7 rfl rfl inferInstance inferInstance (by rw [List.length_map, List.length_map]; omega) rfl (touch_I (o := true) (xs := dr) rfl)
  rw [← List.map_append] at e8
  exact VH.asg_go (set_val e8) rfl
end K10.Co

namespace K10.Co
open PySem PySem.Spec PyProof.Rows L2 VL VH
open K10 K10.Bt
theorem forM_ex {i j : Nat} {f : Sv} {ds : List D} {r : Rho} (P : D → Prop) (Inv : Nat → Rho → Prop) (hij : i ≠ j) (hP : ∀ d ∈ ds, P d) (h : r[i]? = some (some (.node .lst true ds))) (hj : j < r.length) (h0 : Inv 0 r)
    (hs : ∀ (k : Nat) (r' : Rho) (d : D) (es : List D), k < ds.length → Inv k r' → P d → r'[i]? = some (some (.node .lst true es)) → es.length = ds.length → j < r'.length → ∃ r2 d', f ((r'.set i (some .any)).set j (some d)) = .nx r2 ∧ j < r2.length ∧ i < r2.length ∧ r2[j]? = some (some d') ∧ P d' ∧ ∀ es', Inv (k + 1) ((r2.set i (some (.node .lst true es'))).set j (some .any))) :
    ∃ r' es, cForM i j f r = .nx r' ∧ Inv ds.length r' ∧ r'[i]? = some (some (.node .lst true es)) ∧ es.length = ds.length ∧ ∀ d ∈ es, P d := by
  have go : ∀ (k : Nat) (r' : Rho) (es : List D), k ≤ ds.length → Inv (ds.length - k) r' → r'[i]? = some (some (.node .lst true es)) → es.length = ds.length → (∀ d ∈ es, P d) → j < r'.length → ∃ r2 es', forM i j ds.length f k r' = .nx r2 ∧ Inv ds.length r2 ∧ r2[i]? = some (some (.node .lst true es')) ∧ es'.length = ds.length ∧ ∀ d ∈ es', P d := by
    intro k
    induction k with
    | zero =>
      intro r' es _ hi hr hl hp _
      rw [Nat.sub_zero] at hi
      exact ⟨r', es, forM_nil hr hl, hi, hr, hl, hp⟩
    | succ k ih =>
      intro r' es hk hi hr hl hp hj'
      have hml : ds.length - (k + 1) < es.length := by omega
      obtain ⟨r2, d', e1, e2, e3, e4, e5, e6⟩ := hs (ds.length - (k + 1)) r' es[ds.length - (k + 1)] es (by omega) hi (hp _ (List.getElem_mem hml)) hr hl hj'
      have st := forM_cons (n := ds.length) (k := k) (f := f) hr hl hj' (List.getElem?_eq_getElem hml) e1
      rw [st]
      have ep : putM i j (ds.length - (k + 1)) es r2 = (r2.set i (some (.node .lst true (es.set (ds.length - (k + 1)) d')))).set j (some .any) := by
        unfold putM partD
        rw [e4]
      rw [ep]
      have hmk : ds.length - k = ds.length - (k + 1) + 1 := by omega
      refine ih _ (es.set (ds.length - (k + 1)) d') (by omega) (by rw [hmk]; exact e6 _) ?_ (by rw [List.length_set]; exact hl) (fun d hd => ?_) (by simpa using e2)
      · rw [List.getElem?_set_ne (Ne.symm hij), List.getElem?_set_self e3]
      · rcases List.mem_or_eq_of_mem_set hd with hd | hd
        · exact hp d hd
        · rw [hd]; exact e5
  have st : cForM i j f r = forM i j ds.length f ds.length r := by unfold cForM; rw [h]
  rw [st]
  exact go ds.length r ds (Nat.le_refl _) (by rw [Nat.sub_self]; exact h0) h rfl hP hj
abbrev V17 (s d l w t r x6 x7 x8 x9 x10 x11 x12 x13 : Option D) : Rho := [s, d, l, w, t, r, x6, x7, x8, x9, x10, x11, x12, x13, none, none, none]
theorem not_letO {L : List Lp} {r : Rho} {i : Nat} {o : Bool} (hl : L.length < 10000) (h : r[i]? = some (some (.node .lst o (L.map pl)))) : cNot (cCall 1 F__law_let (cCons (cVar i) cNil)) r = .ok (.val (.bl (!decide (letP L)))) r := by
  refine not_ok (call_go (ds := [.node .lst o (L.map pl)]) (cons_ok (VL.cvar_loc h rfl) (nil_ok _)) ?_ (show Fzs [.node .lst o (L.map pl)] [.node .lst false (L.map pl)] from inferInstance) rfl (let_ok L (by omega)) inferInstance)
  show (match opd r (.loc i), opds r [] with | some d, some ds => some (d :: ds) | _, _ => none) = _
  rw [VL.opd_loc' h]; rfl
theorem cut_last (L : List Lp) : VL.cutD (L.map pl) none (some (-1)) = (L.take (L.length - 1)).map pl := by
  unfold VL.cutD HT.sIx
  rw [List.length_map, List.map_take]
  show ((L.map pl).drop 0).take ((if (-1 : Int) < 0 then ((-1 : Int) + ((L.length : Nat) : Int)).toNat else _) - 0) = _
  rw [List.drop_zero, if_pos (by decide), Nat.sub_zero, show ((-1 : Int) + ((L.length : Nat) : Int)).toNat = L.length - 1 from by omega]
theorem Dr.take {L : List Lp} {z : Int} (d : Dr L z) (k : Nat) : Dr (L.take k) z := ⟨fun p hp => d.pos p (List.mem_of_mem_take hp), fun p hp => d.lo p (List.mem_of_mem_take hp), d.up.sublist (List.take_sublist k L)⟩
noncomputable abbrev w4C : Ev := cNot (cCall 1 F__law_let (cCons (cVar 2) cNil))
noncomputable abbrev w4B : Sv := cAsg (.nm 2) (cSl (cVar 2) none (some (cNeg (cC (.int 1)))))
theorem w4 (s d w : Option D) : ∀ (n : Nat) (L1 : List Lp) (m : Nat), L1.length = n → n < 1000 → n < m → ∃ j, j ≤ L1.length ∧ letP (L1.take j) ∧ whileL w4C w4B m (V17 s d (some (.node .lst true (L1.map pl))) w none none none none none none none none none none) = .nx (V17 s d (some (.node .lst true ((L1.take j).map pl))) w none none none none none none none none none none)
  | n, L1, 0, _, _, h => by omega
  | n, L1, m + 1, hn, hl, h => by
    have c := not_letO (L := L1) (r := V17 s d (some (.node .lst true (L1.map pl))) w none none none none none none none none none none) (i := 2) (o := true) (by omega) rfl
    by_cases hp : letP L1
    · rw [decide_eq_true hp] at c
      refine ⟨L1.length, Nat.le_refl _, by rw [List.take_length]; exact hp, ?_⟩
      rw [List.take_length]
      exact wh_n c rfl
    · rw [decide_eq_false hp] at c
      match n, hn with
      | 0, hn =>
        have : L1 = [] := List.length_eq_zero_iff.mp hn
        subst this
        exact (hp ⟨fun p hp => (by cases hp), Nat.zero_le _⟩).elim
      | n + 1, hn =>
        have hl2 : (L1.take (L1.length - 1)).length = n := by rw [List.length_take]; omega
        obtain ⟨j, h1, h2, h3⟩ := w4 s d w n (L1.take (L1.length - 1)) m hl2 (by omega) (by omega)
        rw [List.take_take, Nat.min_eq_left (by omega)] at h2 h3
        refine ⟨j, by omega, h2, (wh_s c ?_).trans h3⟩
        refine VH.asg_go (r1 := V17 s d (some (.node .lst true (L1.map pl))) w none none none none none none none none none none) (set_val (d := .node .lst true ((L1.take (L1.length - 1)).map pl)) ?_) rfl
        rw [q_sl, VL.cvar_loc (d := .node .lst true (L1.map pl)) rfl rfl, bd_ok, q_part0, VH.part_ok (f := cNeg (cC (.int 1))) (i := -1) (r1 := V17 s d (some (.node .lst true (L1.map pl))) w none none none none none none none none none none) rfl, q_gSl]
        show EO.ok (R.val (.node .lst true (VL.cutD (frzs (L1.map pl)) none (some (-1))))) (V17 s d (some (.node .lst true (frzs (L1.map pl)))) w none none none none none none none none none none) = _
        rw [frzs_pl, cut_last]
theorem max7 (L : List Lp) (hl : L.length < 16777000) (s d w t r x6 : Option D) : ∃ m : Int, cB (b1 maxD) (cCons (cBin gAdd (cLst (cCons (cSet (cC (.int 0))) cNil)) (cLc [14, 16] (.tp [14, 16]) (iLst (cVar 2)) none (cVar 16))) cNil) (V17 s d (some (.node .lst true (L.map pl))) w t r x6 none none none none none none none) = .ok (.val (.int m)) (V17 s d (some (LD L)) w t r x6 none none none none none none none) := by
  have h : cLc [14, 16] (.tp [14, 16]) (iLst (cVar 2)) none (cVar 16) (V17 s d (some (.node .lst true (L.map pl))) w t r x6 none none none none none none none) = .ok (.val (.node .lst true ((L.map fun p => ((p.2 : Nat) : Int)).map .int))) (V17 s d (some (LD L)) w t r x6 none none none none none none none) := by
    rw [List.map_map]
    refine lc_all (enc := pl) (g := D.int ∘ fun p => ((p.2 : Nat) : Int)) L (r1 := V17 s d (some (LD L)) w t r x6 none none none none none none none) (r0 := V17 s d (some (LD L)) w t r x6 none none none none none none none) (it_lstG (o := false) (k := .lst) (set_loc (d := .node .lst true (L.map pl)) rfl rfl inferInstance rfl) rfl) rfl (by omega) ?_
    intro p _
    exact ⟨((V17 s d (some (LD L)) w t r x6 none none none none none none none).set 14 (some (.int p.1))).set 16 (some (.int (p.2 : Nat))), rfl, ((V17 s d (some (LD L)) w t r x6 none none none none none none none).set 14 (some (.int p.1))).set 16 (some (.int (p.2 : Nat))), set_val (cvar_at rfl rfl), rfl⟩
  refine ⟨(L.map fun p => ((p.2 : Nat) : Int)).foldl max 0, ?_⟩
  have e : cBin gAdd (cLst (cCons (cSet (cC (.int 0))) cNil)) (cLc [14, 16] (.tp [14, 16]) (iLst (cVar 2)) none (cVar 16)) (V17 s d (some (.node .lst true (L.map pl))) w t r x6 none none none none none none none) = .ok (.val (.node .lst true ([D.int 0] ++ (L.map fun p => ((p.2 : Nat) : Int)).map .int))) (V17 s d (some (LD L)) w t r x6 none none none none none none none) :=
    addL_go (r1 := V17 s d (some (.node .lst true (L.map pl))) w t r x6 none none none none none none none) (x := .val (.node .lst true [D.int 0])) rfl h rfl rfl inferInstance inferInstance (by rw [List.length_map, List.length_map, List.length_singleton]; omega) rfl rfl
  refine b1_ok e rfl ?_ rfl
  show (lstInts (.node .lst true ((0 :: (L.map fun p => ((p.2 : Nat) : Int))).map D.int))).bind _ = _
  have e2 : lstInts (.node .lst true ((0 :: (L.map fun p => ((p.2 : Nat) : Int))).map D.int)) = some (0 :: (L.map fun p => ((p.2 : Nat) : Int))) := by
    show intsOf _ = _
    rw [intsOf_map]
  rw [e2]
  rfl
theorem pairs_pl : ∀ L1 : List Lp, pairsOf (L1.map pl) = some (L1.map fun p => ((Sum.inl p.1 : L2.Key), D.int (p.2 : Nat)))
  | [] => rfl
  | p :: L1 => by
    show (match pairOf (pl p), pairsOf (L1.map pl) with | some p, some ps => some (p :: ps) | _, _ => none) = _
    rw [pairs_pl L1]; rfl
theorem dict_pl {L : List Lp} {z : Int} (d : Dr L z) {r : Rho} {i : Nat} {o : Bool} (h : r[i]? = some (some (.node .lst o (L.map pl)))) : cDictOf (cVar i) r = .ok (.val (.node (.dK (kI (L.map (·.1)))) true (L.map fun p => D.int (p.2 : Nat)))) r := by
  have ek : (L.map fun p => ((Sum.inl p.1 : L2.Key), D.int (p.2 : Nat))).map (fun p => p.1) = kI (L.map (·.1)) := by
    show _ = (L.map (·.1)).map Sum.inl
    rw [List.map_map, List.map_map]; rfl
  have nd : (L.map (·.1)).Nodup := List.pairwise_map.mpr (d.up.imp fun h e => by
    have e : _ = _ := e
    omega)
  have e := dictOf_ok (r2 := r) (VL.cvar_loc h rfl) (VL.opd_loc' h) (pairs_pl L) (by rw [ek]; exact kI_nodup nd) (by
    show (match r[i]? with | some (some d) => r.set i (some (frzB d)) | _ => r) = r
    rw [h]
    show r.set i (some (.node .lst o (frzs (L.map pl)))) = r
    rw [frzs_pl]
    exact Bt.set_same h)
  rw [e, ek]
  have ev : frzs ((L.map fun p => ((Sum.inl p.1 : L2.Key), D.int (p.2 : Nat))).map (fun p => p.2)) = L.map fun p => D.int (p.2 : Nat) := by
    rw [frzs_map, List.map_map, List.map_map]; rfl
  rw [ev]
theorem keys_in {ks : List Int} {x : Int} : (dix (kI ks) (Sum.inl x)).isSome = decide (x ∈ ks) := dix_isSome
theorem signs_lc {L : List Lp} {z : Int} (dL : Dr L z) (s d w : Option D) (t : List Int) (ht : t.length < 10000) (r x6 : Option D) (o : Bool) : cLc [14] (.nm 14) (iLst (cVar 4)) (some (cBin gDIn (cVar 14) (cDictOf (cVar 2)))) (cVar 14) (V17 s d (some (LD L)) w (some (IL o t)) r x6 none none none none none none none) = .ok (.val (IL true (t.filter fun x => decide (x ∈ L.map (·.1))))) (V17 s d (some (LD L)) w (some (IL false t)) r x6 none none none none none none none) := by
  refine lc_fl (vs := [14]) (t := .nm 14) (enc := D.int) (g := D.int) (p := fun x => decide (x ∈ L.map (·.1))) t (r1 := V17 s d (some (LD L)) w (some (IL false t)) r x6 none none none none none none none) (r0 := V17 s d (some (LD L)) w (some (IL false t)) r x6 none none none none none none none) ?_ rfl (by omega) ?_
  · exact it_lstG (o := false) (k := .lst) (set_loc (i := 4) (d := IL o t) rfl rfl inferInstance rfl) rfl
  intro n _
  refine ⟨(V17 s d (some (LD L)) w (some (IL false t)) r x6 none none none none none none none).set 14 (some (.int n)), rfl, (V17 s d (some (LD L)) w (some (IL false t)) r x6 none none none none none none none).set 14 (some (.int n)), ?_, rfl, fun _ => ⟨(V17 s d (some (LD L)) w (some (IL false t)) r x6 none none none none none none none).set 14 (some (.int n)), set_val (cvar_at rfl rfl), rfl⟩⟩
  show cBin gDIn _ _ _ = _
  refine bin_ok (cvar_at rfl rfl) (dict_pl dL (o := false) (i := 2) rfl) ?_
  show EO.ok (R.val (.bl (dix (kI (L.map (·.1))) (Sum.inl n)).isSome)) _ = _
  rw [keys_in]
theorem strangers_lc {W : List Lp} {z : Int} (dW : Dr W z) (s d l t r x6 x7 : Option D) : cLc [14] (.nm 14) (iRng rngI1 (cCons (cC (.int 256)) cNil)) (some (cBin gDNotIn (cVar 14) (cDictOf (cVar 3)))) (cVar 14) (V17 s d l (some (.node .lst true (W.map pl))) t r x6 x7 none none none none none none) = .ok (.val (.node .lst true (((List.range 256).filter fun x => decide (((x : Nat) : Int) ∉ W.map (·.1))).map nt))) (V17 s d l (some (.node .lst true (W.map pl))) t r x6 x7 none none none none none none) := by
  refine lc_fl (vs := [14]) (t := .nm 14) (enc := nt) (g := nt) (p := fun x => decide (((x : Nat) : Int) ∉ W.map (·.1))) (List.range 256) (r1 := V17 s d l (some (.node .lst true (W.map pl))) t r x6 x7 none none none none none none) (r0 := V17 s d l (some (.node .lst true (W.map pl))) t r x6 x7 none none none none none none) ?_ rfl (by rw [List.length_range]; decide) ?_
  · have e := it_rngI (fa := cC (.int 256)) (n := 256) (r := V17 s d l (some (.node .lst true (W.map pl))) t r x6 x7 none none none none none none) rfl (by decide)
    rw [e]
    show IO.ok (rngD 0 1 256) _ = _
    rw [rng_nt]
  intro n _
  refine ⟨(V17 s d l (some (.node .lst true (W.map pl))) t r x6 x7 none none none none none none).set 14 (some (nt n)), rfl, (V17 s d l (some (.node .lst true (W.map pl))) t r x6 x7 none none none none none none).set 14 (some (nt n)), ?_, rfl, fun _ => ⟨(V17 s d l (some (.node .lst true (W.map pl))) t r x6 x7 none none none none none none).set 14 (some (nt n)), set_val (cvar_at rfl rfl), rfl⟩⟩
  show cBin gDNotIn _ _ _ = _
  refine bin_ok (cvar_at rfl rfl) (dict_pl dW (o := true) (i := 3) rfl) ?_
  show EO.ok (R.val (.bl (!(dix (kI (W.map (·.1))) (Sum.inl ((n : Nat) : Int))).isSome))) _ = _
  rw [keys_in, ← decide_not]
end K10.Co

namespace K10.Co
open PySem PySem.Spec PyProof.Rows L2 VL VH
open K10 K10.Bt
def Dk (d : D) : Prop := ∃ a b c, d = dk a b c
abbrev T17 (s : D) (ds : List D) (l w : Option D) (o : Bool) (t : List Int) (r x6 x7 : Option D) (st : List Nat) (x9 x10 : Option D) : Rho := V17 (some s) (some (.node .lst true ds)) l w (some (IL o t)) r x6 x7 (some (.node .lst true (st.map nt))) x9 x10 none none none
theorem dp {r : Rho} {ds : List D} {m : Int} {fm : Ev} (h : r[1]? = some (some (.node .lst true ds))) (h0 : 0 < ds.length) (hd : ∀ d ∈ ds, Dk d) (h2 : cSet fm (r.set 1 (some .any)) = .ok (.val (.int m)) (r.set 1 (some .any))) (hm : 0 < m) (hm2 : m < 1000000) : ∃ v ds', cCallP 1 1 F__law_draw (cC (.int 0)) (cCons (cSet fm) cNil) r = .ok (.val (.int v)) (r.set 1 (some (.node .lst true ds'))) ∧ 0 ≤ v ∧ v < m ∧ 0 < ds'.length ∧ (∀ d ∈ ds', Dk d) := by
  match ds, h0 with
  | x :: ds, _ =>
    obtain ⟨a, b, c, rfl⟩ := hd _ List.mem_cons_self
    obtain ⟨v, a', c', e, h3, h4⟩ := draw_ok a b c m hm hm2
    have e2 := callP_ok (fk := cC (.int 0)) (kk := 0) (m := 0) (k := .lst) (o := true) (n := 1) (r := r) (r1 := r) (r2 := r.set 1 (some .any)) (ds := dk a b c :: ds) (d0 := dk a b c) (xs := [.val (.int m)]) (as := [.int m]) (by unfold isSeq; rw [h]; rfl) rfl h rfl (ixN_nat (k := 0) (Nat.succ_pos _)) rfl (cons_ok h2 (nil_ok _)) rfl rfl e
    refine ⟨v, dk a' b c' :: ds, ?_, h3, h4, Nat.succ_pos _, fun d h => ?_⟩
    · rw [e2, List.set_set]; rfl
    · rcases List.mem_cons.mp h with e | h
      · exact ⟨_, _, _, e⟩
      · exact hd d (List.mem_cons_of_mem _ h)
noncomputable abbrev stB : Sv := (cSeq (cAsg (.nm 10) (cCallP 1 1 F__law_draw (cC (.int 0)) (cCons (cSet (cBin gAdd (cB (b1 lenD) (cCons (cVar 4) cNil)) (cC (.int 1)))) cNil)))
  (cAsg (.nm 4) (cBin gAdd (cBin gAdd (cSl (cVar 4) none (some (cVar 10))) (cLst (cCons (cSet (cBin gIx (cVar 8) (cCallP 1 1 F__law_draw (cC (.int 0)) (cCons (cSet (cB (b1 lenD) (cCons (cVar 8) cNil))) cNil)))) cNil))) (cSl (cVar 4) (some (cVar 10)) none))))
theorem st_step (s : D) (ds : List D) (h0 : 0 < ds.length) (hd : ∀ d ∈ ds, Dk d) (l w : Option D) (o : Bool) (t : List Int) (ht : t.length < 10000) (r x6 x7 : Option D) (st : List Nat) (hs : 0 < st.length) (hs2 : st.length < 1000) (x9 x10 : Option D) : ∃ ds' t' x10', stB (T17 s ds l w o t r x6 x7 st x9 x10) = .nx (T17 s ds' l w true t' r x6 x7 st x9 x10') ∧ 0 < ds'.length ∧ (∀ d ∈ ds', Dk d) ∧ t'.length ≤ t.length + 1 := by
  have l1 : cB (b1 lenD) (cCons (cVar 4) cNil) ((T17 s ds l w o t r x6 x7 st x9 x10).set 1 (some .any)) = .ok (.val (.int (t.map D.int).length)) ((T17 s ds l w o t r x6 x7 st x9 x10).set 1 (some .any)) := len_go (k := .lst) (VL.cvar_loc rfl rfl) rfl rfl
  rw [List.length_map] at l1
  obtain ⟨v, ds1, e1, h1, h2, h3, h4⟩ := dp (r := T17 s ds l w o t r x6 x7 st x9 x10) (ds := ds) rfl h0 hd (set_val (add_ok l1 (fb := cC (.int 1)) (j := 1) rfl)) (by omega) (by omega)
  have s1 : cAsg (.nm 10) (cCallP 1 1 F__law_draw (cC (.int 0)) (cCons (cSet (cBin gAdd (cB (b1 lenD) (cCons (cVar 4) cNil)) (cC (.int 1)))) cNil)) (T17 s ds l w o t r x6 x7 st x9 x10) = .nx (T17 s ds1 l w o t r x6 x7 st x9 (some (.int v))) := VH.asg_go (set_val e1) rfl
  have l2 : cB (b1 lenD) (cCons (cVar 8) cNil) ((T17 s ds1 l w o t r x6 x7 st x9 (some (.int v))).set 1 (some .any)) = .ok (.val (.int (st.map nt).length)) ((T17 s ds1 l w o t r x6 x7 st x9 (some (.int v))).set 1 (some .any)) := len_go (k := .lst) (VL.cvar_loc rfl rfl) rfl rfl
  rw [List.length_map] at l2
  obtain ⟨u, ds2, e2, h5, h6, h7, h8⟩ := dp (r := T17 s ds1 l w o t r x6 x7 st x9 (some (.int v))) (ds := ds1) rfl h3 h4 (set_val l2) (by omega) (by omega)
  obtain ⟨n, hn⟩ : ∃ n : Nat, st[u.toNat]? = some n := ⟨st[u.toNat]'(by omega), List.getElem?_eq_getElem _⟩
  have at1 : atI (st.map nt) u = some (nt n) := by
    have ev : u = ((u.toNat : Nat) : Int) := by omega
    rw [ev, VL.atI_nat, List.getElem?_map, hn]; rfl
  have e3 : cBin gIx (cVar 8) (cCallP 1 1 F__law_draw (cC (.int 0)) (cCons (cSet (cB (b1 lenD) (cCons (cVar 8) cNil))) cNil)) (T17 s ds1 l w o t r x6 x7 st x9 (some (.int v))) = .ok (.val (nt n)) (T17 s ds2 l w o t r x6 x7 st x9 (some (.int v))) :=
    ixA_go (o := true) (k := .lst) (xs := st.map nt) (VL.cvar_loc rfl rfl) e2 rfl rfl at1 rfl
  have a1 : cSl (cVar 4) none (some (cVar 10)) (T17 s ds1 l w o t r x6 x7 st x9 (some (.int v))) = .ok (.val (.node .lst true ((t.map D.int).take v.toNat))) (T17 s ds1 l w o t r x6 x7 st x9 (some (.int v))) :=
    sl_ns (k := .lst) (o := o) (VL.cvar_loc rfl rfl) rfl rfl inferInstance rfl (touch_I (o := o) (xs := t) rfl) h1
  have a2 : cBin gAdd (cSl (cVar 4) none (some (cVar 10))) (cLst (cCons (cSet (cBin gIx (cVar 8) (cCallP 1 1 F__law_draw (cC (.int 0)) (cCons (cSet (cB (b1 lenD) (cCons (cVar 8) cNil))) cNil)))) cNil)) (T17 s ds1 l w o t r x6 x7 st x9 (some (.int v))) = .ok (.val (.node .lst true ((t.map D.int).take v.toNat ++ [nt n]))) (T17 s ds2 l w o t r x6 x7 st x9 (some (.int v))) :=
    addL_go a1 (lst_ok (cons_ok (set_val e3) (nil_ok _)) rfl (Nat.le_of_ble_eq_true rfl)) rfl rfl inferInstance inferInstance (by rw [List.length_take, List.length_map, List.length_singleton]; omega) rfl rfl
  have a3 : cSl (cVar 4) (some (cVar 10)) none (T17 s ds2 l w o t r x6 x7 st x9 (some (.int v))) = .ok (.val (.node .lst true ((t.map D.int).drop v.toNat))) (T17 s ds2 l w o t r x6 x7 st x9 (some (.int v))) :=
    sl_sn (k := .lst) (o := o) (VL.cvar_loc rfl rfl) rfl rfl inferInstance rfl (touch_I (o := o) (xs := t) rfl) h1
  have a4 := addL_go a2 a3 rfl rfl (xs' := (t.map D.int).take v.toNat ++ [nt n]) (ys' := (t.map D.int).drop v.toNat) inferInstance inferInstance (by rw [List.length_append, List.length_take, List.length_drop, List.length_map, List.length_singleton]; omega) rfl rfl
  have e5 : (t.map D.int).take v.toNat ++ [nt n] ++ (t.map D.int).drop v.toNat = (t.take v.toNat ++ [(n : Int)] ++ t.drop v.toNat).map .int := by
    rw [List.map_append, List.map_append, List.map_take, List.map_drop]; rfl
  rw [e5] at a4
  refine ⟨ds2, t.take v.toNat ++ [(n : Int)] ++ t.drop v.toNat, some (.int v), seq_go s1 (VH.asg_go (set_val a4) rfl), h7, h8, ?_⟩
  rw [List.length_append, List.length_append, List.length_take, List.length_drop, List.length_singleton]
  omega
theorem st_loop (s : D) (l w : Option D) (r x6 x7 : Option D) (st : List Nat) (hs : 0 < st.length) (hs2 : st.length < 1000) : ∀ (is ds : List D) (o : Bool) (t : List Int) (x9 x10 : Option D), 0 < ds.length → (∀ d ∈ ds, Dk d) → t.length + is.length < 10000 → ∃ ds' o' t' x9' x10', forL (.nm 9) stB is (T17 s ds l w o t r x6 x7 st x9 x10) = .nx (T17 s ds' l w o' t' r x6 x7 st x9' x10') ∧ t'.length ≤ t.length + is.length
  | [], ds, o, t, x9, x10, _, _, _ => ⟨ds, o, t, x9, x10, rfl, Nat.le_refl _⟩
  | i :: is, ds, o, t, x9, x10, h0, hd, hl => by
    rw [List.length_cons] at hl
    obtain ⟨ds1, t1, y10, e, h1, h2, h3⟩ := st_step s ds h0 hd l w o t (by omega) r x6 x7 st hs hs2 (some i) x10
    obtain ⟨ds', o', t', y9, z10, ih, h4⟩ := st_loop s l w r x6 x7 st hs hs2 is ds1 true t1 (some i) y10 h1 h2 (by omega)
    exact ⟨ds', o', t', y9, z10, forL_c (r1 := T17 s ds l w o t r x6 x7 st (some i) x10) rfl e ih, by rw [List.length_cons]; omega⟩
noncomputable abbrev crB : Sv := (cIfS (cNot (cCall 2 F__law_coded_right (cCons (cVar 11) (cCons (cVar 12) cNil)))) (cRet (cC (.bl false))) cSkip)
theorem cr_step (s d l w t r x6 x7 x8 x9 x10 : Option D) (o1 o2 : Bool) (row : List Int) (hr : row.length ≤ 60000) {L : List Lp} {z : Int} (dL : Dr L z) (hl : L.length < 10000) : crB (V17 s d l w t r x6 x7 x8 x9 x10 (some (IL o1 row)) (some (.node .lst o2 (L.map pl))) none) = .nx (V17 s d l w t r x6 x7 x8 x9 x10 (some (IL o1 row)) (some (.node .lst o2 (L.map pl))) none) := by
  have c := coded_right_ok dL hl row hr
  walk_at "no"
  rfl
end K10.Co

namespace K10.Co
open PySem PySem.Spec PyProof.Rows L2 VL VH
open K10 K10.Bt
theorem good_nil : Good [] := ⟨fun p hp => (by cases hp), fun p hp => (by cases hp), Nat.zero_le _, List.nodup_nil, by decide⟩
theorem cr5 (s d r x6 x8 x9 x10 : Option D) {t sg : List Int} {L W : List Lp} {z z2 : Int} (ht : t.length ≤ 60000) (hs : sg.length ≤ 60000) (dL : Dr L z) (dW : Dr W z2) (hL : L.length < 10000) (hW : W.length < 10000) : forL (.tp [11, 12]) crB [.node .tup false [IL false t, LD L], .node .tup false [IL false t, LD W], .node .tup false [IL false sg, LD L], .node .tup false [.node .lst true [], LD W], .node .tup false [.node .lst true [], .node .lst true []]] (V17 s d (some (LD L)) (some (LD W)) (some (IL false t)) r x6 (some (IL false sg)) x8 x9 x10 none none none) = .nx (V17 s d (some (LD L)) (some (LD W)) (some (IL false t)) r x6 (some (IL false sg)) x8 x9 x10 (some (.node .lst true [])) (some (.node .lst true [])) none) := by
  refine forL_c (r1 := V17 s d (some (LD L)) (some (LD W)) (some (IL false t)) r x6 (some (IL false sg)) x8 x9 x10 (some (IL false t)) (some (LD L)) none) rfl (cr_step s d _ _ _ r x6 _ x8 x9 x10 false false t ht (L := L) dL hL) ?_
  refine forL_c (r1 := V17 s d (some (LD L)) (some (LD W)) (some (IL false t)) r x6 (some (IL false sg)) x8 x9 x10 (some (IL false t)) (some (LD W)) none) rfl (cr_step s d _ _ _ r x6 _ x8 x9 x10 false false t ht (L := W) dW hW) ?_
  refine forL_c (r1 := V17 s d (some (LD L)) (some (LD W)) (some (IL false t)) r x6 (some (IL false sg)) x8 x9 x10 (some (IL false sg)) (some (LD L)) none) rfl (cr_step s d _ _ _ r x6 _ x8 x9 x10 false false sg hs (L := L) dL hL) ?_
  refine forL_c (r1 := V17 s d (some (LD L)) (some (LD W)) (some (IL false t)) r x6 (some (IL false sg)) x8 x9 x10 (some (IL true [])) (some (LD W)) none) rfl (cr_step s d _ _ _ r x6 _ x8 x9 x10 true false [] (by decide) (L := W) dW hW) ?_
  exact forL_c (r1 := V17 s d (some (LD L)) (some (LD W)) (some (IL false t)) r x6 (some (IL false sg)) x8 x9 x10 (some (IL true [])) (some (.node .lst true (([] : List Lp).map pl))) none) rfl (cr_step s d _ _ _ r x6 _ x8 x9 x10 true true [] (by decide) (L := []) dr_nil (by decide)) rfl
end K10.Co

namespace K10.Co
open PySem PySem.Spec PyProof.Rows L2 VL VH
open K10 K10.Bt
theorem law_plain0 (ns : List Int) (hl : ns.length ≤ 63) : F_law [script ns] = .ok (.bl true) := by
  obtain ⟨ds, e1, hd63, hd0, hdk⟩ := decks_ok ns hl
  obtain ⟨W, z, e2, dW, hz, hW12, hW0⟩ := drawn_ok ns hl
  have nl : noL (.node .lst true ds) = true := by
    show (true && noLs ds) = true
    rw [noLs_of fun d hd => ?_]
    · rfl
    · obtain ⟨a, b, c, rfl⟩ := hdk d hd
      rfl
  haveI : Nl (.node .lst true ds) := ⟨nl⟩
  have s1 : cAsg (.nm 1) (cCall 1 F__law_decks (cCons (cVar 0) cNil)) (V17 (some (script ns)) none none none none none none none none none none none none none) = .nx (V17 (some (script ns)) (some (.node .lst true ds)) none none none none none none none none none none none none) :=
    VH.asg_go (set_val (call_go (cons_ok (VL.cvar_loc rfl rfl) (nil_ok _)) rfl inferInstance rfl e1 ⟨nl⟩)) rfl
  have s2 : cAsg (.nm 2) (cCall 2 F__law_drawn_lengths (cCons (cVar 0) (cCons (cC (.int 12)) cNil))) (V17 (some (script ns)) (some (.node .lst true ds)) none none none none none none none none none none none none) = .nx (V17 (some (script ns)) (some (.node .lst true ds)) (some (.node .lst true (W.map pl))) none none none none none none none none none none none) :=
    VH.asg_go (set_val (call_go (cons_ok (VL.cvar_loc rfl rfl) (cons_ok rfl (nil_ok _))) rfl inferInstance rfl e2 inferInstance)) rfl
  have s3 : cAsg (.nm 3) (cB (gListOf) (cCons (cVar 2) cNil)) (V17 (some (script ns)) (some (.node .lst true ds)) (some (.node .lst true (W.map pl))) none none none none none none none none none none none) = .nx (V17 (some (script ns)) (some (.node .lst true ds)) (some (.node .lst true (W.map pl))) (some (.node .lst true (W.map pl))) none none none none none none none none none none) := by
    refine VH.asg_go (set_val (listOf_go (o := true) (k := .lst) (xs := W.map pl) (VL.cvar_loc rfl rfl) rfl rfl inferInstance (r2 := V17 (some (script ns)) (some (.node .lst true ds)) (some (.node .lst true (W.map pl))) none none none none none none none none none none none) ?_)) rfl
    show V17 (some (script ns)) (some (.node .lst true ds)) (some (.node .lst true (frzs (W.map pl)))) none none none none none none none none none none none = _
    rw [frzs_pl]
  obtain ⟨j, hj, hp, s4⟩ := w4 (some (script ns)) (some (.node .lst true ds)) (some (.node .lst true (W.map pl))) W.length W fuel rfl (by omega) (VH.lt_fuel (by omega))
  have dL := dW.take j
  have hLW : (W.take j).length ≤ W.length := by rw [List.length_take]; omega
  revert dL hp s4 hLW
  generalize W.take j = L
  intro hp s4 dL hLW
  have gL := mk_good dL hp (by omega)
  obtain ⟨r5, es, e6, ⟨dd, t, dr, x6, er, ht, hdr⟩, q5, hle, hes⟩ := forM_ex (i := 1) (j := 6) (f := dB) (ds := ds) (r := V17 (some (script ns)) (some (.node .lst true ds)) (some (.node .lst true (L.map pl))) (some (.node .lst true (W.map pl))) (some (IL true [])) (some (IL true [])) none none none none none none none none) Dk (fun k r' => ∃ dd t dr x6, r' = V17 (some (script ns)) dd (some (.node .lst true (L.map pl))) (some (.node .lst true (W.map pl))) (some (IL true t)) (some (IL true dr)) x6 none none none none none none none ∧ t.length ≤ 3 * k ∧ dr.length ≤ 6 * k) (by decide) hdk rfl (by show 6 < 17; decide) ⟨_, [], [], none, rfl, Nat.zero_le _, Nat.zero_le _⟩ (fun k r' d es hk hi hd _ _ _ => by
    obtain ⟨dd, t, dr, x6, er, ht, hdr⟩ := hi
    subst er
    obtain ⟨a, b, c, rfl⟩ := hd
    obtain ⟨t', dr', a', c', e, h1, h2⟩ := d_body ns .any L W hLW (by omega) hW0 t dr a b c (by omega) (by omega)
    exact ⟨N17 ns .any (.node .lst true (L.map pl)) (.node .lst true (W.map pl)) t' dr' (some (dk a' b c')), dk a' b c', e, (by show 6 < 17; decide), (by show 1 < 17; decide), rfl, ⟨a', b, c', rfl⟩, fun es' => ⟨_, t', dr', _, rfl, by omega, by omega⟩⟩)
  subst er
  have q5 : dd = some (.node .lst true es) := Option.some.inj q5
  subst q5
  have hes0 : 0 < es.length := by omega
  have ht2 : t.length ≤ 200 := by omega
  have hdr2 : dr.length ≤ 400 := by omega
  obtain ⟨m, m7⟩ := max7 L (by omega) (some (script ns)) (some (.node .lst true es)) (some (.node .lst true (W.map pl))) (some (IL true t)) (some (IL true dr)) x6
  have s7 : ∃ t1 : List Int, t1.length ≤ 200 ∧ cIfS (cBin gGt (cB (b1 maxD) (cCons (cBin gAdd (cLst (cCons (cSet (cC (.int 0))) cNil)) (cLc [14, 16] (.tp [14, 16]) (iLst (cVar 2)) none (cVar 16))) cNil)) (cC (.int 50))) (cAsg (.nm 4) (cSl (cVar 4) none (some (cC (.int 36))))) cSkip (V17 (some (script ns)) (some (.node .lst true es)) (some (.node .lst true (L.map pl))) (some (.node .lst true (W.map pl))) (some (IL true t)) (some (IL true dr)) x6 none none none none none none none) = .nx (V17 (some (script ns)) (some (.node .lst true es)) (some (LD L)) (some (.node .lst true (W.map pl))) (some (IL true t1)) (some (IL true dr)) x6 none none none none none none none) := by
    have c := gt_ok (fb := cC (.int 50)) (j := 50) m7 rfl
    by_cases h : 50 < m
    · rw [decide_eq_true h] at c
      refine ⟨t.take 36, by rw [List.length_take]; omega, ifs_y c rfl ?_⟩
      have a1 : cSl (cVar 4) none (some (cC (.int 36))) (V17 (some (script ns)) (some (.node .lst true es)) (some (LD L)) (some (.node .lst true (W.map pl))) (some (IL true t)) (some (IL true dr)) x6 none none none none none none none) = .ok (.val (.node .lst true ((t.map D.int).take (36 : Int).toNat))) (V17 (some (script ns)) (some (.node .lst true es)) (some (LD L)) (some (.node .lst true (W.map pl))) (some (IL true t)) (some (IL true dr)) x6 none none none none none none none) :=
        sl_ns (k := .lst) (o := true) (VL.cvar_loc rfl rfl) rfl rfl inferInstance rfl (touch_I (o := true) (xs := t) rfl) (by decide)
      rw [← List.map_take] at a1
      exact VH.asg_go (set_val a1) rfl
    · rw [decide_eq_false h] at c
      exact ⟨t, ht2, ifs_n c rfl rfl⟩
  obtain ⟨t1, ht1, s7⟩ := s7
  have l8 := signs_lc dL (some (script ns)) (some (.node .lst true es)) (some (.node .lst true (W.map pl))) t1 (by omega) (some (IL true dr)) x6 true
  have hsg : ∀ x ∈ t1.filter (fun x => decide (x ∈ L.map (·.1))), x ∈ L.map (·.1) := fun x hx => of_decide_eq_true (List.mem_filter.mp hx).2
  have hsl : (t1.filter (fun x => decide (x ∈ L.map (·.1)))).length ≤ 200 := Nat.le_trans (List.length_filter_le _ _) ht1
  revert l8 hsg hsl
  generalize (t1.filter fun x => decide (x ∈ L.map (·.1))) = sg
  intro l8 hsg hsl
  have l9 := strangers_lc dW (some (script ns)) (some (.node .lst true es)) (some (LD L)) (some (IL false t1)) (some (IL true dr)) x6 (some (IL true sg))
  have hst : 0 < ((List.range 256).filter fun x => decide (((x : Nat) : Int) ∉ W.map (·.1))).length := by
    refine List.length_pos_of_mem (a := 255) (List.mem_filter.mpr ⟨List.mem_range.mpr (by decide), decide_eq_true fun h => ?_⟩)
    obtain ⟨p, hp, e⟩ := List.mem_map.mp h
    have := (dW.lo p hp).2
    have e : p.1 = 255 := e
    omega
  have hst2 : ((List.range 256).filter fun x => decide (((x : Nat) : Int) ∉ W.map (·.1))).length < 1000 := Nat.lt_of_le_of_lt (List.length_filter_le _ _) (by rw [List.length_range]; decide)
  revert l9 hst hst2
  generalize ((List.range 256).filter fun x => decide (((x : Nat) : Int) ∉ W.map (·.1))) = st
  intro l9 hst hst2
  obtain ⟨v, ds2, e10, v1, v2, h10, h11⟩ := dp (r := T17 (script ns) es (some (LD L)) (some (.node .lst true (W.map pl))) false t1 (some (IL true dr)) x6 (some (IL true sg)) st none none) (ds := es) (fm := cC (.int 3)) (m := 3) rfl hes0 hes (set_val rfl) (by decide) (by decide)
  obtain ⟨ds3, o3, t2, x9, x10, e11, ht3⟩ := st_loop (script ns) (some (LD L)) (some (.node .lst true (W.map pl))) (some (IL true dr)) x6 (some (IL true sg)) st hst hst2 (rngD 0 1 v.toNat) ds2 false t1 none none h10 h11 (by unfold rngD; rw [List.length_map, List.length_range]; omega)
  have ht4 : t2.length ≤ 300 := by
    unfold rngD at ht3
    rw [List.length_map, List.length_range] at ht3
    omega
  have s10 : cFor (.nm 9) (iRng rngI1 (cCons (cCallP 1 1 F__law_draw (cC (.int 0)) (cCons (cSet (cC (.int 3))) cNil)) cNil)) stB (T17 (script ns) es (some (LD L)) (some (.node .lst true (W.map pl))) false t1 (some (IL true dr)) x6 (some (IL true sg)) st none none) = .nx (T17 (script ns) ds3 (some (LD L)) (some (.node .lst true (W.map pl))) o3 t2 (some (IL true dr)) x6 (some (IL true sg)) st x9 x10) :=
    for_go (it_rngI e10 (by unfold within; exact decide_eq_true (by omega))) e11
  have i11 : iLst (cLst (cCons (cSet (cTup (cCons (cSet (cVar 4)) (cCons (cSet (cVar 2)) cNil)))) (cCons (cSet (cTup (cCons (cSet (cVar 4)) (cCons (cSet (cVar 3)) cNil)))) (cCons (cSet (cTup (cCons (cSet (cVar 7)) (cCons (cSet (cVar 2)) cNil)))) (cCons (cSet (cTup (cCons (cSet (cLst cNil)) (cCons (cSet (cVar 3)) cNil)))) (cCons (cSet (cTup (cCons (cSet (cLst cNil)) (cCons (cSet (cLst cNil)) cNil)))) cNil)))))) (T17 (script ns) ds3 (some (LD L)) (some (.node .lst true (W.map pl))) o3 t2 (some (IL true dr)) x6 (some (IL true sg)) st x9 x10) = .ok [.node .tup false [IL false t2, LD L], .node .tup false [IL false t2, LD W], .node .tup false [IL false sg, LD L], .node .tup false [.node .lst true [], LD W], .node .tup false [.node .lst true [], .node .lst true []]] (T17 (script ns) ds3 (some (LD L)) (some (LD W)) false t2 (some (IL true dr)) x6 (some (IL false sg)) st x9 x10) := by
    walk_at "ev"
  have e12 := cr5 (some (script ns)) (some (.node .lst true ds3)) (some (IL true dr)) x6 (some (.node .lst true (st.map nt))) x9 x10 (t := t2) (sg := sg) (by omega) (by omega) dL dW (by omega) (by omega)
  have s12 : cAsg (.nm 13) (cSl (cVar 5) none (some (cC (.int 9)))) (V17 (some (script ns)) (some (.node .lst true ds3)) (some (LD L)) (some (LD W)) (some (IL false t2)) (some (IL true dr)) x6 (some (IL false sg)) (some (.node .lst true (st.map nt))) x9 x10 (some (.node .lst true [])) (some (.node .lst true [])) none) = .nx (V17 (some (script ns)) (some (.node .lst true ds3)) (some (LD L)) (some (LD W)) (some (IL false t2)) (some (IL true dr)) x6 (some (IL false sg)) (some (.node .lst true (st.map nt))) x9 x10 (some (.node .lst true [])) (some (.node .lst true [])) (some (IL true (dr.take 9)))) := by
    have a1 : cSl (cVar 5) none (some (cC (.int 9))) (V17 (some (script ns)) (some (.node .lst true ds3)) (some (LD L)) (some (LD W)) (some (IL false t2)) (some (IL true dr)) x6 (some (IL false sg)) (some (.node .lst true (st.map nt))) x9 x10 (some (.node .lst true [])) (some (.node .lst true [])) none) = .ok (.val (.node .lst true ((dr.map D.int).take (9 : Int).toNat))) (V17 (some (script ns)) (some (.node .lst true ds3)) (some (LD L)) (some (LD W)) (some (IL false t2)) (some (IL true dr)) x6 (some (IL false sg)) (some (.node .lst true (st.map nt))) x9 x10 (some (.node .lst true [])) (some (.node .lst true [])) none) :=
      sl_ns (k := .lst) (o := true) (VL.cvar_loc rfl rfl) rfl rfl inferInstance rfl (touch_I (o := true) (xs := dr) rfl) (by decide)
    rw [← List.map_take] at a1
    exact VH.asg_go (set_val a1) rfl
  have lc := lcoded_ok gL sg (by omega) hsg
  have hcl : (cat (Wt L) sg).length < 100000 := by
    have : ∀ t : List Int, (∀ s ∈ t, s ∈ L.map (·.1)) → (cat (Wt L) t).length ≤ 256 * t.length := fun t => by
      induction t with
      | nil => intro _; exact Nat.le_refl _
      | cons s t ih =>
        intro h
        have h2 := ih fun x hx => h x (List.mem_cons_of_mem _ hx)
        have h3 : (look (Wt L) s).length ≤ 256 := Wt_word gL.le _ (look_mem (Wt_mem.mpr (h s List.mem_cons_self)))
        rw [cat_cons, List.length_append, List.length_cons]
        omega
    have := this sg hsg
    omega
  have ar := all_read_ok (a := dr.take 9) (b := cat (Wt L) sg) (dr := dr) (s := sg) dL dW (by omega) (by omega) (by rw [List.length_take]; omega) hcl (by omega) (by omega)
  have c1 : F_coded [.node .lst false [], .node .lst false []] = .ok (.node .lst true []) := coded_ok good_nil [] (by decide) (fun s hs => (by cases hs))
  have c2 : F_decoded [IL false dr, .int (((dr.take 9).length : Nat) : Int), .node .lst false [], .int 0] = .ok (.node .tup false [.node .lst false [], .int (((dr.take 9).length : Nat) : Int)]) := by
    have h := decoded_ok good_nil dr (by omega) (dr.take 9).length 0 (by rw [List.length_take]; omega) (by decide)
    have e : decN (Wt []) 0 (dr.drop (dr.take 9).length) = some ([], dr.drop (dr.take 9).length) := rfl
    rw [e] at h
    have e9 : dr.length - (dr.drop (dr.take 9).length).length = (dr.take 9).length := by rw [List.length_drop, List.length_take]; omega
    have h : F_decoded [IL false dr, .int (((dr.take 9).length : Nat) : Int), .node .lst false [], .int 0] = .ok (.node .tup false [.node .lst false [], nt (dr.length - (dr.drop (dr.take 9).length).length)]) := h
    rw [e9] at h
    exact h
  have q1 : eqD (.node .lst true []) (.node .lst true []) = some (.bl true) := eqD_same (k := 1) (fp_lst (k := 0) fun x hx => by cases hx) (by decide) rfl
  have q2 : eqD (.node .tup false [.node .lst false [], .int (((dr.take 9).length : Nat) : Int)]) (.node .tup false [.node .lst true [], .int (((dr.take 9).length : Nat) : Int)]) = some (.bl true) := eqD_same (k := 2) (fp_tup (k := 1) fun y hy => by
    simp only [List.mem_cons, List.not_mem_nil, or_false] at hy
    rcases hy with rfl | rfl
    · exact fp_lst (k := 0) fun x hx => by cases hx
    · exact fp_int _ 1) (by decide) rfl
  have g13 : cNot (cCall 6 F__law_all_read (cCons (cVar 13) (cCons (cBin gIx (cCall 2 F__law_coded (cCons (cVar 7) (cCons (cVar 2) cNil))) (cC (.int 1))) (cCons (cVar 5) (cCons (cVar 2) (cCons (cVar 3) (cCons (cVar 7) cNil))))))) (V17 (some (script ns)) (some (.node .lst true ds3)) (some (LD L)) (some (LD W)) (some (IL false t2)) (some (IL true dr)) x6 (some (IL false sg)) (some (.node .lst true (st.map nt))) x9 x10 (some (.node .lst true [])) (some (.node .lst true [])) (some (IL true (dr.take 9)))) = .ok (.val (.bl false)) (V17 (some (script ns)) (some (.node .lst true ds3)) (some (LD L)) (some (LD W)) (some (IL false t2)) (some (IL true dr)) x6 (some (IL false sg)) (some (.node .lst true (st.map nt))) x9 x10 (some (.node .lst true [])) (some (.node .lst true [])) (some (IL true (dr.take 9)))) := by
    walk_at "ev"
  have g14 : cAnd (cBin gEq (cCall 2 F_coded (cCons (cLst cNil) (cCons (cLst cNil) cNil))) (cLst cNil)) (cBin gEq (cCall 4 F_decoded (cCons (cVar 5) (cCons (cB (b1 lenD) (cCons (cVar 13) cNil)) (cCons (cLst cNil) (cCons (cC (.int 0)) cNil))))) (cTup (cCons (cSet (cLst cNil)) (cCons (cSet (cB (b1 lenD) (cCons (cVar 13) cNil))) cNil)))) (V17 (some (script ns)) (some (.node .lst true ds3)) (some (LD L)) (some (LD W)) (some (IL false t2)) (some (IL true dr)) x6 (some (IL false sg)) (some (.node .lst true (st.map nt))) x9 x10 (some (.node .lst true [])) (some (.node .lst true [])) (some (IL true (dr.take 9)))) = .ok (.val (.bl true)) ((V17 (some (script ns)) (some (.node .lst true ds3)) (some (LD L)) (some (LD W)) (some (IL false t2)) (some (IL false dr)) x6 (some (IL false sg)) (some (.node .lst true (st.map nt))) x9 x10 (some (.node .lst true [])) (some (.node .lst true [])) (some (IL true (dr.take 9))))) := by
    have f1 : cCall 2 F_coded (cCons (cLst cNil) (cCons (cLst cNil) cNil)) (V17 (some (script ns)) (some (.node .lst true ds3)) (some (LD L)) (some (LD W)) (some (IL false t2)) (some (IL true dr)) x6 (some (IL false sg)) (some (.node .lst true (st.map nt))) x9 x10 (some (.node .lst true [])) (some (.node .lst true [])) (some (IL true (dr.take 9)))) = .ok (.val (.node .lst true [])) (V17 (some (script ns)) (some (.node .lst true ds3)) (some (LD L)) (some (LD W)) (some (IL false t2)) (some (IL true dr)) x6 (some (IL false sg)) (some (.node .lst true (st.map nt))) x9 x10 (some (.node .lst true [])) (some (.node .lst true [])) (some (IL true (dr.take 9)))) := call_go (cons_ok (x := .val (.node .lst true [])) rfl (cons_ok (x := .val (.node .lst true [])) rfl (nil_ok _))) rfl inferInstance rfl c1 inferInstance
    have f2 := eqD_go (fb := cLst cNil) f1 (y := .val (.node .lst true [])) (r2 := V17 (some (script ns)) (some (.node .lst true ds3)) (some (LD L)) (some (LD W)) (some (IL false t2)) (some (IL true dr)) x6 (some (IL false sg)) (some (.node .lst true (st.map nt))) x9 x10 (some (.node .lst true [])) (some (.node .lst true [])) (some (IL true (dr.take 9)))) rfl rfl rfl q1
    have l5 : cB (b1 lenD) (cCons (cVar 13) cNil) (V17 (some (script ns)) (some (.node .lst true ds3)) (some (LD L)) (some (LD W)) (some (IL false t2)) (some (IL true dr)) x6 (some (IL false sg)) (some (.node .lst true (st.map nt))) x9 x10 (some (.node .lst true [])) (some (.node .lst true [])) (some (IL true (dr.take 9)))) = .ok (.val (.int (((dr.take 9).length : Nat) : Int))) (V17 (some (script ns)) (some (.node .lst true ds3)) (some (LD L)) (some (LD W)) (some (IL false t2)) (some (IL true dr)) x6 (some (IL false sg)) (some (.node .lst true (st.map nt))) x9 x10 (some (.node .lst true [])) (some (.node .lst true [])) (some (IL true (dr.take 9)))) := by walk_at "ev"
    have l6 : cB (b1 lenD) (cCons (cVar 13) cNil) ((V17 (some (script ns)) (some (.node .lst true ds3)) (some (LD L)) (some (LD W)) (some (IL false t2)) (some (IL false dr)) x6 (some (IL false sg)) (some (.node .lst true (st.map nt))) x9 x10 (some (.node .lst true [])) (some (.node .lst true [])) (some (IL true (dr.take 9))))) = .ok (.val (.int (((dr.take 9).length : Nat) : Int))) ((V17 (some (script ns)) (some (.node .lst true ds3)) (some (LD L)) (some (LD W)) (some (IL false t2)) (some (IL false dr)) x6 (some (IL false sg)) (some (.node .lst true (st.map nt))) x9 x10 (some (.node .lst true [])) (some (.node .lst true [])) (some (IL true (dr.take 9))))) := by walk_at "ev"
    have f3 : cCall 4 F_decoded (cCons (cVar 5) (cCons (cB (b1 lenD) (cCons (cVar 13) cNil)) (cCons (cLst cNil) (cCons (cC (.int 0)) cNil)))) (V17 (some (script ns)) (some (.node .lst true ds3)) (some (LD L)) (some (LD W)) (some (IL false t2)) (some (IL true dr)) x6 (some (IL false sg)) (some (.node .lst true (st.map nt))) x9 x10 (some (.node .lst true [])) (some (.node .lst true [])) (some (IL true (dr.take 9)))) = .ok (.val (.node .tup false [.node .lst false [], .int (((dr.take 9).length : Nat) : Int)])) ((V17 (some (script ns)) (some (.node .lst true ds3)) (some (LD L)) (some (LD W)) (some (IL false t2)) (some (IL false dr)) x6 (some (IL false sg)) (some (.node .lst true (st.map nt))) x9 x10 (some (.node .lst true [])) (some (.node .lst true [])) (some (IL true (dr.take 9))))) := by
      refine call_set (xs := [.loc 5, .val (.int (((dr.take 9).length : Nat) : Int)), .val (.node .lst true []), .val (.int 0)]) (ds := [IL true dr, .int (((dr.take 9).length : Nat) : Int), .node .lst true [], .int 0]) (cons_ok (VL.cvar_loc rfl rfl) (cons_ok l5 (cons_ok rfl (cons_ok rfl (nil_ok _))))) rfl (inferInstance : Fzs [IL true dr, .int (((dr.take 9).length : Nat) : Int), .node .lst true [], .int 0] [IL false dr, .int (((dr.take 9).length : Nat) : Int), .node .lst false [], .int 0]) rfl c2 rfl ?_
      walk_at "se"
    refine VH.and_go f2 (eqD_go f3 (y := .val (.node .tup false [.node .lst true [], .int (((dr.take 9).length : Nat) : Int)])) (r2 := (V17 (some (script ns)) (some (.node .lst true ds3)) (some (LD L)) (some (LD W)) (some (IL false t2)) (some (IL false dr)) x6 (some (IL false sg)) (some (.node .lst true (st.map nt))) x9 x10 (some (.node .lst true [])) (some (.node .lst true [])) (some (IL true (dr.take 9))))) ?_ rfl rfl q2)
    exact tup_ok (cons_ok (set_val rfl) (cons_ok (set_val l6) (nil_ok _))) rfl (Nat.le_of_ble_eq_true rfl)
  unfold F_law f_law
  refine runF_go (x := .val (.bl true)) (r1 := (V17 (some (script ns)) (some (.node .lst true ds3)) (some (LD L)) (some (LD W)) (some (IL false t2)) (some (IL false dr)) x6 (some (IL false sg)) (some (.node .lst true (st.map nt))) x9 x10 (some (.node .lst true [])) (some (.node .lst true [])) (some (IL true (dr.take 9))))) (r := V17 (some (script ns)) none none none none none none none none none none none none none) (by walk_at "start") ?_ rfl
  refine seq_go s1 ?_
  refine seq_go s2 ?_
  refine seq_go s3 ?_
  refine seq_go s4 ?_
  refine seq_go (r1 := V17 (some (script ns)) (some (.node .lst true ds)) (some (.node .lst true (L.map pl))) (some (.node .lst true (W.map pl))) (some (IL true [])) none none none none none none none none none) (VH.asg_go (set_val rfl) rfl) ?_
  refine seq_go (r1 := V17 (some (script ns)) (some (.node .lst true ds)) (some (.node .lst true (L.map pl))) (some (.node .lst true (W.map pl))) (some (IL true [])) (some (IL true [])) none none none none none none none none) (VH.asg_go (set_val rfl) rfl) ?_
  refine seq_go e6 ?_
  refine seq_go s7 ?_
  refine seq_go (VH.asg_go (set_val l8) rfl) ?_
  refine seq_go (VH.asg_go (set_val l9) rfl) ?_
  refine seq_go s10 ?_
  refine seq_go (for_go i11 e12) ?_
  refine seq_go s12 ?_
  refine seq_go (ifs_n (r1 := V17 (some (script ns)) (some (.node .lst true ds3)) (some (LD L)) (some (LD W)) (some (IL false t2)) (some (IL true dr)) x6 (some (IL false sg)) (some (.node .lst true (st.map nt))) x9 x10 (some (.node .lst true [])) (some (.node .lst true [])) (some (IL true (dr.take 9)))) g13 rfl rfl) ?_
  exact ret_go g14
end K10.Co
namespace K10
open VL
theorem law_plain (ns : List Int) (hl : ns.length ≤ 63) : F_law [script ns] = .ok (.bl true) := Co.law_plain0 ns hl
end K10

namespace K10
open PySem PySem.Spec PyProof.Rows L2 VL
def top (i : Nat) : Stmt := PySem.Challenge.pw_packhall_k10_coded_and_decoded.main.body.getD i (.Pass ⟨0, 0, 0, 0⟩)
abbrev s__law_decks : Stmt := top 22
def N__law_decks : List Str := ["script", "cells", "k"]
theorem sc__law_decks : FnScope N__law_decks ["script"] (defScope s__law_decks) := ⟨rfl, rfl, rfl, by decide +kernel, rfl, by decide +kernel, by decide +kernel⟩
abbrev s__law_draw : Stmt := top 21
def N__law_draw : List Str := ["deck", "many", "found", "number"]
theorem sc__law_draw : FnScope N__law_draw ["deck", "many"] (defScope s__law_draw) := ⟨rfl, rfl, rfl, by decide +kernel, rfl, by decide +kernel, by decide +kernel⟩
abbrev s__law_drawn_lengths : Stmt := top 23
def N__law_drawn_lengths : List Str := ["script", "most", "lengths", "sign", "deck"]
theorem sc__law_drawn_lengths : FnScope N__law_drawn_lengths ["script", "most"] (defScope s__law_drawn_lengths) := ⟨rfl, rfl, rfl, by decide +kernel, rfl, by decide +kernel, by decide +kernel⟩
abbrev s__law_let : Stmt := top 24
def N__law_let : List Str := ["lengths", "whole", "total", "sign", "length", "part", "k"]
theorem sc__law_let : FnScope N__law_let ["lengths"] (defScope s__law_let) := ⟨rfl, rfl, rfl, by decide +kernel, rfl, by decide +kernel, by decide +kernel⟩
abbrev s_room_of : Stmt := top 15
def N_room_of : List Str := ["length", "found", "k"]
theorem sc_room_of : FnScope N_room_of ["length"] (defScope s_room_of) := ⟨rfl, rfl, rfl, by decide +kernel, rfl, by decide +kernel, by decide +kernel⟩
abbrev s_need_words : Stmt := top 16
def N_need_words : List Str := ["lengths", "sign", "length"]
theorem sc_need_words : FnScope N_need_words ["lengths"] (defScope s_need_words) := ⟨rfl, rfl, rfl, by decide +kernel, rfl, by decide +kernel, by decide +kernel⟩
abbrev s_figures_of : Stmt := top 10
def N_figures_of : List Str := ["n", "found"]
theorem sc_figures_of : FnScope N_figures_of ["n"] (defScope s_figures_of) := ⟨rfl, rfl, rfl, by decide +kernel, rfl, by decide +kernel, by decide +kernel⟩
abbrev s_low_bits : Stmt := top 11
def N_low_bits : List Str := ["n", "k", "found"]
theorem sc_low_bits : FnScope N_low_bits ["n", "k"] (defScope s_low_bits) := ⟨rfl, rfl, rfl, by decide +kernel, rfl, by decide +kernel, by decide +kernel⟩
abbrev s_words_by : Stmt := top 17
def N_words_by : List Str := ["lengths", "found", "number", "ahead", "length", "sign", "k"]
theorem sc_words_by : FnScope N_words_by ["lengths"] (defScope s_words_by) := ⟨rfl, rfl, rfl, by decide +kernel, rfl, by decide +kernel, by decide +kernel⟩
abbrev s_coded : Stmt := top 18
def N_coded : List Str := ["text", "lengths", "words", "found", "sign"]
theorem sc_coded : FnScope N_coded ["text", "lengths"] (defScope s_coded) := ⟨rfl, rfl, rfl, by decide +kernel, rfl, by decide +kernel, by decide +kernel⟩
abbrev s_decoded : Stmt := top 19
def N_decoded : List Str := ["bits", "at", "lengths", "many", "signs", "sign", "word", "text", "place", "k"]
theorem sc_decoded : FnScope N_decoded ["bits", "at", "lengths", "many"] (defScope s_decoded) := ⟨rfl, rfl, rfl, by decide +kernel, rfl, by decide +kernel, by decide +kernel⟩
abbrev s__law_kind : Stmt := top 27
def N__law_kind : List Str := ["way", "one", "two", "lengths", "many", "caught", "found", "e", "some"]
theorem sc__law_kind : FnScope N__law_kind ["way", "one", "two", "lengths", "many"] (defScope s__law_kind) := ⟨rfl, rfl, rfl, by decide +kernel, rfl, by decide +kernel, by decide +kernel⟩
abbrev s__law_words : Stmt := top 25
def N__law_words : List Str := ["lengths", "found", "bits", "length", "sign", "at"]
theorem sc__law_words : FnScope N__law_words ["lengths"] (defScope s__law_words) := ⟨rfl, rfl, rfl, by decide +kernel, rfl, by decide +kernel, by decide +kernel⟩
abbrev s__law_decoded : Stmt := top 29
def N__law_decoded : List Str := ["bits", "at", "lengths", "many", "words", "text", "k", "here", "sign", "word"]
theorem sc__law_decoded : FnScope N__law_decoded ["bits", "at", "lengths", "many"] (defScope s__law_decoded) := ⟨rfl, rfl, rfl, by decide +kernel, rfl, by decide +kernel, by decide +kernel⟩
abbrev s__law_read_right : Stmt := top 31
def N__law_read_right : List Str := ["bits", "at", "lengths", "many", "handed", "found"]
theorem sc__law_read_right : FnScope N__law_read_right ["bits", "at", "lengths", "many"] (defScope s__law_read_right) := ⟨rfl, rfl, rfl, by decide +kernel, rfl, by decide +kernel, by decide +kernel⟩
abbrev s__law_all_read : Stmt := top 33
def N__law_all_read : List Str := ["ahead", "bits", "drawn", "lengths", "whole", "signs", "long", "many", "at"]
theorem sc__law_all_read : FnScope N__law_all_read ["ahead", "bits", "drawn", "lengths", "whole", "signs"] (defScope s__law_all_read) := ⟨rfl, rfl, rfl, by decide +kernel, rfl, by decide +kernel, by decide +kernel⟩
abbrev s__law_bits : Stmt := top 26
def N__law_bits : List Str := ["deck", "most", "k"]
theorem sc__law_bits : FnScope N__law_bits ["deck", "most"] (defScope s__law_bits) := ⟨rfl, rfl, rfl, by decide +kernel, rfl, by decide +kernel, by decide +kernel⟩
abbrev s__law_coded : Stmt := top 28
def N__law_coded : List Str := ["text", "lengths", "words", "found", "sign"]
theorem sc__law_coded : FnScope N__law_coded ["text", "lengths"] (defScope s__law_coded) := ⟨rfl, rfl, rfl, by decide +kernel, rfl, by decide +kernel, by decide +kernel⟩
abbrev s__law_bits_right : Stmt := top 30
def N__law_bits_right : List Str := ["found", "bit"]
theorem sc__law_bits_right : FnScope N__law_bits_right ["found"] (defScope s__law_bits_right) := ⟨rfl, rfl, rfl, by decide +kernel, rfl, by decide +kernel, by decide +kernel⟩
abbrev s__law_coded_right : Stmt := top 32
def N__law_coded_right : List Str := ["row", "some", "handed", "found"]
theorem sc__law_coded_right : FnScope N__law_coded_right ["row", "some"] (defScope s__law_coded_right) := ⟨rfl, rfl, rfl, by decide +kernel, rfl, by decide +kernel, by decide +kernel⟩
abbrev s_law : Stmt := top 34
def N_law : List Str := ["script", "decks", "lengths", "whole", "text", "drawn", "deck", "signs", "strangers", "turn", "at", "row", "some", "ahead", "sign", "k", "length"]
theorem sc_law : FnScope N_law ["script"] (defScope s_law) := ⟨rfl, rfl, rfl, by decide +kernel, rfl, by decide +kernel, by decide +kernel⟩
def S__law_decks_1 : List (Str × NameKind) := [(".0", .local), ("k", .local), ("len", .globalImplicit), ("cells", .free), ("script", .free)]
def S__law_let_1 : List (Str × NameKind) := [(".0", .local), ("sign", .local), ("length", .local)]
def S_need_words_1 : List (Str × NameKind) := [(".0", .local), ("sign", .local), ("length", .local), ("LONGEST", .globalImplicit)]
def S_need_words_2 : List (Str × NameKind) := [(".0", .local), ("sign", .local), ("length", .local), ("room_of", .globalImplicit)]
def S_words_by_1 : List (Str × NameKind) := [(".0", .local), ("sign", .local), ("length", .local)]
def S__law_words_1 : List (Str × NameKind) := [(".0", .local), ("sign", .local), ("length", .local)]
def S__law_decoded_1 : List (Str × NameKind) := [(".0", .local), ("sign", .local), ("word", .local), ("len", .globalImplicit), ("at", .free), ("bits", .free)]
def S__law_bits_1 : List (Str × NameKind) := [(".0", .local), ("k", .local), ("_law_draw", .globalImplicit), ("deck", .free)]
def S__law_bits_right_1 : List (Str × NameKind) := [(".0", .local), ("bit", .local), ("isinstance", .globalImplicit), ("int", .globalImplicit), ("bool", .globalImplicit)]
def S_law_1 : List (Str × NameKind) := [(".0", .local), ("k", .local), ("_law_draw", .globalImplicit), ("max", .globalImplicit), ("len", .globalImplicit), ("deck", .free), ("lengths", .free), ("whole", .free)]
def S_law_2 : List (Str × NameKind) := [(".0", .local), ("sign", .local), ("length", .local)]
def S_law_3 : List (Str × NameKind) := [(".0", .local), ("sign", .local), ("dict", .globalImplicit), ("lengths", .free)]
def S_law_4 : List (Str × NameKind) := [(".0", .local), ("sign", .local), ("dict", .globalImplicit), ("whole", .free)]
theorem i__law_decks_script : N__law_decks[0]? = some ("script" : Str) := rfl
theorem k__law_decks_script : List.lookup ("script" : Str) (defScope s__law_decks).names = some .cell := by decide +kernel
theorem d_script : (("script" : Str) == ("__debug__" : Str)) = false := by decide +kernel
theorem e_script : (("script" : Str) == ("__classdict__" : Str)) = false := by decide +kernel
theorem i__law_decks_cells : N__law_decks[1]? = some ("cells" : Str) := rfl
theorem k__law_decks_cells : List.lookup ("cells" : Str) (defScope s__law_decks).names = some .cell := by decide +kernel
theorem d_cells : (("cells" : Str) == ("__debug__" : Str)) = false := by decide +kernel
theorem e_cells : (("cells" : Str) == ("__classdict__" : Str)) = false := by decide +kernel
theorem k__law_decks_len : List.lookup ("len" : Str) (defScope s__law_decks).names = some .globalImplicit := by decide +kernel
theorem v_len : bootBuiltins "len" = some (.builtin "len") := rfl
theorem nn_len : ("len" : Str) ≠ "__name__" := by decide +kernel
theorem d_len : (("len" : Str) == ("__debug__" : Str)) = false := by decide +kernel
theorem k__law_decks_range : List.lookup ("range" : Str) (defScope s__law_decks).names = some .globalImplicit := by decide +kernel
theorem i__law_decks_k : N__law_decks[2]? = some ("k" : Str) := rfl
theorem k__law_decks_1_k : List.lookup ("k" : Str) S__law_decks_1 = some .local := by decide +kernel
theorem k__law_decks_1_cells : List.lookup ("cells" : Str) S__law_decks_1 = some .free := by decide +kernel
theorem d_k : (("k" : Str) == ("__debug__" : Str)) = false := by decide +kernel
theorem e_k : (("k" : Str) == ("__classdict__" : Str)) = false := by decide +kernel
theorem k__law_decks_1_script : List.lookup ("script" : Str) S__law_decks_1 = some .free := by decide +kernel
theorem k__law_decks_1_len : List.lookup ("len" : Str) S__law_decks_1 = some .globalImplicit := by decide +kernel
theorem i__law_draw_deck : N__law_draw[0]? = some ("deck" : Str) := rfl
theorem k__law_draw_deck : List.lookup ("deck" : Str) (defScope s__law_draw).names = some .local := by decide +kernel
theorem d_deck : (("deck" : Str) == ("__debug__" : Str)) = false := by decide +kernel
theorem e_deck : (("deck" : Str) == ("__classdict__" : Str)) = false := by decide +kernel
theorem i__law_draw_many : N__law_draw[1]? = some ("many" : Str) := rfl
theorem k__law_draw_many : List.lookup ("many" : Str) (defScope s__law_draw).names = some .local := by decide +kernel
theorem d_many : (("many" : Str) == ("__debug__" : Str)) = false := by decide +kernel
theorem e_many : (("many" : Str) == ("__classdict__" : Str)) = false := by decide +kernel
theorem i__law_draw_found : N__law_draw[2]? = some ("found" : Str) := rfl
theorem k__law_draw_found : List.lookup ("found" : Str) (defScope s__law_draw).names = some .local := by decide +kernel
theorem d_found : (("found" : Str) == ("__debug__" : Str)) = false := by decide +kernel
theorem e_found : (("found" : Str) == ("__classdict__" : Str)) = false := by decide +kernel
theorem i__law_draw_number : N__law_draw[3]? = some ("number" : Str) := rfl
theorem k__law_draw_number : List.lookup ("number" : Str) (defScope s__law_draw).names = some .local := by decide +kernel
theorem d_number : (("number" : Str) == ("__debug__" : Str)) = false := by decide +kernel
theorem e_number : (("number" : Str) == ("__classdict__" : Str)) = false := by decide +kernel
theorem i__law_drawn_lengths_lengths : N__law_drawn_lengths[2]? = some ("lengths" : Str) := rfl
theorem k__law_drawn_lengths_lengths : List.lookup ("lengths" : Str) (defScope s__law_drawn_lengths).names = some .local := by decide +kernel
theorem i__law_drawn_lengths_sign : N__law_drawn_lengths[3]? = some ("sign" : Str) := rfl
theorem k__law_drawn_lengths_sign : List.lookup ("sign" : Str) (defScope s__law_drawn_lengths).names = some .local := by decide +kernel
theorem i__law_drawn_lengths_script : N__law_drawn_lengths[0]? = some ("script" : Str) := rfl
theorem k__law_drawn_lengths_script : List.lookup ("script" : Str) (defScope s__law_drawn_lengths).names = some .local := by decide +kernel
theorem k__law_drawn_lengths__law_decks : List.lookup ("_law_decks" : Str) (defScope s__law_drawn_lengths).names = some .globalImplicit := by decide +kernel
theorem d__law_decks : (("_law_decks" : Str) == ("__debug__" : Str)) = false := by decide +kernel
theorem i__law_drawn_lengths_most : N__law_drawn_lengths[1]? = some ("most" : Str) := rfl
theorem k__law_drawn_lengths_most : List.lookup ("most" : Str) (defScope s__law_drawn_lengths).names = some .local := by decide +kernel
theorem d_most : (("most" : Str) == ("__debug__" : Str)) = false := by decide +kernel
theorem e_most : (("most" : Str) == ("__classdict__" : Str)) = false := by decide +kernel
theorem i__law_drawn_lengths_deck : N__law_drawn_lengths[4]? = some ("deck" : Str) := rfl
theorem k__law_drawn_lengths_deck : List.lookup ("deck" : Str) (defScope s__law_drawn_lengths).names = some .local := by decide +kernel
theorem d_sign : (("sign" : Str) == ("__debug__" : Str)) = false := by decide +kernel
theorem e_sign : (("sign" : Str) == ("__classdict__" : Str)) = false := by decide +kernel
theorem k__law_drawn_lengths__law_draw : List.lookup ("_law_draw" : Str) (defScope s__law_drawn_lengths).names = some .globalImplicit := by decide +kernel
theorem d__law_draw : (("_law_draw" : Str) == ("__debug__" : Str)) = false := by decide +kernel
theorem d_lengths : (("lengths" : Str) == ("__debug__" : Str)) = false := by decide +kernel
theorem e_lengths : (("lengths" : Str) == ("__classdict__" : Str)) = false := by decide +kernel
theorem i__law_let_lengths : N__law_let[0]? = some ("lengths" : Str) := rfl
theorem k__law_let_lengths : List.lookup ("lengths" : Str) (defScope s__law_let).names = some .local := by decide +kernel
theorem i__law_let_length : N__law_let[4]? = some ("length" : Str) := rfl
theorem k__law_let_1_length : List.lookup ("length" : Str) S__law_let_1 = some .local := by decide +kernel
theorem i__law_let_sign : N__law_let[3]? = some ("sign" : Str) := rfl
theorem k__law_let_1_sign : List.lookup ("sign" : Str) S__law_let_1 = some .local := by decide +kernel
theorem d_length : (("length" : Str) == ("__debug__" : Str)) = false := by decide +kernel
theorem e_length : (("length" : Str) == ("__classdict__" : Str)) = false := by decide +kernel
theorem k__law_let_max : List.lookup ("max" : Str) (defScope s__law_let).names = some .globalImplicit := by decide +kernel
theorem v_max : bootBuiltins "max" = some (.builtin "max") := rfl
theorem nn_max : ("max" : Str) ≠ "__name__" := by decide +kernel
theorem d_max : (("max" : Str) == ("__debug__" : Str)) = false := by decide +kernel
theorem i__law_let_whole : N__law_let[1]? = some ("whole" : Str) := rfl
theorem k__law_let_whole : List.lookup ("whole" : Str) (defScope s__law_let).names = some .local := by decide +kernel
theorem i__law_let_total : N__law_let[2]? = some ("total" : Str) := rfl
theorem k__law_let_total : List.lookup ("total" : Str) (defScope s__law_let).names = some .local := by decide +kernel
theorem k__law_let_length : List.lookup ("length" : Str) (defScope s__law_let).names = some .local := by decide +kernel
theorem k__law_let_sign : List.lookup ("sign" : Str) (defScope s__law_let).names = some .local := by decide +kernel
theorem d_whole : (("whole" : Str) == ("__debug__" : Str)) = false := by decide +kernel
theorem e_whole : (("whole" : Str) == ("__classdict__" : Str)) = false := by decide +kernel
theorem i__law_let_part : N__law_let[5]? = some ("part" : Str) := rfl
theorem k__law_let_part : List.lookup ("part" : Str) (defScope s__law_let).names = some .local := by decide +kernel
theorem k__law_let_range : List.lookup ("range" : Str) (defScope s__law_let).names = some .globalImplicit := by decide +kernel
theorem i__law_let_k : N__law_let[6]? = some ("k" : Str) := rfl
theorem k__law_let_k : List.lookup ("k" : Str) (defScope s__law_let).names = some .local := by decide +kernel
theorem d_part : (("part" : Str) == ("__debug__" : Str)) = false := by decide +kernel
theorem e_part : (("part" : Str) == ("__classdict__" : Str)) = false := by decide +kernel
theorem d_total : (("total" : Str) == ("__debug__" : Str)) = false := by decide +kernel
theorem e_total : (("total" : Str) == ("__classdict__" : Str)) = false := by decide +kernel
theorem k_room_of_WHOLE : List.lookup ("WHOLE" : Str) (defScope s_room_of).names = some .globalImplicit := by decide +kernel
theorem d_WHOLE : (("WHOLE" : Str) == ("__debug__" : Str)) = false := by decide +kernel
theorem i_room_of_found : N_room_of[1]? = some ("found" : Str) := rfl
theorem k_room_of_found : List.lookup ("found" : Str) (defScope s_room_of).names = some .local := by decide +kernel
theorem i_room_of_length : N_room_of[0]? = some ("length" : Str) := rfl
theorem k_room_of_length : List.lookup ("length" : Str) (defScope s_room_of).names = some .local := by decide +kernel
theorem k_room_of_range : List.lookup ("range" : Str) (defScope s_room_of).names = some .globalImplicit := by decide +kernel
theorem i_room_of_k : N_room_of[2]? = some ("k" : Str) := rfl
theorem k_room_of_k : List.lookup ("k" : Str) (defScope s_room_of).names = some .local := by decide +kernel
theorem i_need_words_lengths : N_need_words[0]? = some ("lengths" : Str) := rfl
theorem k_need_words_lengths : List.lookup ("lengths" : Str) (defScope s_need_words).names = some .local := by decide +kernel
theorem i_need_words_length : N_need_words[2]? = some ("length" : Str) := rfl
theorem k_need_words_1_length : List.lookup ("length" : Str) S_need_words_1 = some .local := by decide +kernel
theorem i_need_words_sign : N_need_words[1]? = some ("sign" : Str) := rfl
theorem k_need_words_1_sign : List.lookup ("sign" : Str) S_need_words_1 = some .local := by decide +kernel
theorem k_need_words_1_LONGEST : List.lookup ("LONGEST" : Str) S_need_words_1 = some .globalImplicit := by decide +kernel
theorem d_LONGEST : (("LONGEST" : Str) == ("__debug__" : Str)) = false := by decide +kernel
theorem k_need_words_NoCode : List.lookup ("NoCode" : Str) (defScope s_need_words).names = some .globalImplicit := by decide +kernel
theorem d_NoCode : (("NoCode" : Str) == ("__debug__" : Str)) = false := by decide +kernel
theorem k_need_words_2_length : List.lookup ("length" : Str) S_need_words_2 = some .local := by decide +kernel
theorem k_need_words_2_sign : List.lookup ("sign" : Str) S_need_words_2 = some .local := by decide +kernel
theorem k_need_words_2_room_of : List.lookup ("room_of" : Str) S_need_words_2 = some .globalImplicit := by decide +kernel
theorem d_room_of : (("room_of" : Str) == ("__debug__" : Str)) = false := by decide +kernel
theorem k_need_words_sum : List.lookup ("sum" : Str) (defScope s_need_words).names = some .globalImplicit := by decide +kernel
theorem v_sum : bootBuiltins "sum" = some (.builtin "sum") := rfl
theorem nn_sum : ("sum" : Str) ≠ "__name__" := by decide +kernel
theorem d_sum : (("sum" : Str) == ("__debug__" : Str)) = false := by decide +kernel
theorem k_need_words_WHOLE : List.lookup ("WHOLE" : Str) (defScope s_need_words).names = some .globalImplicit := by decide +kernel
theorem i_figures_of_found : N_figures_of[1]? = some ("found" : Str) := rfl
theorem k_figures_of_found : List.lookup ("found" : Str) (defScope s_figures_of).names = some .local := by decide +kernel
theorem i_figures_of_n : N_figures_of[0]? = some ("n" : Str) := rfl
theorem k_figures_of_n : List.lookup ("n" : Str) (defScope s_figures_of).names = some .local := by decide +kernel
theorem d_n : (("n" : Str) == ("__debug__" : Str)) = false := by decide +kernel
theorem e_n : (("n" : Str) == ("__classdict__" : Str)) = false := by decide +kernel
theorem i_low_bits_n : N_low_bits[0]? = some ("n" : Str) := rfl
theorem k_low_bits_n : List.lookup ("n" : Str) (defScope s_low_bits).names = some .local := by decide +kernel
theorem k_low_bits_NoNumber : List.lookup ("NoNumber" : Str) (defScope s_low_bits).names = some .globalImplicit := by decide +kernel
theorem d_NoNumber : (("NoNumber" : Str) == ("__debug__" : Str)) = false := by decide +kernel
theorem k_low_bits_figures_of : List.lookup ("figures_of" : Str) (defScope s_low_bits).names = some .globalImplicit := by decide +kernel
theorem d_figures_of : (("figures_of" : Str) == ("__debug__" : Str)) = false := by decide +kernel
theorem i_low_bits_found : N_low_bits[2]? = some ("found" : Str) := rfl
theorem k_low_bits_found : List.lookup ("found" : Str) (defScope s_low_bits).names = some .local := by decide +kernel
theorem k_low_bits_len : List.lookup ("len" : Str) (defScope s_low_bits).names = some .globalImplicit := by decide +kernel
theorem i_low_bits_k : N_low_bits[1]? = some ("k" : Str) := rfl
theorem k_low_bits_k : List.lookup ("k" : Str) (defScope s_low_bits).names = some .local := by decide +kernel
theorem i_words_by_lengths : N_words_by[0]? = some ("lengths" : Str) := rfl
theorem k_words_by_lengths : List.lookup ("lengths" : Str) (defScope s_words_by).names = some .local := by decide +kernel
theorem k_words_by_need_words : List.lookup ("need_words" : Str) (defScope s_words_by).names = some .globalImplicit := by decide +kernel
theorem d_need_words : (("need_words" : Str) == ("__debug__" : Str)) = false := by decide +kernel
theorem i_words_by_found : N_words_by[1]? = some ("found" : Str) := rfl
theorem k_words_by_found : List.lookup ("found" : Str) (defScope s_words_by).names = some .local := by decide +kernel
theorem i_words_by_number : N_words_by[2]? = some ("number" : Str) := rfl
theorem k_words_by_number : List.lookup ("number" : Str) (defScope s_words_by).names = some .local := by decide +kernel
theorem i_words_by_ahead : N_words_by[3]? = some ("ahead" : Str) := rfl
theorem k_words_by_ahead : List.lookup ("ahead" : Str) (defScope s_words_by).names = some .local := by decide +kernel
theorem i_words_by_length : N_words_by[4]? = some ("length" : Str) := rfl
theorem k_words_by_1_length : List.lookup ("length" : Str) S_words_by_1 = some .local := by decide +kernel
theorem i_words_by_sign : N_words_by[5]? = some ("sign" : Str) := rfl
theorem k_words_by_1_sign : List.lookup ("sign" : Str) S_words_by_1 = some .local := by decide +kernel
theorem k_words_by_sorted : List.lookup ("sorted" : Str) (defScope s_words_by).names = some .globalImplicit := by decide +kernel
theorem v_sorted : bootBuiltins "sorted" = some (.builtin "sorted") := rfl
theorem nn_sorted : ("sorted" : Str) ≠ "__name__" := by decide +kernel
theorem d_sorted : (("sorted" : Str) == ("__debug__" : Str)) = false := by decide +kernel
theorem k_words_by_sign : List.lookup ("sign" : Str) (defScope s_words_by).names = some .local := by decide +kernel
theorem k_words_by_length : List.lookup ("length" : Str) (defScope s_words_by).names = some .local := by decide +kernel
theorem d_ahead : (("ahead" : Str) == ("__debug__" : Str)) = false := by decide +kernel
theorem e_ahead : (("ahead" : Str) == ("__classdict__" : Str)) = false := by decide +kernel
theorem k_words_by_range : List.lookup ("range" : Str) (defScope s_words_by).names = some .globalImplicit := by decide +kernel
theorem i_words_by_k : N_words_by[6]? = some ("k" : Str) := rfl
theorem k_words_by_k : List.lookup ("k" : Str) (defScope s_words_by).names = some .local := by decide +kernel
theorem k_words_by_low_bits : List.lookup ("low_bits" : Str) (defScope s_words_by).names = some .globalImplicit := by decide +kernel
theorem d_low_bits : (("low_bits" : Str) == ("__debug__" : Str)) = false := by decide +kernel
theorem i_coded_lengths : N_coded[1]? = some ("lengths" : Str) := rfl
theorem k_coded_lengths : List.lookup ("lengths" : Str) (defScope s_coded).names = some .local := by decide +kernel
theorem k_coded_words_by : List.lookup ("words_by" : Str) (defScope s_coded).names = some .globalImplicit := by decide +kernel
theorem d_words_by : (("words_by" : Str) == ("__debug__" : Str)) = false := by decide +kernel
theorem k_coded_dict : List.lookup ("dict" : Str) (defScope s_coded).names = some .globalImplicit := by decide +kernel
theorem v_dict : bootBuiltins "dict" = some (.type "dict") := rfl
theorem nn_dict : ("dict" : Str) ≠ "__name__" := by decide +kernel
theorem d_dict : (("dict" : Str) == ("__debug__" : Str)) = false := by decide +kernel
theorem i_coded_words : N_coded[2]? = some ("words" : Str) := rfl
theorem k_coded_words : List.lookup ("words" : Str) (defScope s_coded).names = some .local := by decide +kernel
theorem i_coded_found : N_coded[3]? = some ("found" : Str) := rfl
theorem k_coded_found : List.lookup ("found" : Str) (defScope s_coded).names = some .local := by decide +kernel
theorem i_coded_text : N_coded[0]? = some ("text" : Str) := rfl
theorem k_coded_text : List.lookup ("text" : Str) (defScope s_coded).names = some .local := by decide +kernel
theorem d_text : (("text" : Str) == ("__debug__" : Str)) = false := by decide +kernel
theorem e_text : (("text" : Str) == ("__classdict__" : Str)) = false := by decide +kernel
theorem i_coded_sign : N_coded[4]? = some ("sign" : Str) := rfl
theorem k_coded_sign : List.lookup ("sign" : Str) (defScope s_coded).names = some .local := by decide +kernel
theorem d_words : (("words" : Str) == ("__debug__" : Str)) = false := by decide +kernel
theorem e_words : (("words" : Str) == ("__classdict__" : Str)) = false := by decide +kernel
theorem k_coded_NoCode : List.lookup ("NoCode" : Str) (defScope s_coded).names = some .globalImplicit := by decide +kernel
theorem i_decoded_signs : N_decoded[4]? = some ("signs" : Str) := rfl
theorem k_decoded_signs : List.lookup ("signs" : Str) (defScope s_decoded).names = some .local := by decide +kernel
theorem i_decoded_lengths : N_decoded[2]? = some ("lengths" : Str) := rfl
theorem k_decoded_lengths : List.lookup ("lengths" : Str) (defScope s_decoded).names = some .local := by decide +kernel
theorem k_decoded_words_by : List.lookup ("words_by" : Str) (defScope s_decoded).names = some .globalImplicit := by decide +kernel
theorem i_decoded_word : N_decoded[6]? = some ("word" : Str) := rfl
theorem k_decoded_word : List.lookup ("word" : Str) (defScope s_decoded).names = some .local := by decide +kernel
theorem i_decoded_sign : N_decoded[5]? = some ("sign" : Str) := rfl
theorem k_decoded_sign : List.lookup ("sign" : Str) (defScope s_decoded).names = some .local := by decide +kernel
theorem d_word : (("word" : Str) == ("__debug__" : Str)) = false := by decide +kernel
theorem e_word : (("word" : Str) == ("__classdict__" : Str)) = false := by decide +kernel
theorem k_decoded_tuple : List.lookup ("tuple" : Str) (defScope s_decoded).names = some .globalImplicit := by decide +kernel
theorem v_tuple : bootBuiltins "tuple" = some (.type "tuple") := rfl
theorem nn_tuple : ("tuple" : Str) ≠ "__name__" := by decide +kernel
theorem d_tuple : (("tuple" : Str) == ("__debug__" : Str)) = false := by decide +kernel
theorem d_signs : (("signs" : Str) == ("__debug__" : Str)) = false := by decide +kernel
theorem e_signs : (("signs" : Str) == ("__classdict__" : Str)) = false := by decide +kernel
theorem i_decoded_at : N_decoded[1]? = some ("at" : Str) := rfl
theorem k_decoded_at : List.lookup ("at" : Str) (defScope s_decoded).names = some .local := by decide +kernel
theorem d_at : (("at" : Str) == ("__debug__" : Str)) = false := by decide +kernel
theorem e_at : (("at" : Str) == ("__classdict__" : Str)) = false := by decide +kernel
theorem i_decoded_bits : N_decoded[0]? = some ("bits" : Str) := rfl
theorem k_decoded_bits : List.lookup ("bits" : Str) (defScope s_decoded).names = some .local := by decide +kernel
theorem d_bits : (("bits" : Str) == ("__debug__" : Str)) = false := by decide +kernel
theorem e_bits : (("bits" : Str) == ("__classdict__" : Str)) = false := by decide +kernel
theorem k_decoded_len : List.lookup ("len" : Str) (defScope s_decoded).names = some .globalImplicit := by decide +kernel
theorem k_decoded_Broken : List.lookup ("Broken" : Str) (defScope s_decoded).names = some .globalImplicit := by decide +kernel
theorem d_Broken : (("Broken" : Str) == ("__debug__" : Str)) = false := by decide +kernel
theorem i_decoded_text : N_decoded[7]? = some ("text" : Str) := rfl
theorem k_decoded_text : List.lookup ("text" : Str) (defScope s_decoded).names = some .local := by decide +kernel
theorem i_decoded_place : N_decoded[8]? = some ("place" : Str) := rfl
theorem k_decoded_place : List.lookup ("place" : Str) (defScope s_decoded).names = some .local := by decide +kernel
theorem i_decoded_many : N_decoded[3]? = some ("many" : Str) := rfl
theorem k_decoded_many : List.lookup ("many" : Str) (defScope s_decoded).names = some .local := by decide +kernel
theorem k_decoded_range : List.lookup ("range" : Str) (defScope s_decoded).names = some .globalImplicit := by decide +kernel
theorem i_decoded_k : N_decoded[9]? = some ("k" : Str) := rfl
theorem k_decoded_k : List.lookup ("k" : Str) (defScope s_decoded).names = some .local := by decide +kernel
theorem d_place : (("place" : Str) == ("__debug__" : Str)) = false := by decide +kernel
theorem e_place : (("place" : Str) == ("__classdict__" : Str)) = false := by decide +kernel
theorem k_decoded_LONGEST : List.lookup ("LONGEST" : Str) (defScope s_decoded).names = some .globalImplicit := by decide +kernel
theorem i__law_kind_caught : N__law_kind[5]? = some ("caught" : Str) := rfl
theorem k__law_kind_caught : List.lookup ("caught" : Str) (defScope s__law_kind).names = some .local := by decide +kernel
theorem i__law_kind_found : N__law_kind[6]? = some ("found" : Str) := rfl
theorem k__law_kind_found : List.lookup ("found" : Str) (defScope s__law_kind).names = some .local := by decide +kernel
theorem i__law_kind_e : N__law_kind[7]? = some ("e" : Str) := rfl
theorem k__law_kind_e : List.lookup ("e" : Str) (defScope s__law_kind).names = some .local := by decide +kernel
theorem k__law_kind_PackError : List.lookup ("PackError" : Str) (defScope s__law_kind).names = some .globalImplicit := by decide +kernel
theorem d_PackError : (("PackError" : Str) == ("__debug__" : Str)) = false := by decide +kernel
theorem i__law_kind_way : N__law_kind[0]? = some ("way" : Str) := rfl
theorem k__law_kind_way : List.lookup ("way" : Str) (defScope s__law_kind).names = some .local := by decide +kernel
theorem d_way : (("way" : Str) == ("__debug__" : Str)) = false := by decide +kernel
theorem e_way : (("way" : Str) == ("__classdict__" : Str)) = false := by decide +kernel
theorem i__law_kind_one : N__law_kind[1]? = some ("one" : Str) := rfl
theorem k__law_kind_one : List.lookup ("one" : Str) (defScope s__law_kind).names = some .local := by decide +kernel
theorem d_one : (("one" : Str) == ("__debug__" : Str)) = false := by decide +kernel
theorem e_one : (("one" : Str) == ("__classdict__" : Str)) = false := by decide +kernel
theorem i__law_kind_lengths : N__law_kind[3]? = some ("lengths" : Str) := rfl
theorem k__law_kind_lengths : List.lookup ("lengths" : Str) (defScope s__law_kind).names = some .local := by decide +kernel
theorem k__law_kind_coded : List.lookup ("coded" : Str) (defScope s__law_kind).names = some .globalImplicit := by decide +kernel
theorem d_coded : (("coded" : Str) == ("__debug__" : Str)) = false := by decide +kernel
theorem i__law_kind_two : N__law_kind[2]? = some ("two" : Str) := rfl
theorem k__law_kind_two : List.lookup ("two" : Str) (defScope s__law_kind).names = some .local := by decide +kernel
theorem d_two : (("two" : Str) == ("__debug__" : Str)) = false := by decide +kernel
theorem e_two : (("two" : Str) == ("__classdict__" : Str)) = false := by decide +kernel
theorem i__law_kind_many : N__law_kind[4]? = some ("many" : Str) := rfl
theorem k__law_kind_many : List.lookup ("many" : Str) (defScope s__law_kind).names = some .local := by decide +kernel
theorem k__law_kind_decoded : List.lookup ("decoded" : Str) (defScope s__law_kind).names = some .globalImplicit := by decide +kernel
theorem d_decoded : (("decoded" : Str) == ("__debug__" : Str)) = false := by decide +kernel
theorem d_e : (("e" : Str) == ("__debug__" : Str)) = false := by decide +kernel
theorem e_e : (("e" : Str) == ("__classdict__" : Str)) = false := by decide +kernel
theorem d_caught : (("caught" : Str) == ("__debug__" : Str)) = false := by decide +kernel
theorem e_caught : (("caught" : Str) == ("__classdict__" : Str)) = false := by decide +kernel
theorem k__law_kind_NoCode : List.lookup ("NoCode" : Str) (defScope s__law_kind).names = some .globalImplicit := by decide +kernel
theorem k__law_kind_isinstance : List.lookup ("isinstance" : Str) (defScope s__law_kind).names = some .globalImplicit := by decide +kernel
theorem v_isinstance : bootBuiltins "isinstance" = some (.builtin "isinstance") := rfl
theorem nn_isinstance : ("isinstance" : Str) ≠ "__name__" := by decide +kernel
theorem d_isinstance : (("isinstance" : Str) == ("__debug__" : Str)) = false := by decide +kernel
theorem k__law_kind_Broken : List.lookup ("Broken" : Str) (defScope s__law_kind).names = some .globalImplicit := by decide +kernel
theorem k__law_kind_ValueError : List.lookup ("ValueError" : Str) (defScope s__law_kind).names = some .globalImplicit := by decide +kernel
theorem v_ValueError : bootBuiltins "ValueError" = some (.type "ValueError") := rfl
theorem nn_ValueError : ("ValueError" : Str) ≠ "__name__" := by decide +kernel
theorem d_ValueError : (("ValueError" : Str) == ("__debug__" : Str)) = false := by decide +kernel
theorem i__law_kind_some : N__law_kind[8]? = some ("some" : Str) := rfl
theorem k__law_kind_some : List.lookup ("some" : Str) (defScope s__law_kind).names = some .local := by decide +kernel
theorem d_some : (("some" : Str) == ("__debug__" : Str)) = false := by decide +kernel
theorem e_some : (("some" : Str) == ("__classdict__" : Str)) = false := by decide +kernel
theorem k__law_kind_NoName : List.lookup ("NoName" : Str) (defScope s__law_kind).names = some .globalImplicit := by decide +kernel
theorem d_NoName : (("NoName" : Str) == ("__debug__" : Str)) = false := by decide +kernel
theorem k__law_kind_NoNumber : List.lookup ("NoNumber" : Str) (defScope s__law_kind).names = some .globalImplicit := by decide +kernel
theorem k__law_kind_NoPlace : List.lookup ("NoPlace" : Str) (defScope s__law_kind).names = some .globalImplicit := by decide +kernel
theorem d_NoPlace : (("NoPlace" : Str) == ("__debug__" : Str)) = false := by decide +kernel
theorem k__law_kind_NoRow : List.lookup ("NoRow" : Str) (defScope s__law_kind).names = some .globalImplicit := by decide +kernel
theorem d_NoRow : (("NoRow" : Str) == ("__debug__" : Str)) = false := by decide +kernel
theorem k__law_kind_NoText : List.lookup ("NoText" : Str) (defScope s__law_kind).names = some .globalImplicit := by decide +kernel
theorem d_NoText : (("NoText" : Str) == ("__debug__" : Str)) = false := by decide +kernel
theorem i__law_words_found : N__law_words[1]? = some ("found" : Str) := rfl
theorem k__law_words_found : List.lookup ("found" : Str) (defScope s__law_words).names = some .local := by decide +kernel
theorem i__law_words_bits : N__law_words[2]? = some ("bits" : Str) := rfl
theorem k__law_words_bits : List.lookup ("bits" : Str) (defScope s__law_words).names = some .local := by decide +kernel
theorem i__law_words_lengths : N__law_words[0]? = some ("lengths" : Str) := rfl
theorem k__law_words_lengths : List.lookup ("lengths" : Str) (defScope s__law_words).names = some .local := by decide +kernel
theorem i__law_words_length : N__law_words[3]? = some ("length" : Str) := rfl
theorem k__law_words_1_length : List.lookup ("length" : Str) S__law_words_1 = some .local := by decide +kernel
theorem i__law_words_sign : N__law_words[4]? = some ("sign" : Str) := rfl
theorem k__law_words_1_sign : List.lookup ("sign" : Str) S__law_words_1 = some .local := by decide +kernel
theorem k__law_words_sorted : List.lookup ("sorted" : Str) (defScope s__law_words).names = some .globalImplicit := by decide +kernel
theorem k__law_words_sign : List.lookup ("sign" : Str) (defScope s__law_words).names = some .local := by decide +kernel
theorem k__law_words_length : List.lookup ("length" : Str) (defScope s__law_words).names = some .local := by decide +kernel
theorem k__law_words_list : List.lookup ("list" : Str) (defScope s__law_words).names = some .globalImplicit := by decide +kernel
theorem v_list : bootBuiltins "list" = some (.type "list") := rfl
theorem nn_list : ("list" : Str) ≠ "__name__" := by decide +kernel
theorem d_list : (("list" : Str) == ("__debug__" : Str)) = false := by decide +kernel
theorem k__law_words_len : List.lookup ("len" : Str) (defScope s__law_words).names = some .globalImplicit := by decide +kernel
theorem i__law_words_at : N__law_words[5]? = some ("at" : Str) := rfl
theorem k__law_words_at : List.lookup ("at" : Str) (defScope s__law_words).names = some .local := by decide +kernel
theorem i__law_decoded_lengths : N__law_decoded[2]? = some ("lengths" : Str) := rfl
theorem k__law_decoded_lengths : List.lookup ("lengths" : Str) (defScope s__law_decoded).names = some .local := by decide +kernel
theorem k__law_decoded__law_let : List.lookup ("_law_let" : Str) (defScope s__law_decoded).names = some .globalImplicit := by decide +kernel
theorem d__law_let : (("_law_let" : Str) == ("__debug__" : Str)) = false := by decide +kernel
theorem k__law_decoded__law_words : List.lookup ("_law_words" : Str) (defScope s__law_decoded).names = some .globalImplicit := by decide +kernel
theorem d__law_words : (("_law_words" : Str) == ("__debug__" : Str)) = false := by decide +kernel
theorem i__law_decoded_words : N__law_decoded[4]? = some ("words" : Str) := rfl
theorem k__law_decoded_words : List.lookup ("words" : Str) (defScope s__law_decoded).names = some .local := by decide +kernel
theorem i__law_decoded_at : N__law_decoded[1]? = some ("at" : Str) := rfl
theorem k__law_decoded_at : List.lookup ("at" : Str) (defScope s__law_decoded).names = some .cell := by decide +kernel
theorem i__law_decoded_bits : N__law_decoded[0]? = some ("bits" : Str) := rfl
theorem k__law_decoded_bits : List.lookup ("bits" : Str) (defScope s__law_decoded).names = some .cell := by decide +kernel
theorem k__law_decoded_len : List.lookup ("len" : Str) (defScope s__law_decoded).names = some .globalImplicit := by decide +kernel
theorem i__law_decoded_text : N__law_decoded[5]? = some ("text" : Str) := rfl
theorem k__law_decoded_text : List.lookup ("text" : Str) (defScope s__law_decoded).names = some .local := by decide +kernel
theorem i__law_decoded_many : N__law_decoded[3]? = some ("many" : Str) := rfl
theorem k__law_decoded_many : List.lookup ("many" : Str) (defScope s__law_decoded).names = some .local := by decide +kernel
theorem k__law_decoded_range : List.lookup ("range" : Str) (defScope s__law_decoded).names = some .globalImplicit := by decide +kernel
theorem i__law_decoded_k : N__law_decoded[6]? = some ("k" : Str) := rfl
theorem k__law_decoded_k : List.lookup ("k" : Str) (defScope s__law_decoded).names = some .local := by decide +kernel
theorem i__law_decoded_word : N__law_decoded[9]? = some ("word" : Str) := rfl
theorem k__law_decoded_1_word : List.lookup ("word" : Str) S__law_decoded_1 = some .local := by decide +kernel
theorem i__law_decoded_sign : N__law_decoded[8]? = some ("sign" : Str) := rfl
theorem k__law_decoded_1_sign : List.lookup ("sign" : Str) S__law_decoded_1 = some .local := by decide +kernel
theorem k__law_decoded_1_bits : List.lookup ("bits" : Str) S__law_decoded_1 = some .free := by decide +kernel
theorem k__law_decoded_1_at : List.lookup ("at" : Str) S__law_decoded_1 = some .free := by decide +kernel
theorem k__law_decoded_1_len : List.lookup ("len" : Str) S__law_decoded_1 = some .globalImplicit := by decide +kernel
theorem i__law_decoded_here : N__law_decoded[7]? = some ("here" : Str) := rfl
theorem k__law_decoded_here : List.lookup ("here" : Str) (defScope s__law_decoded).names = some .local := by decide +kernel
theorem d_here : (("here" : Str) == ("__debug__" : Str)) = false := by decide +kernel
theorem e_here : (("here" : Str) == ("__classdict__" : Str)) = false := by decide +kernel
theorem k__law_decoded_dict : List.lookup ("dict" : Str) (defScope s__law_decoded).names = some .globalImplicit := by decide +kernel
theorem i__law_read_right_bits : N__law_read_right[0]? = some ("bits" : Str) := rfl
theorem k__law_read_right_bits : List.lookup ("bits" : Str) (defScope s__law_read_right).names = some .local := by decide +kernel
theorem k__law_read_right_list : List.lookup ("list" : Str) (defScope s__law_read_right).names = some .globalImplicit := by decide +kernel
theorem i__law_read_right_lengths : N__law_read_right[2]? = some ("lengths" : Str) := rfl
theorem k__law_read_right_lengths : List.lookup ("lengths" : Str) (defScope s__law_read_right).names = some .local := by decide +kernel
theorem i__law_read_right_handed : N__law_read_right[4]? = some ("handed" : Str) := rfl
theorem k__law_read_right_handed : List.lookup ("handed" : Str) (defScope s__law_read_right).names = some .local := by decide +kernel
theorem d_handed : (("handed" : Str) == ("__debug__" : Str)) = false := by decide +kernel
theorem e_handed : (("handed" : Str) == ("__classdict__" : Str)) = false := by decide +kernel
theorem i__law_read_right_at : N__law_read_right[1]? = some ("at" : Str) := rfl
theorem k__law_read_right_at : List.lookup ("at" : Str) (defScope s__law_read_right).names = some .local := by decide +kernel
theorem i__law_read_right_many : N__law_read_right[3]? = some ("many" : Str) := rfl
theorem k__law_read_right_many : List.lookup ("many" : Str) (defScope s__law_read_right).names = some .local := by decide +kernel
theorem k__law_read_right__law_kind : List.lookup ("_law_kind" : Str) (defScope s__law_read_right).names = some .globalImplicit := by decide +kernel
theorem d__law_kind : (("_law_kind" : Str) == ("__debug__" : Str)) = false := by decide +kernel
theorem i__law_read_right_found : N__law_read_right[5]? = some ("found" : Str) := rfl
theorem k__law_read_right_found : List.lookup ("found" : Str) (defScope s__law_read_right).names = some .local := by decide +kernel
theorem k__law_read_right__law_decoded : List.lookup ("_law_decoded" : Str) (defScope s__law_read_right).names = some .globalImplicit := by decide +kernel
theorem d__law_decoded : (("_law_decoded" : Str) == ("__debug__" : Str)) = false := by decide +kernel
theorem k__law_read_right_tuple : List.lookup ("tuple" : Str) (defScope s__law_read_right).names = some .globalImplicit := by decide +kernel
theorem k__law_read_right_isinstance : List.lookup ("isinstance" : Str) (defScope s__law_read_right).names = some .globalImplicit := by decide +kernel
theorem i__law_all_read_ahead : N__law_all_read[0]? = some ("ahead" : Str) := rfl
theorem k__law_all_read_ahead : List.lookup ("ahead" : Str) (defScope s__law_all_read).names = some .local := by decide +kernel
theorem i__law_all_read_bits : N__law_all_read[1]? = some ("bits" : Str) := rfl
theorem k__law_all_read_bits : List.lookup ("bits" : Str) (defScope s__law_all_read).names = some .local := by decide +kernel
theorem i__law_all_read_drawn : N__law_all_read[2]? = some ("drawn" : Str) := rfl
theorem k__law_all_read_drawn : List.lookup ("drawn" : Str) (defScope s__law_all_read).names = some .local := by decide +kernel
theorem d_drawn : (("drawn" : Str) == ("__debug__" : Str)) = false := by decide +kernel
theorem e_drawn : (("drawn" : Str) == ("__classdict__" : Str)) = false := by decide +kernel
theorem i__law_all_read_long : N__law_all_read[6]? = some ("long" : Str) := rfl
theorem k__law_all_read_long : List.lookup ("long" : Str) (defScope s__law_all_read).names = some .local := by decide +kernel
theorem i__law_all_read_signs : N__law_all_read[5]? = some ("signs" : Str) := rfl
theorem k__law_all_read_signs : List.lookup ("signs" : Str) (defScope s__law_all_read).names = some .local := by decide +kernel
theorem k__law_all_read_len : List.lookup ("len" : Str) (defScope s__law_all_read).names = some .globalImplicit := by decide +kernel
theorem i__law_all_read_many : N__law_all_read[7]? = some ("many" : Str) := rfl
theorem k__law_all_read_many : List.lookup ("many" : Str) (defScope s__law_all_read).names = some .local := by decide +kernel
theorem d_long : (("long" : Str) == ("__debug__" : Str)) = false := by decide +kernel
theorem e_long : (("long" : Str) == ("__classdict__" : Str)) = false := by decide +kernel
theorem i__law_all_read_lengths : N__law_all_read[3]? = some ("lengths" : Str) := rfl
theorem k__law_all_read_lengths : List.lookup ("lengths" : Str) (defScope s__law_all_read).names = some .local := by decide +kernel
theorem k__law_all_read__law_read_right : List.lookup ("_law_read_right" : Str) (defScope s__law_all_read).names = some .globalImplicit := by decide +kernel
theorem d__law_read_right : (("_law_read_right" : Str) == ("__debug__" : Str)) = false := by decide +kernel
theorem i__law_all_read_whole : N__law_all_read[4]? = some ("whole" : Str) := rfl
theorem k__law_all_read_whole : List.lookup ("whole" : Str) (defScope s__law_all_read).names = some .local := by decide +kernel
theorem i__law_all_read_at : N__law_all_read[8]? = some ("at" : Str) := rfl
theorem k__law_all_read_at : List.lookup ("at" : Str) (defScope s__law_all_read).names = some .local := by decide +kernel
theorem i__law_bits_deck : N__law_bits[0]? = some ("deck" : Str) := rfl
theorem k__law_bits_deck : List.lookup ("deck" : Str) (defScope s__law_bits).names = some .cell := by decide +kernel
theorem i__law_bits_most : N__law_bits[1]? = some ("most" : Str) := rfl
theorem k__law_bits_most : List.lookup ("most" : Str) (defScope s__law_bits).names = some .local := by decide +kernel
theorem k__law_bits__law_draw : List.lookup ("_law_draw" : Str) (defScope s__law_bits).names = some .globalImplicit := by decide +kernel
theorem k__law_bits_range : List.lookup ("range" : Str) (defScope s__law_bits).names = some .globalImplicit := by decide +kernel
theorem i__law_bits_k : N__law_bits[2]? = some ("k" : Str) := rfl
theorem k__law_bits_1_k : List.lookup ("k" : Str) S__law_bits_1 = some .local := by decide +kernel
theorem k__law_bits_1_deck : List.lookup ("deck" : Str) S__law_bits_1 = some .free := by decide +kernel
theorem k__law_bits_1__law_draw : List.lookup ("_law_draw" : Str) S__law_bits_1 = some .globalImplicit := by decide +kernel
theorem i__law_coded_lengths : N__law_coded[1]? = some ("lengths" : Str) := rfl
theorem k__law_coded_lengths : List.lookup ("lengths" : Str) (defScope s__law_coded).names = some .local := by decide +kernel
theorem k__law_coded__law_let : List.lookup ("_law_let" : Str) (defScope s__law_coded).names = some .globalImplicit := by decide +kernel
theorem k__law_coded__law_words : List.lookup ("_law_words" : Str) (defScope s__law_coded).names = some .globalImplicit := by decide +kernel
theorem k__law_coded_dict : List.lookup ("dict" : Str) (defScope s__law_coded).names = some .globalImplicit := by decide +kernel
theorem i__law_coded_words : N__law_coded[2]? = some ("words" : Str) := rfl
theorem k__law_coded_words : List.lookup ("words" : Str) (defScope s__law_coded).names = some .local := by decide +kernel
theorem i__law_coded_found : N__law_coded[3]? = some ("found" : Str) := rfl
theorem k__law_coded_found : List.lookup ("found" : Str) (defScope s__law_coded).names = some .local := by decide +kernel
theorem i__law_coded_text : N__law_coded[0]? = some ("text" : Str) := rfl
theorem k__law_coded_text : List.lookup ("text" : Str) (defScope s__law_coded).names = some .local := by decide +kernel
theorem i__law_coded_sign : N__law_coded[4]? = some ("sign" : Str) := rfl
theorem k__law_coded_sign : List.lookup ("sign" : Str) (defScope s__law_coded).names = some .local := by decide +kernel
theorem i__law_bits_right_found : N__law_bits_right[0]? = some ("found" : Str) := rfl
theorem k__law_bits_right_found : List.lookup ("found" : Str) (defScope s__law_bits_right).names = some .local := by decide +kernel
theorem i__law_bits_right_bit : N__law_bits_right[1]? = some ("bit" : Str) := rfl
theorem k__law_bits_right_1_bit : List.lookup ("bit" : Str) S__law_bits_right_1 = some .local := by decide +kernel
theorem d_bit : (("bit" : Str) == ("__debug__" : Str)) = false := by decide +kernel
theorem e_bit : (("bit" : Str) == ("__classdict__" : Str)) = false := by decide +kernel
theorem k__law_bits_right_1_int : List.lookup ("int" : Str) S__law_bits_right_1 = some .globalImplicit := by decide +kernel
theorem v_int : bootBuiltins "int" = some (.type "int") := rfl
theorem nn_int : ("int" : Str) ≠ "__name__" := by decide +kernel
theorem d_int : (("int" : Str) == ("__debug__" : Str)) = false := by decide +kernel
theorem k__law_bits_right_1_isinstance : List.lookup ("isinstance" : Str) S__law_bits_right_1 = some .globalImplicit := by decide +kernel
theorem k__law_bits_right_1_bool : List.lookup ("bool" : Str) S__law_bits_right_1 = some .globalImplicit := by decide +kernel
theorem v_bool : bootBuiltins "bool" = some (.type "bool") := rfl
theorem nn_bool : ("bool" : Str) ≠ "__name__" := by decide +kernel
theorem d_bool : (("bool" : Str) == ("__debug__" : Str)) = false := by decide +kernel
theorem i__law_coded_right_row : N__law_coded_right[0]? = some ("row" : Str) := rfl
theorem k__law_coded_right_row : List.lookup ("row" : Str) (defScope s__law_coded_right).names = some .local := by decide +kernel
theorem d_row : (("row" : Str) == ("__debug__" : Str)) = false := by decide +kernel
theorem e_row : (("row" : Str) == ("__classdict__" : Str)) = false := by decide +kernel
theorem k__law_coded_right_list : List.lookup ("list" : Str) (defScope s__law_coded_right).names = some .globalImplicit := by decide +kernel
theorem i__law_coded_right_some : N__law_coded_right[1]? = some ("some" : Str) := rfl
theorem k__law_coded_right_some : List.lookup ("some" : Str) (defScope s__law_coded_right).names = some .local := by decide +kernel
theorem i__law_coded_right_handed : N__law_coded_right[2]? = some ("handed" : Str) := rfl
theorem k__law_coded_right_handed : List.lookup ("handed" : Str) (defScope s__law_coded_right).names = some .local := by decide +kernel
theorem k__law_coded_right__law_kind : List.lookup ("_law_kind" : Str) (defScope s__law_coded_right).names = some .globalImplicit := by decide +kernel
theorem i__law_coded_right_found : N__law_coded_right[3]? = some ("found" : Str) := rfl
theorem k__law_coded_right_found : List.lookup ("found" : Str) (defScope s__law_coded_right).names = some .local := by decide +kernel
theorem k__law_coded_right__law_coded : List.lookup ("_law_coded" : Str) (defScope s__law_coded_right).names = some .globalImplicit := by decide +kernel
theorem d__law_coded : (("_law_coded" : Str) == ("__debug__" : Str)) = false := by decide +kernel
theorem k__law_coded_right__law_bits_right : List.lookup ("_law_bits_right" : Str) (defScope s__law_coded_right).names = some .globalImplicit := by decide +kernel
theorem d__law_bits_right : (("_law_bits_right" : Str) == ("__debug__" : Str)) = false := by decide +kernel
theorem i_law_script : N_law[0]? = some ("script" : Str) := rfl
theorem k_law_script : List.lookup ("script" : Str) (defScope s_law).names = some .local := by decide +kernel
theorem k_law__law_decks : List.lookup ("_law_decks" : Str) (defScope s_law).names = some .globalImplicit := by decide +kernel
theorem i_law_decks : N_law[1]? = some ("decks" : Str) := rfl
theorem k_law_decks : List.lookup ("decks" : Str) (defScope s_law).names = some .local := by decide +kernel
theorem k_law__law_drawn_lengths : List.lookup ("_law_drawn_lengths" : Str) (defScope s_law).names = some .globalImplicit := by decide +kernel
theorem d__law_drawn_lengths : (("_law_drawn_lengths" : Str) == ("__debug__" : Str)) = false := by decide +kernel
theorem i_law_lengths : N_law[2]? = some ("lengths" : Str) := rfl
theorem k_law_lengths : List.lookup ("lengths" : Str) (defScope s_law).names = some .cell := by decide +kernel
theorem k_law_list : List.lookup ("list" : Str) (defScope s_law).names = some .globalImplicit := by decide +kernel
theorem i_law_whole : N_law[3]? = some ("whole" : Str) := rfl
theorem k_law_whole : List.lookup ("whole" : Str) (defScope s_law).names = some .cell := by decide +kernel
theorem k_law__law_let : List.lookup ("_law_let" : Str) (defScope s_law).names = some .globalImplicit := by decide +kernel
theorem i_law_text : N_law[4]? = some ("text" : Str) := rfl
theorem k_law_text : List.lookup ("text" : Str) (defScope s_law).names = some .local := by decide +kernel
theorem i_law_drawn : N_law[5]? = some ("drawn" : Str) := rfl
theorem k_law_drawn : List.lookup ("drawn" : Str) (defScope s_law).names = some .local := by decide +kernel
theorem i_law_deck : N_law[6]? = some ("deck" : Str) := rfl
theorem k_law_deck : List.lookup ("deck" : Str) (defScope s_law).names = some .cell := by decide +kernel
theorem k_law__law_draw : List.lookup ("_law_draw" : Str) (defScope s_law).names = some .globalImplicit := by decide +kernel
theorem k_law_range : List.lookup ("range" : Str) (defScope s_law).names = some .globalImplicit := by decide +kernel
theorem i_law_k : N_law[15]? = some ("k" : Str) := rfl
theorem k_law_1_k : List.lookup ("k" : Str) S_law_1 = some .local := by decide +kernel
theorem k_law_1_whole : List.lookup ("whole" : Str) S_law_1 = some .free := by decide +kernel
theorem k_law_1_deck : List.lookup ("deck" : Str) S_law_1 = some .free := by decide +kernel
theorem k_law_1_lengths : List.lookup ("lengths" : Str) S_law_1 = some .free := by decide +kernel
theorem k_law_1_len : List.lookup ("len" : Str) S_law_1 = some .globalImplicit := by decide +kernel
theorem k_law_1_max : List.lookup ("max" : Str) S_law_1 = some .globalImplicit := by decide +kernel
theorem k_law_1__law_draw : List.lookup ("_law_draw" : Str) S_law_1 = some .globalImplicit := by decide +kernel
theorem k_law__law_bits : List.lookup ("_law_bits" : Str) (defScope s_law).names = some .globalImplicit := by decide +kernel
theorem d__law_bits : (("_law_bits" : Str) == ("__debug__" : Str)) = false := by decide +kernel
theorem d_decks : (("decks" : Str) == ("__debug__" : Str)) = false := by decide +kernel
theorem e_decks : (("decks" : Str) == ("__classdict__" : Str)) = false := by decide +kernel
theorem i_law_length : N_law[16]? = some ("length" : Str) := rfl
theorem k_law_2_length : List.lookup ("length" : Str) S_law_2 = some .local := by decide +kernel
theorem i_law_sign : N_law[14]? = some ("sign" : Str) := rfl
theorem k_law_2_sign : List.lookup ("sign" : Str) S_law_2 = some .local := by decide +kernel
theorem k_law_max : List.lookup ("max" : Str) (defScope s_law).names = some .globalImplicit := by decide +kernel
theorem k_law_3_sign : List.lookup ("sign" : Str) S_law_3 = some .local := by decide +kernel
theorem k_law_3_lengths : List.lookup ("lengths" : Str) S_law_3 = some .free := by decide +kernel
theorem k_law_3_dict : List.lookup ("dict" : Str) S_law_3 = some .globalImplicit := by decide +kernel
theorem i_law_signs : N_law[7]? = some ("signs" : Str) := rfl
theorem k_law_signs : List.lookup ("signs" : Str) (defScope s_law).names = some .local := by decide +kernel
theorem k_law_4_sign : List.lookup ("sign" : Str) S_law_4 = some .local := by decide +kernel
theorem k_law_4_whole : List.lookup ("whole" : Str) S_law_4 = some .free := by decide +kernel
theorem k_law_4_dict : List.lookup ("dict" : Str) S_law_4 = some .globalImplicit := by decide +kernel
theorem i_law_strangers : N_law[8]? = some ("strangers" : Str) := rfl
theorem k_law_strangers : List.lookup ("strangers" : Str) (defScope s_law).names = some .local := by decide +kernel
theorem i_law_turn : N_law[9]? = some ("turn" : Str) := rfl
theorem k_law_turn : List.lookup ("turn" : Str) (defScope s_law).names = some .local := by decide +kernel
theorem k_law_len : List.lookup ("len" : Str) (defScope s_law).names = some .globalImplicit := by decide +kernel
theorem i_law_at : N_law[10]? = some ("at" : Str) := rfl
theorem k_law_at : List.lookup ("at" : Str) (defScope s_law).names = some .local := by decide +kernel
theorem d_strangers : (("strangers" : Str) == ("__debug__" : Str)) = false := by decide +kernel
theorem e_strangers : (("strangers" : Str) == ("__classdict__" : Str)) = false := by decide +kernel
theorem i_law_some : N_law[12]? = some ("some" : Str) := rfl
theorem k_law_some : List.lookup ("some" : Str) (defScope s_law).names = some .local := by decide +kernel
theorem i_law_row : N_law[11]? = some ("row" : Str) := rfl
theorem k_law_row : List.lookup ("row" : Str) (defScope s_law).names = some .local := by decide +kernel
theorem k_law__law_coded_right : List.lookup ("_law_coded_right" : Str) (defScope s_law).names = some .globalImplicit := by decide +kernel
theorem d__law_coded_right : (("_law_coded_right" : Str) == ("__debug__" : Str)) = false := by decide +kernel
theorem i_law_ahead : N_law[13]? = some ("ahead" : Str) := rfl
theorem k_law_ahead : List.lookup ("ahead" : Str) (defScope s_law).names = some .local := by decide +kernel
theorem k_law__law_coded : List.lookup ("_law_coded" : Str) (defScope s_law).names = some .globalImplicit := by decide +kernel
theorem k_law__law_all_read : List.lookup ("_law_all_read" : Str) (defScope s_law).names = some .globalImplicit := by decide +kernel
theorem d__law_all_read : (("_law_all_read" : Str) == ("__debug__" : Str)) = false := by decide +kernel
theorem k_law_coded : List.lookup ("coded" : Str) (defScope s_law).names = some .globalImplicit := by decide +kernel
theorem k_law_decoded : List.lookup ("decoded" : Str) (defScope s_law).names = some .globalImplicit := by decide +kernel
structure Txt (K : PySem.W.Frag) (mg : Str → Option Value) where
  C_PackError : Addr
  C_NoNumber : Addr
  C_NoCode : Addr
  C_NoPlace : Addr
  C_Broken : Addr
  C_NoText : Addr
  C_NoName : Addr
  C_NoRow : Addr
  m_PackError : mg "PackError" = some (.ref C_PackError)
  cf_PackError : ClsF K C_PackError
  m_NoNumber : mg "NoNumber" = some (.ref C_NoNumber)
  cf_NoNumber : ClsF K C_NoNumber
  m_NoCode : mg "NoCode" = some (.ref C_NoCode)
  cf_NoCode : ClsF K C_NoCode
  m_NoPlace : mg "NoPlace" = some (.ref C_NoPlace)
  cf_NoPlace : ClsF K C_NoPlace
  m_Broken : mg "Broken" = some (.ref C_Broken)
  cf_Broken : ClsF K C_Broken
  m_NoText : mg "NoText" = some (.ref C_NoText)
  cf_NoText : ClsF K C_NoText
  m_NoName : mg "NoName" = some (.ref C_NoName)
  cf_NoName : ClsF K C_NoName
  m_NoRow : mg "NoRow" = some (.ref C_NoRow)
  cf_NoRow : ClsF K C_NoRow
  x_NoCode : PySem.W.excIn K C_NoCode [.type "ValueError", .type "Exception", .type "BaseException", .type "object"] "ValueError.__new__" = true
  kc_NoCode : PySem.W.keepIn K (.ref C_NoCode) = true
  x_NoNumber : PySem.W.excIn K C_NoNumber [.type "ValueError", .type "Exception", .type "BaseException", .type "object"] "ValueError.__new__" = true
  kc_NoNumber : PySem.W.keepIn K (.ref C_NoNumber) = true
  x_Broken : PySem.W.excIn K C_Broken [.type "ValueError", .type "Exception", .type "BaseException", .type "object"] "ValueError.__new__" = true
  kc_Broken : PySem.W.keepIn K (.ref C_Broken) = true
  tab : AllT K ⟨fun i => match i with | 0 => C_PackError | 1 => C_NoNumber | 2 => C_NoCode | 3 => C_NoPlace | 4 => C_Broken | 5 => C_NoText | 6 => C_NoName | 7 => C_NoRow | _ => C_PackError, K, []⟩ tab
  n_range : mg "range" = none
  n_len : mg "len" = none
  n_max : mg "max" = none
  n_sum : mg "sum" = none
  n_sorted : mg "sorted" = none
  n_dict : mg "dict" = none
  n_tuple : mg "tuple" = none
  n_isinstance : mg "isinstance" = none
  n_ValueError : mg "ValueError" = none
  n_list : mg "list" = none
  n_int : mg "int" = none
  n_bool : mg "bool" = none
  t_WHOLE : Tok
  g_WHOLE : mg "WHOLE" = some (.int 115792089237316195423570985008687907853269984665640564039457584007913129639936 t_WHOLE)
  t_LONGEST : Tok
  g_LONGEST : mg "LONGEST" = some (.int 256 t_LONGEST)
  a__law_decks : Addr
  fd__law_decks : FuncData
  F__law_decks : Fun K "_law_decks" "_law_decks" s__law_decks a__law_decks fd__law_decks
  m__law_decks : mg "_law_decks" = some (.ref a__law_decks)
  k__law_decks : PySem.W.keepIn K (.ref a__law_decks) = true
  b__law_decks : Binds K fd__law_decks ["script"] []
  a__law_draw : Addr
  fd__law_draw : FuncData
  F__law_draw : Fun K "_law_draw" "_law_draw" s__law_draw a__law_draw fd__law_draw
  m__law_draw : mg "_law_draw" = some (.ref a__law_draw)
  k__law_draw : PySem.W.keepIn K (.ref a__law_draw) = true
  b__law_draw : Binds K fd__law_draw ["deck", "many"] []
  a__law_drawn_lengths : Addr
  fd__law_drawn_lengths : FuncData
  F__law_drawn_lengths : Fun K "_law_drawn_lengths" "_law_drawn_lengths" s__law_drawn_lengths a__law_drawn_lengths fd__law_drawn_lengths
  m__law_drawn_lengths : mg "_law_drawn_lengths" = some (.ref a__law_drawn_lengths)
  k__law_drawn_lengths : PySem.W.keepIn K (.ref a__law_drawn_lengths) = true
  b__law_drawn_lengths : Binds K fd__law_drawn_lengths ["script", "most"] []
  a__law_let : Addr
  fd__law_let : FuncData
  F__law_let : Fun K "_law_let" "_law_let" s__law_let a__law_let fd__law_let
  m__law_let : mg "_law_let" = some (.ref a__law_let)
  k__law_let : PySem.W.keepIn K (.ref a__law_let) = true
  b__law_let : Binds K fd__law_let ["lengths"] []
  a_room_of : Addr
  fd_room_of : FuncData
  F_room_of : Fun K "room_of" "room_of" s_room_of a_room_of fd_room_of
  m_room_of : mg "room_of" = some (.ref a_room_of)
  k_room_of : PySem.W.keepIn K (.ref a_room_of) = true
  b_room_of : Binds K fd_room_of ["length"] []
  a_need_words : Addr
  fd_need_words : FuncData
  F_need_words : Fun K "need_words" "need_words" s_need_words a_need_words fd_need_words
  m_need_words : mg "need_words" = some (.ref a_need_words)
  k_need_words : PySem.W.keepIn K (.ref a_need_words) = true
  b_need_words : Binds K fd_need_words ["lengths"] []
  a_figures_of : Addr
  fd_figures_of : FuncData
  F_figures_of : Fun K "figures_of" "figures_of" s_figures_of a_figures_of fd_figures_of
  m_figures_of : mg "figures_of" = some (.ref a_figures_of)
  k_figures_of : PySem.W.keepIn K (.ref a_figures_of) = true
  b_figures_of : Binds K fd_figures_of ["n"] []
  a_low_bits : Addr
  fd_low_bits : FuncData
  F_low_bits : Fun K "low_bits" "low_bits" s_low_bits a_low_bits fd_low_bits
  m_low_bits : mg "low_bits" = some (.ref a_low_bits)
  k_low_bits : PySem.W.keepIn K (.ref a_low_bits) = true
  b_low_bits : Binds K fd_low_bits ["n", "k"] []
  a_words_by : Addr
  fd_words_by : FuncData
  F_words_by : Fun K "words_by" "words_by" s_words_by a_words_by fd_words_by
  m_words_by : mg "words_by" = some (.ref a_words_by)
  k_words_by : PySem.W.keepIn K (.ref a_words_by) = true
  b_words_by : Binds K fd_words_by ["lengths"] []
  a_coded : Addr
  fd_coded : FuncData
  F_coded : Fun K "coded" "coded" s_coded a_coded fd_coded
  m_coded : mg "coded" = some (.ref a_coded)
  k_coded : PySem.W.keepIn K (.ref a_coded) = true
  b_coded : Binds K fd_coded ["text", "lengths"] []
  a_decoded : Addr
  fd_decoded : FuncData
  F_decoded : Fun K "decoded" "decoded" s_decoded a_decoded fd_decoded
  m_decoded : mg "decoded" = some (.ref a_decoded)
  k_decoded : PySem.W.keepIn K (.ref a_decoded) = true
  b_decoded : Binds K fd_decoded ["bits", "at", "lengths", "many"] []
  a__law_kind : Addr
  fd__law_kind : FuncData
  F__law_kind : Fun K "_law_kind" "_law_kind" s__law_kind a__law_kind fd__law_kind
  m__law_kind : mg "_law_kind" = some (.ref a__law_kind)
  k__law_kind : PySem.W.keepIn K (.ref a__law_kind) = true
  b__law_kind : Binds K fd__law_kind ["way", "one", "two", "lengths", "many"] []
  a__law_words : Addr
  fd__law_words : FuncData
  F__law_words : Fun K "_law_words" "_law_words" s__law_words a__law_words fd__law_words
  m__law_words : mg "_law_words" = some (.ref a__law_words)
  k__law_words : PySem.W.keepIn K (.ref a__law_words) = true
  b__law_words : Binds K fd__law_words ["lengths"] []
  a__law_decoded : Addr
  fd__law_decoded : FuncData
  F__law_decoded : Fun K "_law_decoded" "_law_decoded" s__law_decoded a__law_decoded fd__law_decoded
  m__law_decoded : mg "_law_decoded" = some (.ref a__law_decoded)
  k__law_decoded : PySem.W.keepIn K (.ref a__law_decoded) = true
  b__law_decoded : Binds K fd__law_decoded ["bits", "at", "lengths", "many"] []
  a__law_read_right : Addr
  fd__law_read_right : FuncData
  F__law_read_right : Fun K "_law_read_right" "_law_read_right" s__law_read_right a__law_read_right fd__law_read_right
  m__law_read_right : mg "_law_read_right" = some (.ref a__law_read_right)
  k__law_read_right : PySem.W.keepIn K (.ref a__law_read_right) = true
  b__law_read_right : Binds K fd__law_read_right ["bits", "at", "lengths", "many"] []
  a__law_all_read : Addr
  fd__law_all_read : FuncData
  F__law_all_read : Fun K "_law_all_read" "_law_all_read" s__law_all_read a__law_all_read fd__law_all_read
  m__law_all_read : mg "_law_all_read" = some (.ref a__law_all_read)
  k__law_all_read : PySem.W.keepIn K (.ref a__law_all_read) = true
  b__law_all_read : Binds K fd__law_all_read ["ahead", "bits", "drawn", "lengths", "whole", "signs"] []
  a__law_bits : Addr
  fd__law_bits : FuncData
  F__law_bits : Fun K "_law_bits" "_law_bits" s__law_bits a__law_bits fd__law_bits
  m__law_bits : mg "_law_bits" = some (.ref a__law_bits)
  k__law_bits : PySem.W.keepIn K (.ref a__law_bits) = true
  b__law_bits : Binds K fd__law_bits ["deck", "most"] []
  a__law_coded : Addr
  fd__law_coded : FuncData
  F__law_coded : Fun K "_law_coded" "_law_coded" s__law_coded a__law_coded fd__law_coded
  m__law_coded : mg "_law_coded" = some (.ref a__law_coded)
  k__law_coded : PySem.W.keepIn K (.ref a__law_coded) = true
  b__law_coded : Binds K fd__law_coded ["text", "lengths"] []
  a__law_bits_right : Addr
  fd__law_bits_right : FuncData
  F__law_bits_right : Fun K "_law_bits_right" "_law_bits_right" s__law_bits_right a__law_bits_right fd__law_bits_right
  m__law_bits_right : mg "_law_bits_right" = some (.ref a__law_bits_right)
  k__law_bits_right : PySem.W.keepIn K (.ref a__law_bits_right) = true
  b__law_bits_right : Binds K fd__law_bits_right ["found"] []
  a__law_coded_right : Addr
  fd__law_coded_right : FuncData
  F__law_coded_right : Fun K "_law_coded_right" "_law_coded_right" s__law_coded_right a__law_coded_right fd__law_coded_right
  m__law_coded_right : mg "_law_coded_right" = some (.ref a__law_coded_right)
  k__law_coded_right : PySem.W.keepIn K (.ref a__law_coded_right) = true
  b__law_coded_right : Binds K fd__law_coded_right ["row", "some"] []
  a_law : Addr
  fd_law : FuncData
  F_law : Fun K "law" "law" s_law a_law fd_law
  m_law : mg "law" = some (.ref a_law)
  k_law : PySem.W.keepIn K (.ref a_law) = true
  b_law : Binds K fd_law ["script"] []
section
variable {P : Program} {w : World} {K : PySem.W.Frag} {mg : Str → Option Value} {base : Heap}
abbrev Txt.G (T : Txt K mg) : GX := ⟨fun i => match i with | 0 => T.C_PackError | 1 => T.C_NoNumber | 2 => T.C_NoCode | 3 => T.C_NoPlace | 4 => T.C_Broken | 5 => T.C_NoText | 6 => T.C_NoName | 7 => T.C_NoRow | _ => T.C_PackError, K, []⟩
theorem ok__law_decks (T : Txt K mg) : FnOk P w K mg base (L2.CX P w) 1 T.a__law_decks T.fd__law_decks ["script"] (spV T.G 1 F__law_decks) := by
  have ND := sc__law_decks.nd
  exact fnV2 (N := N__law_decks) (ps := ["script"]) (G := T.G) (k := 0) (fb := f__law_decks) T.F__law_decks sc__law_decks fun cdv A outer s H E C hr hp =>
  (vss_cons (vs_set ND i__law_decks_cells (.inr k__law_decks_cells) (pinV hp 1) (ve_slice rfl (ve_var i__law_decks_script (.inr (.inl k__law_decks_script)) d_script e_script) vo_none (vo_some ve_int)))
  (vss_cons (vs_if (vt_cmp (os_eq hr.units) (ve_var i__law_decks_cells (.inr (.inl k__law_decks_cells)) d_cells e_cells) (ve_lst va_nil) (nomark _)) (vss_one (vs_set ND i__law_decks_cells (.inr k__law_decks_cells) (pinV hp 1) (ve_lst (va_cons (ve_set ve_int) va_nil)))) vss_nil)
  (vss_one (vs_ret (ve_lc rfl ND (own := [("k", 2)]) (vi_range1 k__law_decks_range T.n_range (va_cons (ve_callB rfl cs_len k__law_decks_len T.n_len v_len (va_cons (ve_var i__law_decks_cells (.inr (.inl k__law_decks_cells)) d_cells e_cells) va_nil) nn_len d_len) va_nil)) (show BlkOk N__law_decks (defScope s__law_decks) _ _ from blkOk_by (by decide +kernel)) (pinVo hp [2]) (by decide) (fun _ _ _ _ _ => (vg_name ND i__law_decks_k (.inl (cv_own k__law_decks_1_k)) (pinV hp 2))) (fun _ _ _ _ _ => vts_nil) (fun _ _ _ _ _ => (ve_lst (va_cons (ve_set (ve_ix rfl (ve_var i__law_decks_cells (cv_free k__law_decks_1_cells) d_cells e_cells) (ve_var i__law_decks_k (.inl (cv_own k__law_decks_1_k)) d_k e_k) (fun _ _ => rfl))) (va_cons (ve_set (ve_bin os_mod (ve_callB rfl cs_len (cv_gl k__law_decks_1_len) T.n_len v_len (va_cons (ve_var i__law_decks_script (cv_free k__law_decks_1_script) d_script e_script) va_nil) nn_len d_len) ve_int)) (va_cons (ve_set (ve_bin os_mul ve_int (ve_var i__law_decks_k (.inl (cv_own k__law_decks_1_k)) d_k e_k))) va_nil))))))))))
theorem ok__law_draw (T : Txt K mg) : FnOk P w K mg base (L2.CX P w) 1 T.a__law_draw T.fd__law_draw ["deck", "many"] (spQ T.G 0 1 F__law_draw) := by
  have ND := sc__law_draw.nd
  exact fnQ2 (N := N__law_draw) (ps := ["deck", "many"]) (q := 0) (n := 1) (G := T.G) (k := 0) (fb := f__law_draw) T.F__law_draw sc__law_draw rfl fun cdv A outer s H E C hr hp =>
  (vss_cons (vs_if (vt_cmp (os_eq hr.units) (ve_ix rfl (ve_var i__law_draw_deck (.inl k__law_draw_deck) d_deck e_deck) ve_int (fun _ _ => rfl)) ve_int (nomark _)) (vss_cons (vs_set ND i__law_draw_found (.inl k__law_draw_found) (pinQ hp 2 (by decide)) (ve_bin os_mod (ve_ix rfl (ve_var i__law_draw_deck (.inl k__law_draw_deck) d_deck e_deck) ve_int (fun _ _ => rfl)) (ve_var i__law_draw_many (.inl k__law_draw_many) d_many e_many)))
  (vss_cons (vs_setIx i__law_draw_deck (.inl k__law_draw_deck) d_deck e_deck ve_int (ve_bin os_div (ve_ix rfl (ve_var i__law_draw_deck (.inl k__law_draw_deck) d_deck e_deck) ve_int (fun _ _ => rfl)) (ve_var i__law_draw_many (.inl k__law_draw_many) d_many e_many)))
  (vss_one (vs_ret (ve_var i__law_draw_found (.inl k__law_draw_found) d_found e_found))))) vss_nil)
  (vss_cons (vs_setIx i__law_draw_deck (.inl k__law_draw_deck) d_deck e_deck ve_int (ve_bin os_add (ve_ix rfl (ve_var i__law_draw_deck (.inl k__law_draw_deck) d_deck e_deck) ve_int (fun _ _ => rfl)) ve_int))
  (vss_cons (vs_set ND i__law_draw_number (.inl k__law_draw_number) (pinQ hp 3 (by decide)) (ve_bin os_mod (ve_bin os_add (ve_bin os_mul (ve_bin os_mod (ve_ix rfl (ve_var i__law_draw_deck (.inl k__law_draw_deck) d_deck e_deck) ve_int (fun _ _ => rfl)) ve_int) ve_int) (ve_bin os_mul (ve_ix rfl (ve_var i__law_draw_deck (.inl k__law_draw_deck) d_deck e_deck) ve_int (fun _ _ => rfl)) ve_int)) ve_int))
  (vss_cons (vs_set ND i__law_draw_number (.inl k__law_draw_number) (pinQ hp 3 (by decide)) (ve_bin os_mod (ve_bin os_mul (ve_var i__law_draw_number (.inl k__law_draw_number) d_number e_number) (ve_var i__law_draw_number (.inl k__law_draw_number) d_number e_number)) ve_int))
  (vss_one (vs_ret (ve_bin os_mod (ve_bin os_div (ve_bin os_mod (ve_bin os_add (ve_bin os_mul (ve_var i__law_draw_number (.inl k__law_draw_number) d_number e_number) ve_int) (ve_ix rfl (ve_var i__law_draw_deck (.inl k__law_draw_deck) d_deck e_deck) ve_int (fun _ _ => rfl))) ve_int) ve_int) (ve_var i__law_draw_many (.inl k__law_draw_many) d_many e_many))))))))
theorem ok__law_drawn_lengths (T : Txt K mg) : FnOk P w K mg base (L2.CX P w) 2 T.a__law_drawn_lengths T.fd__law_drawn_lengths ["script", "most"] (spV T.G 2 F__law_drawn_lengths) := by
  have ND := sc__law_drawn_lengths.nd
  exact fnV2 (N := N__law_drawn_lengths) (ps := ["script", "most"]) (G := T.G) (k := 1) (fb := f__law_drawn_lengths) T.F__law_drawn_lengths sc__law_drawn_lengths fun cdv A outer s H E C hr hp =>
  (vss_cons (vs_set ND i__law_drawn_lengths_lengths (.inl k__law_drawn_lengths_lengths) (pinV hp 2) (ve_lst va_nil))
  (vss_cons (vs_set ND i__law_drawn_lengths_sign (.inl k__law_drawn_lengths_sign) (pinV hp 3) (ve_neg ve_int))
  (vss_cons (vs_for (passes_of rfl) rfl (vi_list rfl (ve_sliceV (ve_call (takes_of rfl rfl rfl rfl) (ok__law_decks T) (hr.mono (by decide)) k__law_drawn_lengths__law_decks T.m__law_decks T.k__law_decks T.b__law_decks (va_cons (ve_var i__law_drawn_lengths_script (.inl k__law_drawn_lengths_script) d_script e_script) va_nil) d__law_decks) vo_none (vo_some (ve_var i__law_drawn_lengths_most (.inl k__law_drawn_lengths_most) d_most e_most)))) (vg_name ND i__law_drawn_lengths_deck (.inl k__law_drawn_lengths_deck) (pinV hp 4)) (vss_cons (vs_set ND i__law_drawn_lengths_sign (.inl k__law_drawn_lengths_sign) (pinV hp 3) (ve_bin os_add (ve_bin os_add (ve_var i__law_drawn_lengths_sign (.inl k__law_drawn_lengths_sign) d_sign e_sign) ve_int) (ve_callQ (takes_of rfl rfl rfl rfl) (ok__law_draw T) (by decide) (hr.mono (by decide)) k__law_drawn_lengths__law_draw T.m__law_draw T.k__law_draw T.b__law_draw (va_cons (ve_var i__law_drawn_lengths_deck (.inl k__law_drawn_lengths_deck) d_deck e_deck) (va_cons (ve_set ve_int) va_nil)) d__law_draw)))
  (vss_one (vs_expr (ve_app i__law_drawn_lengths_lengths (.inl k__law_drawn_lengths_lengths) d_lengths e_lengths (ve_tup (va_cons (ve_set (ve_var i__law_drawn_lengths_sign (.inl k__law_drawn_lengths_sign) d_sign e_sign)) (va_cons (ve_set (ve_bin os_add ve_int (ve_callQ (takes_of rfl rfl rfl rfl) (ok__law_draw T) (by decide) (hr.mono (by decide)) k__law_drawn_lengths__law_draw T.m__law_draw T.k__law_draw T.b__law_draw (va_cons (ve_var i__law_drawn_lengths_deck (.inl k__law_drawn_lengths_deck) d_deck e_deck) (va_cons (ve_set (ve_ix rfl (ve_lst (va_cons (ve_set ve_int) (va_cons (ve_set ve_int) (va_cons (ve_set ve_int) (va_cons (ve_set ve_int) va_nil))))) (ve_callQ (takes_of rfl rfl rfl rfl) (ok__law_draw T) (by decide) (hr.mono (by decide)) k__law_drawn_lengths__law_draw T.m__law_draw T.k__law_draw T.b__law_draw (va_cons (ve_var i__law_drawn_lengths_deck (.inl k__law_drawn_lengths_deck) d_deck e_deck) (va_cons (ve_set ve_int) va_nil)) d__law_draw) (fun _ _ => rfl))) va_nil)) d__law_draw))) va_nil))))))))
  (vss_one (vs_ret (ve_var i__law_drawn_lengths_lengths (.inl k__law_drawn_lengths_lengths) d_lengths e_lengths))))))
theorem ok__law_let (T : Txt K mg) : FnOk P w K mg base (L2.CX P w) 1 T.a__law_let T.fd__law_let ["lengths"] (spV T.G 1 F__law_let) := by
  have ND := sc__law_let.nd
  exact fnV2 (N := N__law_let) (ps := ["lengths"]) (G := T.G) (k := 0) (fb := f__law_let) T.F__law_let sc__law_let fun cdv A outer s H E C hr hp =>
  (vss_cons (vs_if (vt_cmp os_gt (ve_callB rfl (cs_maxL rfl) k__law_let_max T.n_max v_max (va_cons (ve_bin os_add (ve_lst (va_cons (ve_set ve_int) va_nil)) (ve_lc rfl ND (own := [("sign", 3), ("length", 4)]) (vi_list rfl (ve_var i__law_let_lengths (.inl k__law_let_lengths) d_lengths e_lengths)) (show BlkOk N__law_let (defScope s__law_let) _ _ from blkOk_by (by decide +kernel)) (pinVo hp [3, 4]) (by decide) (fun _ _ _ _ _ => (vg_tup rfl (vgs_cons ND i__law_let_sign (.inl (cv_own k__law_let_1_sign)) (pinV hp 3) (vgs_cons ND i__law_let_length (.inl (cv_own k__law_let_1_length)) (pinV hp 4) vgs_nil)))) (fun _ _ _ _ _ => vts_nil) (fun _ _ _ _ _ => (ve_var i__law_let_length (.inl (cv_own k__law_let_1_length)) d_length e_length)))) va_nil) nn_max d_max) ve_int (nomark _)) (vss_one (vs_ret ve_bl)) vss_nil)
  (vss_cons (vs_set ND i__law_let_whole (.inl k__law_let_whole) (pinV hp 1) (ve_bin os_mul (ve_bin os_mul (ve_bin os_mul (ve_bin os_pow ve_int ve_int) (ve_bin os_pow ve_int ve_int)) (ve_bin os_pow ve_int ve_int)) (ve_bin os_pow ve_int ve_int)))
  (vss_cons (vs_set ND i__law_let_total (.inl k__law_let_total) (pinV hp 2) ve_int)
  (vss_cons (vs_for (passes_of rfl) rfl (vi_list rfl (ve_var i__law_let_lengths (.inl k__law_let_lengths) d_lengths e_lengths)) (vg_tup rfl (vgs_cons ND i__law_let_sign (.inl k__law_let_sign) (pinV hp 3) (vgs_cons ND i__law_let_length (.inl k__law_let_length) (pinV hp 4) vgs_nil))) (vss_cons (vs_set ND i__law_let_part (.inl k__law_let_part) (pinV hp 5) (ve_var i__law_let_whole (.inl k__law_let_whole) d_whole e_whole))
  (vss_cons (vs_for (passes_of rfl) rfl (vi_range1 k__law_let_range T.n_range (va_cons (ve_var i__law_let_length (.inl k__law_let_length) d_length e_length) va_nil)) (vg_name ND i__law_let_k (.inl k__law_let_k) (pinV hp 6)) (vss_one (vs_set ND i__law_let_part (.inl k__law_let_part) (pinV hp 5) (ve_bin os_div (ve_var i__law_let_part (.inl k__law_let_part) d_part e_part) ve_int))))
  (vss_one (vs_set ND i__law_let_total (.inl k__law_let_total) (pinV hp 2) (ve_bin os_add (ve_var i__law_let_total (.inl k__law_let_total) d_total e_total) (ve_var i__law_let_part (.inl k__law_let_part) d_part e_part)))))))
  (vss_one (vs_ret (ve_cmp os_le (ve_var i__law_let_total (.inl k__law_let_total) d_total e_total) (ve_var i__law_let_whole (.inl k__law_let_whole) d_whole e_whole) (nomark _))))))))
theorem ok_room_of (T : Txt K mg) : FnOk P w K mg base (L2.CX P w) 1 T.a_room_of T.fd_room_of ["length"] (spV T.G 1 F_room_of) := by
  have ND := sc_room_of.nd
  exact fnV2 (N := N_room_of) (ps := ["length"]) (G := T.G) (k := 0) (fb := f_room_of) T.F_room_of sc_room_of fun cdv A outer s H E C hr hp =>
  (vss_cons (vs_set ND i_room_of_found (.inl k_room_of_found) (pinV hp 1) (ve_gint k_room_of_WHOLE T.g_WHOLE d_WHOLE))
  (vss_cons (vs_for (passes_of rfl) rfl (vi_range1 k_room_of_range T.n_range (va_cons (ve_var i_room_of_length (.inl k_room_of_length) d_length e_length) va_nil)) (vg_name ND i_room_of_k (.inl k_room_of_k) (pinV hp 2)) (vss_one (vs_set ND i_room_of_found (.inl k_room_of_found) (pinV hp 1) (ve_bin os_div (ve_var i_room_of_found (.inl k_room_of_found) d_found e_found) ve_int))))
  (vss_one (vs_ret (ve_var i_room_of_found (.inl k_room_of_found) d_found e_found)))))
theorem ok_need_words (T : Txt K mg) : FnOk P w K mg base (L2.CX P w) 2 T.a_need_words T.fd_need_words ["lengths"] (spV T.G 1 F_need_words) := by
  have ND := sc_need_words.nd
  exact fnV2 (N := N_need_words) (ps := ["lengths"]) (G := T.G) (k := 1) (fb := f_need_words) T.F_need_words sc_need_words fun cdv A outer s H E C hr hp =>
  (vss_cons (vs_if (vt_cmp (os_ne hr.units) (ve_lc rfl ND (own := [("sign", 1), ("length", 2)]) (vi_list rfl (ve_var i_need_words_lengths (.inl k_need_words_lengths) d_lengths e_lengths)) (show BlkOk N_need_words (defScope s_need_words) _ _ from blkOk_by (by decide +kernel)) (pinVo hp [1, 2]) (by decide) (fun _ _ _ _ _ => (vg_tup rfl (vgs_cons ND i_need_words_sign (.inl (cv_own k_need_words_1_sign)) (pinV hp 1) (vgs_cons ND i_need_words_length (.inl (cv_own k_need_words_1_length)) (pinV hp 2) vgs_nil)))) (fun _ _ _ _ _ => (vts_one (vt_cmp os_gt (ve_var i_need_words_length (.inl (cv_own k_need_words_1_length)) d_length e_length) (ve_gint (cv_gl k_need_words_1_LONGEST) T.g_LONGEST d_LONGEST) (nomark _)))) (fun _ _ _ _ _ => (ve_var i_need_words_length (.inl (cv_own k_need_words_1_length)) d_length e_length))) (ve_lst va_nil) (nomark _)) (vss_one (vs_raise (c := 2) rfl (takes_of rfl rfl rfl rfl) T.x_NoCode T.m_NoCode T.kc_NoCode (raises_own T.cf_NoCode.bc T.cf_NoCode.tc) k_need_words_NoCode d_NoCode)) vss_nil)
  (vss_one (vs_if (vt_cmp os_gt (ve_callB rfl (cs_sum rfl) k_need_words_sum T.n_sum v_sum (va_cons (ve_lc rfl ND (own := [("sign", 1), ("length", 2)]) (vi_list rfl (ve_var i_need_words_lengths (.inl k_need_words_lengths) d_lengths e_lengths)) (show BlkOk N_need_words (defScope s_need_words) _ _ from blkOk_by (by decide +kernel)) (pinVo hp [1, 2]) (by decide) (fun _ _ _ _ _ => (vg_tup rfl (vgs_cons ND i_need_words_sign (.inl (cv_own k_need_words_2_sign)) (pinV hp 1) (vgs_cons ND i_need_words_length (.inl (cv_own k_need_words_2_length)) (pinV hp 2) vgs_nil)))) (fun _ _ _ _ _ => vts_nil) (fun _ _ _ _ _ => (ve_call takes0 (ok_room_of T) (hr.mono (by decide)) (cv_gl k_need_words_2_room_of) T.m_room_of T.k_room_of T.b_room_of (va_cons (ve_var i_need_words_length (.inl (cv_own k_need_words_2_length)) d_length e_length) va_nil) d_room_of))) va_nil) nn_sum d_sum) (ve_gint k_need_words_WHOLE T.g_WHOLE d_WHOLE) (nomark _)) (vss_one (vs_raise (c := 2) rfl (takes_of rfl rfl rfl rfl) T.x_NoCode T.m_NoCode T.kc_NoCode (raises_own T.cf_NoCode.bc T.cf_NoCode.tc) k_need_words_NoCode d_NoCode)) vss_nil)))
theorem ok_figures_of (T : Txt K mg) : FnOk P w K mg base (L2.CX P w) 1 T.a_figures_of T.fd_figures_of ["n"] (spV T.G 1 F_figures_of) := by
  have ND := sc_figures_of.nd
  exact fnV2 (N := N_figures_of) (ps := ["n"]) (G := T.G) (k := 0) (fb := f_figures_of) T.F_figures_of sc_figures_of fun cdv A outer s H E C hr hp =>
  (vss_cons (vs_set ND i_figures_of_found (.inl k_figures_of_found) (pinV hp 1) (ve_lst va_nil))
  (vss_cons (vs_while fuel (passes_of rfl) (vt_cmp os_gt (ve_var i_figures_of_n (.inl k_figures_of_n) d_n e_n) ve_int (nomark _)) (vss_cons (vs_expr (ve_app i_figures_of_found (.inl k_figures_of_found) d_found e_found (ve_bin os_mod (ve_var i_figures_of_n (.inl k_figures_of_n) d_n e_n) ve_int)))
  (vss_one (vs_set ND i_figures_of_n (.inl k_figures_of_n) (pinV hp 0) (ve_bin os_div (ve_var i_figures_of_n (.inl k_figures_of_n) d_n e_n) ve_int)))))
  (vss_one (vs_ret (ve_var i_figures_of_found (.inl k_figures_of_found) d_found e_found)))))
theorem ok_low_bits (T : Txt K mg) : FnOk P w K mg base (L2.CX P w) 2 T.a_low_bits T.fd_low_bits ["n", "k"] (spV T.G 2 F_low_bits) := by
  have ND := sc_low_bits.nd
  exact fnV2 (N := N_low_bits) (ps := ["n", "k"]) (G := T.G) (k := 1) (fb := f_low_bits) T.F_low_bits sc_low_bits fun cdv A outer s H E C hr hp =>
  (vss_cons (vs_if (vt_cmp os_lt (ve_var i_low_bits_n (.inl k_low_bits_n) d_n e_n) ve_int (nomark _)) (vss_one (vs_raise (c := 1) rfl (takes_of rfl rfl rfl rfl) T.x_NoNumber T.m_NoNumber T.kc_NoNumber (raises_own T.cf_NoNumber.bc T.cf_NoNumber.tc) k_low_bits_NoNumber d_NoNumber)) vss_nil)
  (vss_cons (vs_set ND i_low_bits_found (.inl k_low_bits_found) (pinV hp 2) (ve_call (takes_of rfl rfl rfl rfl) (ok_figures_of T) (hr.mono (by decide)) k_low_bits_figures_of T.m_figures_of T.k_figures_of T.b_figures_of (va_cons (ve_var i_low_bits_n (.inl k_low_bits_n) d_n e_n) va_nil) d_figures_of))
  (vss_cons (vs_if (vt_cmp os_gt (ve_callB rfl cs_len k_low_bits_len T.n_len v_len (va_cons (ve_var i_low_bits_found (.inl k_low_bits_found) d_found e_found) va_nil) nn_len d_len) (ve_var i_low_bits_k (.inl k_low_bits_k) d_k e_k) (nomark _)) (vss_one (vs_raise (c := 1) rfl (takes_of rfl rfl rfl rfl) T.x_NoNumber T.m_NoNumber T.kc_NoNumber (raises_own T.cf_NoNumber.bc T.cf_NoNumber.tc) k_low_bits_NoNumber d_NoNumber)) vss_nil)
  (vss_one (vs_ret (ve_bin os_add (ve_bin os_mul (ve_lst (va_cons (ve_set ve_int) va_nil)) (ve_bin os_sub (ve_var i_low_bits_k (.inl k_low_bits_k) d_k e_k) (ve_callB rfl cs_len k_low_bits_len T.n_len v_len (va_cons (ve_var i_low_bits_found (.inl k_low_bits_found) d_found e_found) va_nil) nn_len d_len))) (ve_rev rfl (ve_var i_low_bits_found (.inl k_low_bits_found) d_found e_found))))))))
theorem ok_words_by (T : Txt K mg) : FnOk P w K mg base (L2.CX P w) 3 T.a_words_by T.fd_words_by ["lengths"] (spV T.G 1 F_words_by) := by
  have ND := sc_words_by.nd
  exact fnV2 (N := N_words_by) (ps := ["lengths"]) (G := T.G) (k := 2) (fb := f_words_by) T.F_words_by sc_words_by fun cdv A outer s H E C hr hp =>
  (vss_cons (vs_expr (ve_call (takes_of rfl rfl rfl rfl) (ok_need_words T) (hr.mono (by decide)) k_words_by_need_words T.m_need_words T.k_need_words T.b_need_words (va_cons (ve_var i_words_by_lengths (.inl k_words_by_lengths) d_lengths e_lengths) va_nil) d_need_words))
  (vss_cons (vs_set ND i_words_by_found (.inl k_words_by_found) (pinV hp 1) (ve_lst va_nil))
  (vss_cons (vs_set ND i_words_by_number (.inl k_words_by_number) (pinV hp 2) ve_int)
  (vss_cons (vs_set ND i_words_by_ahead (.inl k_words_by_ahead) (pinV hp 3) ve_int)
  (vss_cons (vs_for (passes_of rfl) rfl (vi_list rfl (ve_callB rfl cs_sortedP k_words_by_sorted T.n_sorted v_sorted (va_cons (ve_lc rfl ND (own := [("sign", 5), ("length", 4)]) (vi_list rfl (ve_var i_words_by_lengths (.inl k_words_by_lengths) d_lengths e_lengths)) (show BlkOk N_words_by (defScope s_words_by) _ _ from blkOk_by (by decide +kernel)) (pinVo hp [5, 4]) (by decide) (fun _ _ _ _ _ => (vg_tup rfl (vgs_cons ND i_words_by_sign (.inl (cv_own k_words_by_1_sign)) (pinV hp 5) (vgs_cons ND i_words_by_length (.inl (cv_own k_words_by_1_length)) (pinV hp 4) vgs_nil)))) (fun _ _ _ _ _ => vts_nil) (fun _ _ _ _ _ => (ve_tup (va_cons (ve_set (ve_var i_words_by_length (.inl (cv_own k_words_by_1_length)) d_length e_length)) (va_cons (ve_set (ve_var i_words_by_sign (.inl (cv_own k_words_by_1_sign)) d_sign e_sign)) va_nil))))) va_nil) nn_sorted d_sorted)) (vg_tup rfl (vgs_cons ND i_words_by_length (.inl k_words_by_length) (pinV hp 4) (vgs_cons ND i_words_by_sign (.inl k_words_by_sign) (pinV hp 5) vgs_nil))) (vss_cons (vs_for (passes_of rfl) rfl (vi_range1 k_words_by_range T.n_range (va_cons (ve_bin os_sub (ve_var i_words_by_length (.inl k_words_by_length) d_length e_length) (ve_var i_words_by_ahead (.inl k_words_by_ahead) d_ahead e_ahead)) va_nil)) (vg_name ND i_words_by_k (.inl k_words_by_k) (pinV hp 6)) (vss_one (vs_set ND i_words_by_number (.inl k_words_by_number) (pinV hp 2) (ve_bin os_mul ve_int (ve_var i_words_by_number (.inl k_words_by_number) d_number e_number)))))
  (vss_cons (vs_expr (ve_app i_words_by_found (.inl k_words_by_found) d_found e_found (ve_tup (va_cons (ve_set (ve_var i_words_by_sign (.inl k_words_by_sign) d_sign e_sign)) (va_cons (ve_set (ve_call (takes_of rfl rfl rfl rfl) (ok_low_bits T) (hr.mono (by decide)) k_words_by_low_bits T.m_low_bits T.k_low_bits T.b_low_bits (va_cons (ve_var i_words_by_number (.inl k_words_by_number) d_number e_number) (va_cons (ve_var i_words_by_length (.inl k_words_by_length) d_length e_length) va_nil)) d_low_bits)) va_nil)))))
  (vss_cons (vs_aug ND i_words_by_number (.inl k_words_by_number) (pinV hp 2) os_iadd ve_int)
  (vss_one (vs_set ND i_words_by_ahead (.inl k_words_by_ahead) (pinV hp 3) (ve_var i_words_by_length (.inl k_words_by_length) d_length e_length)))))))
  (vss_one (vs_ret (ve_callB rfl (cs_sortedN (units65 hr)) k_words_by_sorted T.n_sorted v_sorted (va_cons (ve_var i_words_by_found (.inl k_words_by_found) d_found e_found) va_nil) nn_sorted d_sorted))))))))
theorem ok_coded (T : Txt K mg) : FnOk P w K mg base (L2.CX P w) 4 T.a_coded T.fd_coded ["text", "lengths"] (spV T.G 2 F_coded) := by
  have ND := sc_coded.nd
  exact fnV2 (N := N_coded) (ps := ["text", "lengths"]) (G := T.G) (k := 3) (fb := f_coded) T.F_coded sc_coded fun cdv A outer s H E C hr hp =>
  (vss_cons (vs_set ND i_coded_words (.inl k_coded_words) (pinV hp 2) (ve_dictOf rfl k_coded_dict T.n_dict v_dict (ve_call (takes_of rfl rfl rfl rfl) (ok_words_by T) (hr.mono (by decide)) k_coded_words_by T.m_words_by T.k_words_by T.b_words_by (va_cons (ve_var i_coded_lengths (.inl k_coded_lengths) d_lengths e_lengths) va_nil) d_words_by) nn_dict d_dict))
  (vss_cons (vs_set ND i_coded_found (.inl k_coded_found) (pinV hp 3) (ve_lst va_nil))
  (vss_cons (vs_for (passes_of rfl) rfl (vi_list rfl (ve_var i_coded_text (.inl k_coded_text) d_text e_text)) (vg_name ND i_coded_sign (.inl k_coded_sign) (pinV hp 4)) (vss_cons (vs_if (vt_dnin (units1 hr) (ve_var i_coded_sign (.inl k_coded_sign) d_sign e_sign) (ve_var i_coded_words (.inl k_coded_words) d_words e_words) (by with_unfolding_all rfl)) (vss_one (vs_raise (c := 2) rfl (takes_of rfl rfl rfl rfl) T.x_NoCode T.m_NoCode T.kc_NoCode (raises_own T.cf_NoCode.bc T.cf_NoCode.tc) k_coded_NoCode d_NoCode)) vss_nil)
  (vss_one (vs_expr (ve_ext i_coded_found (.inl k_coded_found) d_found e_found (ve_dget (units1 hr) (ve_var i_coded_words (.inl k_coded_words) d_words e_words) (ve_var i_coded_sign (.inl k_coded_sign) d_sign e_sign) (fun _ _ => rfl)))))))
  (vss_one (vs_ret (ve_var i_coded_found (.inl k_coded_found) d_found e_found))))))
theorem ok_decoded (T : Txt K mg) : FnOk P w K mg base (L2.CX P w) 4 T.a_decoded T.fd_decoded ["bits", "at", "lengths", "many"] (spV T.G 4 F_decoded) := by
  have ND := sc_decoded.nd
  exact fnV2 (N := N_decoded) (ps := ["bits", "at", "lengths", "many"]) (G := T.G) (k := 3) (fb := f_decoded) T.F_decoded sc_decoded fun cdv A outer s H E C hr hp =>
  (vss_cons (vs_set ND i_decoded_signs (.inl k_decoded_signs) (pinV hp 4) ve_tnew)
  (vss_cons (vs_for (passes_of rfl) rfl (vi_list rfl (ve_call (takes_of rfl rfl rfl rfl) (ok_words_by T) (hr.mono (by decide)) k_decoded_words_by T.m_words_by T.k_words_by T.b_words_by (va_cons (ve_var i_decoded_lengths (.inl k_decoded_lengths) d_lengths e_lengths) va_nil) d_words_by)) (vg_tup rfl (vgs_cons ND i_decoded_sign (.inl k_decoded_sign) (pinV hp 5) (vgs_cons ND i_decoded_word (.inl k_decoded_word) (pinV hp 6) vgs_nil))) (vss_one (vs_tput (units1 hr) i_decoded_signs (.inl k_decoded_signs) d_signs e_signs (ve_tupOf k_decoded_tuple T.n_tuple v_tuple (ve_var i_decoded_word (.inl k_decoded_word) d_word e_word) nn_tuple d_tuple) (ve_var i_decoded_sign (.inl k_decoded_sign) d_sign e_sign))))
  (vss_cons (vs_if (VW.pt (vw_or (vt_cmp os_lt (ve_var i_decoded_at (.inl k_decoded_at) d_at e_at) ve_int (nomark _)) (vw_or1 (vt_cmp os_gt (ve_var i_decoded_at (.inl k_decoded_at) d_at e_at) (ve_callB rfl cs_len k_decoded_len T.n_len v_len (va_cons (ve_var i_decoded_bits (.inl k_decoded_bits) d_bits e_bits) va_nil) nn_len d_len) (nomark _))))) (vss_one (vs_raise (c := 4) rfl (takes_of rfl rfl rfl rfl) T.x_Broken T.m_Broken T.kc_Broken (raises_own T.cf_Broken.bc T.cf_Broken.tc) k_decoded_Broken d_Broken)) vss_nil)
  (vss_cons (vs_set ND i_decoded_text (.inl k_decoded_text) (pinV hp 7) (ve_lst va_nil))
  (vss_cons (vs_set ND i_decoded_place (.inl k_decoded_place) (pinV hp 8) (ve_var i_decoded_at (.inl k_decoded_at) d_at e_at))
  (vss_cons (vs_for (passes_of rfl) rfl (vi_range1 k_decoded_range T.n_range (va_cons (ve_var i_decoded_many (.inl k_decoded_many) d_many e_many) va_nil)) (vg_name ND i_decoded_k (.inl k_decoded_k) (pinV hp 9)) (vss_cons (vs_set ND i_decoded_word (.inl k_decoded_word) (pinV hp 6) (ve_tup va_nil))
  (vss_cons (vs_while fuel (passes_of rfl) (vt_tnin (units1 hr) (ve_var i_decoded_word (.inl k_decoded_word) d_word e_word) (ve_var i_decoded_signs (.inl k_decoded_signs) d_signs e_signs) (by with_unfolding_all rfl)) (vss_cons (vs_if (VW.pt (vw_or (vt_cmp os_ge (ve_var i_decoded_place (.inl k_decoded_place) d_place e_place) (ve_callB rfl cs_len k_decoded_len T.n_len v_len (va_cons (ve_var i_decoded_bits (.inl k_decoded_bits) d_bits e_bits) va_nil) nn_len d_len) (nomark _)) (vw_or1 (vt_cmp (os_eq hr.units) (ve_callB rfl cs_len k_decoded_len T.n_len v_len (va_cons (ve_var i_decoded_word (.inl k_decoded_word) d_word e_word) va_nil) nn_len d_len) (ve_gint k_decoded_LONGEST T.g_LONGEST d_LONGEST) (nomark _))))) (vss_one (vs_raise (c := 4) rfl (takes_of rfl rfl rfl rfl) T.x_Broken T.m_Broken T.kc_Broken (raises_own T.cf_Broken.bc T.cf_Broken.tc) k_decoded_Broken d_Broken)) vss_nil)
  (vss_cons (vs_augT ND i_decoded_word (.inl k_decoded_word) (pinV hp 6) os_iaddT (ve_tup (va_cons (ve_set (ve_ix rfl (ve_var i_decoded_bits (.inl k_decoded_bits) d_bits e_bits) (ve_var i_decoded_place (.inl k_decoded_place) d_place e_place) (fun _ _ => rfl))) va_nil)))
  (vss_one (vs_aug ND i_decoded_place (.inl k_decoded_place) (pinV hp 8) os_iadd ve_int)))))
  (vss_one (vs_expr (ve_app i_decoded_text (.inl k_decoded_text) d_text e_text (ve_tget (units1 hr) (ve_var i_decoded_signs (.inl k_decoded_signs) d_signs e_signs) (ve_var i_decoded_word (.inl k_decoded_word) d_word e_word) (fun _ _ => rfl))))))))
  (vss_one (vs_ret (ve_tup (va_cons (ve_set (ve_var i_decoded_text (.inl k_decoded_text) d_text e_text)) (va_cons (ve_set (ve_var i_decoded_place (.inl k_decoded_place) d_place e_place)) va_nil)))))))))))
theorem ok__law_kind (T : Txt K mg) : FnOk P w K mg base (L2.CX P w) 5 T.a__law_kind T.fd__law_kind ["way", "one", "two", "lengths", "many"] (spV T.G 5 F__law_kind) := by
  have ND := sc__law_kind.nd
  exact fnV2 (N := N__law_kind) (ps := ["way", "one", "two", "lengths", "many"]) (G := T.G) (k := 4) (fb := f__law_kind) T.F__law_kind sc__law_kind fun cdv A outer s H E C hr hp =>
  (vss_cons (vs_set ND i__law_kind_caught (.inl k__law_kind_caught) (pinV hp 5) ve_non)
  (vss_cons (vs_set ND i__law_kind_found (.inl k__law_kind_found) (pinV hp 6) ve_non)
  (vss_cons (vs_try rfl rfl rfl ND (.inr ⟨7, "e", rfl, rfl, i__law_kind_e, k__law_kind_e⟩) (fun j e => by cases e; exact (pinV hp 7)) ⟨k__law_kind_PackError, d_PackError, .inl T.m_PackError⟩ (takes_of rfl rfl rfl rfl) (T.tab.exm 0) (fun W1 pn1 xe1 tk1 pa1 => (vss_one (vs_if (vt_cmp (os_eq hr.units) (ve_var i__law_kind_way (.inl k__law_kind_way) d_way e_way) ve_int (nomark _)) (vss_one (vs_set ND i__law_kind_found (.inl k__law_kind_found) (pinV hp 6) (ve_call tk1 (ok_coded T) (hr.mono (by decide)) k__law_kind_coded T.m_coded T.k_coded T.b_coded (va_cons (ve_var i__law_kind_one (.inl k__law_kind_one) d_one e_one) (va_cons (ve_var i__law_kind_lengths (.inl k__law_kind_lengths) d_lengths e_lengths) va_nil)) d_coded))) (vss_one (vs_set ND i__law_kind_found (.inl k__law_kind_found) (pinV hp 6) (ve_call tk1 (ok_decoded T) (hr.mono (by decide)) k__law_kind_decoded T.m_decoded T.k_decoded T.b_decoded (va_cons (ve_var i__law_kind_one (.inl k__law_kind_one) d_one e_one) (va_cons (ve_var i__law_kind_two (.inl k__law_kind_two) d_two e_two) (va_cons (ve_var i__law_kind_lengths (.inl k__law_kind_lengths) d_lengths e_lengths) (va_cons (ve_var i__law_kind_many (.inl k__law_kind_many) d_many e_many) va_nil)))) d_decoded)))))) (fun _ _ => (vss_one (vs_set ND i__law_kind_caught (.inl k__law_kind_caught) (pinV hp 5) (ve_var i__law_kind_e (.inl k__law_kind_e) d_e e_e)))))
  (vss_cons (vs_if (vt_cmp os_is (ve_var i__law_kind_caught (.inl k__law_kind_caught) d_caught e_caught) ve_non (nomark _)) (vss_one (vs_ret (ve_lst (va_cons (ve_set ve_str) (va_cons (ve_take i__law_kind_found (.inl k__law_kind_found) d_found e_found) va_nil))))) vss_nil)
  (vss_cons (vs_set ND i__law_kind_some (.inl k__law_kind_some) (pinV hp 8) (ve_lst (va_cons (ve_set (ve_isi T.tab.etab k__law_kind_isinstance T.n_isinstance v_isinstance (va_cons (ve_var i__law_kind_caught (.inl k__law_kind_caught) d_caught e_caught) (va_cons (ve_gcls (c := 2) k__law_kind_NoCode T.m_NoCode d_NoCode) va_nil)) nn_isinstance d_isinstance)) (va_cons (ve_set (ve_isi T.tab.etab k__law_kind_isinstance T.n_isinstance v_isinstance (va_cons (ve_var i__law_kind_caught (.inl k__law_kind_caught) d_caught e_caught) (va_cons (ve_gcls (c := 4) k__law_kind_Broken T.m_Broken d_Broken) va_nil)) nn_isinstance d_isinstance)) (va_cons (ve_set (ve_isi T.tab.etab k__law_kind_isinstance T.n_isinstance v_isinstance (va_cons (ve_var i__law_kind_caught (.inl k__law_kind_caught) d_caught e_caught) (va_cons (ve_gty k__law_kind_ValueError T.n_ValueError v_ValueError nn_ValueError d_ValueError) va_nil)) nn_isinstance d_isinstance)) va_nil)))))
  (vss_one (vs_ret (ve_bin os_add (ve_var i__law_kind_some (.inl k__law_kind_some) d_some e_some) (ve_lst (va_cons (ve_set (ve_isi T.tab.etab k__law_kind_isinstance T.n_isinstance v_isinstance (va_cons (ve_var i__law_kind_caught (.inl k__law_kind_caught) d_caught e_caught) (va_cons (ve_set (ve_tup (va_cons (ve_set (ve_gcls (c := 6) k__law_kind_NoName T.m_NoName d_NoName)) (va_cons (ve_set (ve_gcls (c := 1) k__law_kind_NoNumber T.m_NoNumber d_NoNumber)) (va_cons (ve_set (ve_gcls (c := 3) k__law_kind_NoPlace T.m_NoPlace d_NoPlace)) (va_cons (ve_set (ve_gcls (c := 7) k__law_kind_NoRow T.m_NoRow d_NoRow)) (va_cons (ve_set (ve_gcls (c := 5) k__law_kind_NoText T.m_NoText d_NoText)) va_nil))))))) va_nil)) nn_isinstance d_isinstance)) va_nil))))))))))
theorem ok__law_words (T : Txt K mg) : FnOk P w K mg base (L2.CX P w) 1 T.a__law_words T.fd__law_words ["lengths"] (spV T.G 1 F__law_words) := by
  have ND := sc__law_words.nd
  exact fnV2 (N := N__law_words) (ps := ["lengths"]) (G := T.G) (k := 0) (fb := f__law_words) T.F__law_words sc__law_words fun cdv A outer s H E C hr hp =>
  (vss_cons (vs_set ND i__law_words_found (.inl k__law_words_found) (pinV hp 1) (ve_lst va_nil))
  (vss_cons (vs_set ND i__law_words_bits (.inl k__law_words_bits) (pinV hp 2) (ve_lst va_nil))
  (vss_cons (vs_for (passes_of rfl) rfl (vi_list rfl (ve_callB rfl cs_sortedP k__law_words_sorted T.n_sorted v_sorted (va_cons (ve_lc rfl ND (own := [("sign", 4), ("length", 3)]) (vi_list rfl (ve_var i__law_words_lengths (.inl k__law_words_lengths) d_lengths e_lengths)) (show BlkOk N__law_words (defScope s__law_words) _ _ from blkOk_by (by decide +kernel)) (pinVo hp [4, 3]) (by decide) (fun _ _ _ _ _ => (vg_tup rfl (vgs_cons ND i__law_words_sign (.inl (cv_own k__law_words_1_sign)) (pinV hp 4) (vgs_cons ND i__law_words_length (.inl (cv_own k__law_words_1_length)) (pinV hp 3) vgs_nil)))) (fun _ _ _ _ _ => vts_nil) (fun _ _ _ _ _ => (ve_tup (va_cons (ve_set (ve_var i__law_words_length (.inl (cv_own k__law_words_1_length)) d_length e_length)) (va_cons (ve_set (ve_var i__law_words_sign (.inl (cv_own k__law_words_1_sign)) d_sign e_sign)) va_nil))))) va_nil) nn_sorted d_sorted)) (vg_tup rfl (vgs_cons ND i__law_words_length (.inl k__law_words_length) (pinV hp 3) (vgs_cons ND i__law_words_sign (.inl k__law_words_sign) (pinV hp 4) vgs_nil))) (vss_cons (vs_if (vt_cmp (os_eq hr.units) (ve_var i__law_words_found (.inl k__law_words_found) d_found e_found) (ve_lst va_nil) (nomark _)) (vss_one (vs_set ND i__law_words_bits (.inl k__law_words_bits) (pinV hp 2) (ve_bin os_mul (ve_lst (va_cons (ve_set ve_int) va_nil)) (ve_var i__law_words_length (.inl k__law_words_length) d_length e_length)))) (vss_cons (vs_set ND i__law_words_bits (.inl k__law_words_bits) (pinV hp 2) (ve_callTy rfl cs_list k__law_words_list T.n_list v_list (va_cons (ve_var i__law_words_bits (.inl k__law_words_bits) d_bits e_bits) va_nil) nn_list d_list))
  (vss_cons (vs_set ND i__law_words_at (.inl k__law_words_at) (pinV hp 5) (ve_bin os_sub (ve_callB rfl cs_len k__law_words_len T.n_len v_len (va_cons (ve_var i__law_words_bits (.inl k__law_words_bits) d_bits e_bits) va_nil) nn_len d_len) ve_int))
  (vss_cons (vs_while fuel (passes_of rfl) (vt_cmp (os_eq hr.units) (ve_ix rfl (ve_var i__law_words_bits (.inl k__law_words_bits) d_bits e_bits) (ve_var i__law_words_at (.inl k__law_words_at) d_at e_at) (fun _ _ => rfl)) ve_int (nomark _)) (vss_cons (vs_setIx i__law_words_bits (.inl k__law_words_bits) d_bits e_bits (ve_var i__law_words_at (.inl k__law_words_at) d_at e_at) ve_int)
  (vss_one (vs_set ND i__law_words_at (.inl k__law_words_at) (pinV hp 5) (ve_bin os_sub (ve_var i__law_words_at (.inl k__law_words_at) d_at e_at) ve_int)))))
  (vss_cons (vs_setIx i__law_words_bits (.inl k__law_words_bits) d_bits e_bits (ve_var i__law_words_at (.inl k__law_words_at) d_at e_at) ve_int)
  (vss_one (vs_set ND i__law_words_bits (.inl k__law_words_bits) (pinV hp 2) (ve_bin os_add (ve_var i__law_words_bits (.inl k__law_words_bits) d_bits e_bits) (ve_bin os_mul (ve_lst (va_cons (ve_set ve_int) va_nil)) (ve_bin os_sub (ve_var i__law_words_length (.inl k__law_words_length) d_length e_length) (ve_callB rfl cs_len k__law_words_len T.n_len v_len (va_cons (ve_var i__law_words_bits (.inl k__law_words_bits) d_bits e_bits) va_nil) nn_len d_len)))))))))))
  (vss_one (vs_expr (ve_app i__law_words_found (.inl k__law_words_found) d_found e_found (ve_tup (va_cons (ve_set (ve_var i__law_words_sign (.inl k__law_words_sign) d_sign e_sign)) (va_cons (ve_set (ve_var i__law_words_bits (.inl k__law_words_bits) d_bits e_bits)) va_nil))))))))
  (vss_one (vs_ret (ve_callB rfl (cs_sortedN (units65 hr)) k__law_words_sorted T.n_sorted v_sorted (va_cons (ve_var i__law_words_found (.inl k__law_words_found) d_found e_found) va_nil) nn_sorted d_sorted))))))
theorem ok__law_decoded (T : Txt K mg) : FnOk P w K mg base (L2.CX P w) 2 T.a__law_decoded T.fd__law_decoded ["bits", "at", "lengths", "many"] (spV T.G 4 F__law_decoded) := by
  have ND := sc__law_decoded.nd
  exact fnV2 (N := N__law_decoded) (ps := ["bits", "at", "lengths", "many"]) (G := T.G) (k := 1) (fb := f__law_decoded) T.F__law_decoded sc__law_decoded fun cdv A outer s H E C hr hp =>
  (vss_cons (vs_if (vt_not (vt_val (ve_call (takes_of rfl rfl rfl rfl) (ok__law_let T) (hr.mono (by decide)) k__law_decoded__law_let T.m__law_let T.k__law_let T.b__law_let (va_cons (ve_var i__law_decoded_lengths (.inl k__law_decoded_lengths) d_lengths e_lengths) va_nil) d__law_let) (fun _ => rfl))) (vss_one (vs_ret (ve_lst (va_cons (ve_set ve_bl) (va_cons (ve_set ve_bl) (va_cons (ve_set ve_bl) (va_cons (ve_set ve_bl) va_nil))))))) vss_nil)
  (vss_cons (vs_set ND i__law_decoded_words (.inl k__law_decoded_words) (pinV hp 4) (ve_call (takes_of rfl rfl rfl rfl) (ok__law_words T) (hr.mono (by decide)) k__law_decoded__law_words T.m__law_words T.k__law_words T.b__law_words (va_cons (ve_var i__law_decoded_lengths (.inl k__law_decoded_lengths) d_lengths e_lengths) va_nil) d__law_words))
  (vss_cons (vs_if (VW.pt (vw_or (vt_cmp os_lt (ve_var i__law_decoded_at (.inr (.inl k__law_decoded_at)) d_at e_at) ve_int (nomark _)) (vw_or1 (vt_cmp os_gt (ve_var i__law_decoded_at (.inr (.inl k__law_decoded_at)) d_at e_at) (ve_callB rfl cs_len k__law_decoded_len T.n_len v_len (va_cons (ve_var i__law_decoded_bits (.inr (.inl k__law_decoded_bits)) d_bits e_bits) va_nil) nn_len d_len) (nomark _))))) (vss_one (vs_ret (ve_lst (va_cons (ve_set ve_bl) (va_cons (ve_set ve_bl) (va_cons (ve_set ve_bl) (va_cons (ve_set ve_bl) va_nil))))))) vss_nil)
  (vss_cons (vs_set ND i__law_decoded_text (.inl k__law_decoded_text) (pinV hp 5) (ve_lst va_nil))
  (vss_cons (vs_for (passes_of rfl) rfl (vi_range1 k__law_decoded_range T.n_range (va_cons (ve_var i__law_decoded_many (.inl k__law_decoded_many) d_many e_many) va_nil)) (vg_name ND i__law_decoded_k (.inl k__law_decoded_k) (pinV hp 6)) (vss_cons (vs_setLc rfl ND i__law_decoded_here k__law_decoded_here (pinV hp 7) (sw_true sc__law_decoded.kind k__law_decoded_here rfl (by decide +kernel)) (own := [("sign", 8), ("word", 9)]) (vi_list rfl (ve_var i__law_decoded_words (.inl k__law_decoded_words) d_words e_words)) (show BlkOk N__law_decoded (defScope s__law_decoded) _ _ from blkOk_by (by decide +kernel)) (pinVo hp [8, 9]) (by decide) (fun _ _ _ _ _ => (vg_tup rfl (vgs_cons ND i__law_decoded_sign (.inl (cv_own k__law_decoded_1_sign)) (pinV hp 8) (vgs_cons ND i__law_decoded_word (.inl (cv_own k__law_decoded_1_word)) (pinV hp 9) vgs_nil)))) (fun _ _ _ _ _ => (vts_one (vt_cmp (os_eq hr.units) (ve_slice rfl (ve_var i__law_decoded_bits (cv_free k__law_decoded_1_bits) d_bits e_bits) (vo_some (ve_var i__law_decoded_at (cv_free k__law_decoded_1_at) d_at e_at)) (vo_some (ve_bin os_add (ve_var i__law_decoded_at (cv_free k__law_decoded_1_at) d_at e_at) (ve_callB rfl cs_len (cv_gl k__law_decoded_1_len) T.n_len v_len (va_cons (ve_var i__law_decoded_word (.inl (cv_own k__law_decoded_1_word)) d_word e_word) va_nil) nn_len d_len)))) (ve_var i__law_decoded_word (.inl (cv_own k__law_decoded_1_word)) d_word e_word) (nomark _)))) (fun _ _ _ _ _ => (ve_var i__law_decoded_sign (.inl (cv_own k__law_decoded_1_sign)) d_sign e_sign)))
  (vss_cons (vs_if (vt_cmp (os_eq hr.units) (ve_var i__law_decoded_here (.inl k__law_decoded_here) d_here e_here) (ve_lst va_nil) (nomark _)) (vss_one (vs_ret (ve_lst (va_cons (ve_set ve_bl) (va_cons (ve_set ve_bl) (va_cons (ve_set ve_bl) (va_cons (ve_set ve_bl) va_nil))))))) vss_nil)
  (vss_cons (vs_expr (ve_app i__law_decoded_text (.inl k__law_decoded_text) d_text e_text (ve_ix rfl (ve_var i__law_decoded_here (.inl k__law_decoded_here) d_here e_here) ve_int (fun _ _ => rfl))))
  (vss_one (vs_set ND i__law_decoded_at (.inr k__law_decoded_at) (pinV hp 1) (ve_bin os_add (ve_var i__law_decoded_at (.inr (.inl k__law_decoded_at)) d_at e_at) (ve_callB rfl cs_len k__law_decoded_len T.n_len v_len (va_cons (ve_dget (units1 hr) (ve_dictOf rfl k__law_decoded_dict T.n_dict v_dict (ve_var i__law_decoded_words (.inl k__law_decoded_words) d_words e_words) nn_dict d_dict) (ve_ix rfl (ve_var i__law_decoded_here (.inl k__law_decoded_here) d_here e_here) ve_int (fun _ _ => rfl)) (fun _ _ => rfl)) va_nil) nn_len d_len))))))))
  (vss_one (vs_ret (ve_lst (va_cons (ve_set ve_str) (va_cons (ve_set (ve_tup (va_cons (ve_set (ve_var i__law_decoded_text (.inl k__law_decoded_text) d_text e_text)) (va_cons (ve_set (ve_var i__law_decoded_at (.inr (.inl k__law_decoded_at)) d_at e_at)) va_nil)))) va_nil))))))))))
theorem ok__law_read_right (T : Txt K mg) : FnOk P w K mg base (L2.CX P w) 6 T.a__law_read_right T.fd__law_read_right ["bits", "at", "lengths", "many"] (spV T.G 4 F__law_read_right) := by
  have ND := sc__law_read_right.nd
  exact fnV2 (N := N__law_read_right) (ps := ["bits", "at", "lengths", "many"]) (G := T.G) (k := 5) (fb := f__law_read_right) T.F__law_read_right sc__law_read_right fun cdv A outer s H E C hr hp =>
  (vss_cons (vs_set ND i__law_read_right_handed (.inl k__law_read_right_handed) (pinV hp 4) (ve_lst (va_cons (ve_set (ve_callTy rfl cs_list k__law_read_right_list T.n_list v_list (va_cons (ve_var i__law_read_right_bits (.inl k__law_read_right_bits) d_bits e_bits) va_nil) nn_list d_list)) (va_cons (ve_set (ve_callTy rfl cs_list k__law_read_right_list T.n_list v_list (va_cons (ve_var i__law_read_right_lengths (.inl k__law_read_right_lengths) d_lengths e_lengths) va_nil) nn_list d_list)) va_nil))))
  (vss_cons (vs_set ND i__law_read_right_found (.inl k__law_read_right_found) (pinV hp 5) (ve_call (takes_of rfl rfl rfl rfl) (ok__law_kind T) (hr.mono (by decide)) k__law_read_right__law_kind T.m__law_kind T.k__law_kind T.b__law_kind (va_cons ve_int (va_cons (ve_ix rfl (ve_var i__law_read_right_handed (.inl k__law_read_right_handed) d_handed e_handed) ve_int (fun _ _ => rfl)) (va_cons (ve_var i__law_read_right_at (.inl k__law_read_right_at) d_at e_at) (va_cons (ve_ix rfl (ve_var i__law_read_right_handed (.inl k__law_read_right_handed) d_handed e_handed) ve_int (fun _ _ => rfl)) (va_cons (ve_var i__law_read_right_many (.inl k__law_read_right_many) d_many e_many) va_nil))))) d__law_kind))
  (vss_cons (vs_if (VW.pt (vw_or (vt_cmp (os_ne hr.units) (ve_var i__law_read_right_found (.inl k__law_read_right_found) d_found e_found) (ve_call (takes_of rfl rfl rfl rfl) (ok__law_decoded T) (hr.mono (by decide)) k__law_read_right__law_decoded T.m__law_decoded T.k__law_decoded T.b__law_decoded (va_cons (ve_var i__law_read_right_bits (.inl k__law_read_right_bits) d_bits e_bits) (va_cons (ve_var i__law_read_right_at (.inl k__law_read_right_at) d_at e_at) (va_cons (ve_var i__law_read_right_lengths (.inl k__law_read_right_lengths) d_lengths e_lengths) (va_cons (ve_var i__law_read_right_many (.inl k__law_read_right_many) d_many e_many) va_nil)))) d__law_decoded) (nomark _)) (vw_or1 (vt_cmp (os_ne hr.units) (ve_var i__law_read_right_handed (.inl k__law_read_right_handed) d_handed e_handed) (ve_lst (va_cons (ve_set (ve_var i__law_read_right_bits (.inl k__law_read_right_bits) d_bits e_bits)) (va_cons (ve_set (ve_var i__law_read_right_lengths (.inl k__law_read_right_lengths) d_lengths e_lengths)) va_nil))) (nomark _))))) (vss_one (vs_ret ve_bl)) vss_nil)
  (vss_one (vs_ret (ve_or (ve_cmp (os_ne hr.units) (ve_ix rfl (ve_var i__law_read_right_found (.inl k__law_read_right_found) d_found e_found) ve_int (fun _ _ => rfl)) ve_str (nomark _)) (ve_one (ve_and (ve_isi T.tab.etab k__law_read_right_isinstance T.n_isinstance v_isinstance (va_cons (ve_ix rfl (ve_var i__law_read_right_found (.inl k__law_read_right_found) d_found e_found) ve_int (fun _ _ => rfl)) (va_cons (ve_gty k__law_read_right_tuple T.n_tuple v_tuple nn_tuple d_tuple) va_nil)) nn_isinstance d_isinstance) (ve_one (ve_isi T.tab.etab k__law_read_right_isinstance T.n_isinstance v_isinstance (va_cons (ve_ix rfl (ve_ix rfl (ve_var i__law_read_right_found (.inl k__law_read_right_found) d_found e_found) ve_int (fun _ _ => rfl)) ve_int (fun _ _ => rfl)) (va_cons (ve_gty k__law_read_right_list T.n_list v_list nn_list d_list) va_nil)) nn_isinstance d_isinstance))))))))))
theorem ok__law_all_read (T : Txt K mg) : FnOk P w K mg base (L2.CX P w) 7 T.a__law_all_read T.fd__law_all_read ["ahead", "bits", "drawn", "lengths", "whole", "signs"] (spV T.G 6 F__law_all_read) := by
  have ND := sc__law_all_read.nd
  exact fnV2 (N := N__law_all_read) (ps := ["ahead", "bits", "drawn", "lengths", "whole", "signs"]) (G := T.G) (k := 6) (fb := f__law_all_read) T.F__law_all_read sc__law_all_read fun cdv A outer s H E C hr hp =>
  (vss_cons (vs_set ND i__law_all_read_long (.inl k__law_all_read_long) (pinV hp 6) (ve_bin os_add (ve_bin os_add (ve_var i__law_all_read_ahead (.inl k__law_all_read_ahead) d_ahead e_ahead) (ve_var i__law_all_read_bits (.inl k__law_all_read_bits) d_bits e_bits)) (ve_slice rfl (ve_var i__law_all_read_drawn (.inl k__law_all_read_drawn) d_drawn e_drawn) (vo_some ve_int) (vo_some ve_int))))
  (vss_cons (vs_for (passes_of rfl) rfl (vi_list rfl (ve_lst (va_cons (ve_set ve_int) (va_cons (ve_set ve_int) (va_cons (ve_set (ve_bin os_div (ve_callB rfl cs_len k__law_all_read_len T.n_len v_len (va_cons (ve_var i__law_all_read_signs (.inl k__law_all_read_signs) d_signs e_signs) va_nil) nn_len d_len) ve_int)) (va_cons (ve_set (ve_callB rfl cs_len k__law_all_read_len T.n_len v_len (va_cons (ve_var i__law_all_read_signs (.inl k__law_all_read_signs) d_signs e_signs) va_nil) nn_len d_len)) (va_cons (ve_set (ve_bin os_add (ve_callB rfl cs_len k__law_all_read_len T.n_len v_len (va_cons (ve_var i__law_all_read_signs (.inl k__law_all_read_signs) d_signs e_signs) va_nil) nn_len d_len) ve_int)) (va_cons (ve_set (ve_bin os_add (ve_callB rfl cs_len k__law_all_read_len T.n_len v_len (va_cons (ve_var i__law_all_read_signs (.inl k__law_all_read_signs) d_signs e_signs) va_nil) nn_len d_len) ve_int)) va_nil)))))))) (vg_name ND i__law_all_read_many (.inl k__law_all_read_many) (pinV hp 7)) (vss_cons (vs_if (vt_not (vt_val (ve_call (takes_of rfl rfl rfl rfl) (ok__law_read_right T) (hr.mono (by decide)) k__law_all_read__law_read_right T.m__law_read_right T.k__law_read_right T.b__law_read_right (va_cons (ve_var i__law_all_read_long (.inl k__law_all_read_long) d_long e_long) (va_cons (ve_callB rfl cs_len k__law_all_read_len T.n_len v_len (va_cons (ve_var i__law_all_read_ahead (.inl k__law_all_read_ahead) d_ahead e_ahead) va_nil) nn_len d_len) (va_cons (ve_var i__law_all_read_lengths (.inl k__law_all_read_lengths) d_lengths e_lengths) (va_cons (ve_var i__law_all_read_many (.inl k__law_all_read_many) d_many e_many) va_nil)))) d__law_read_right) (fun _ => rfl))) (vss_one (vs_ret ve_bl)) vss_nil)
  (vss_cons (vs_if (vt_not (vt_val (ve_call (takes_of rfl rfl rfl rfl) (ok__law_read_right T) (hr.mono (by decide)) k__law_all_read__law_read_right T.m__law_read_right T.k__law_read_right T.b__law_read_right (va_cons (ve_bin os_add (ve_var i__law_all_read_ahead (.inl k__law_all_read_ahead) d_ahead e_ahead) (ve_var i__law_all_read_bits (.inl k__law_all_read_bits) d_bits e_bits)) (va_cons (ve_callB rfl cs_len k__law_all_read_len T.n_len v_len (va_cons (ve_var i__law_all_read_ahead (.inl k__law_all_read_ahead) d_ahead e_ahead) va_nil) nn_len d_len) (va_cons (ve_var i__law_all_read_lengths (.inl k__law_all_read_lengths) d_lengths e_lengths) (va_cons (ve_var i__law_all_read_many (.inl k__law_all_read_many) d_many e_many) va_nil)))) d__law_read_right) (fun _ => rfl))) (vss_one (vs_ret ve_bl)) vss_nil)
  (vss_cons (vs_if (vt_not (vt_val (ve_call (takes_of rfl rfl rfl rfl) (ok__law_read_right T) (hr.mono (by decide)) k__law_all_read__law_read_right T.m__law_read_right T.k__law_read_right T.b__law_read_right (va_cons (ve_var i__law_all_read_drawn (.inl k__law_all_read_drawn) d_drawn e_drawn) (va_cons (ve_callB rfl cs_len k__law_all_read_len T.n_len v_len (va_cons (ve_var i__law_all_read_ahead (.inl k__law_all_read_ahead) d_ahead e_ahead) va_nil) nn_len d_len) (va_cons (ve_var i__law_all_read_lengths (.inl k__law_all_read_lengths) d_lengths e_lengths) (va_cons (ve_bin os_div (ve_var i__law_all_read_many (.inl k__law_all_read_many) d_many e_many) ve_int) va_nil)))) d__law_read_right) (fun _ => rfl))) (vss_one (vs_ret ve_bl)) vss_nil)
  (vss_one (vs_if (vt_not (vt_val (ve_call (takes_of rfl rfl rfl rfl) (ok__law_read_right T) (hr.mono (by decide)) k__law_all_read__law_read_right T.m__law_read_right T.k__law_read_right T.b__law_read_right (va_cons (ve_var i__law_all_read_long (.inl k__law_all_read_long) d_long e_long) (va_cons ve_int (va_cons (ve_var i__law_all_read_whole (.inl k__law_all_read_whole) d_whole e_whole) (va_cons (ve_var i__law_all_read_many (.inl k__law_all_read_many) d_many e_many) va_nil)))) d__law_read_right) (fun _ => rfl))) (vss_one (vs_ret ve_bl)) vss_nil))))))
  (vss_cons (vs_for (passes_of rfl) rfl (vi_list rfl (ve_lst (va_cons (ve_set (ve_neg ve_int)) (va_cons (ve_set (ve_bin os_sub (ve_neg ve_int) (ve_callB rfl cs_len k__law_all_read_len T.n_len v_len (va_cons (ve_var i__law_all_read_long (.inl k__law_all_read_long) d_long e_long) va_nil) nn_len d_len))) (va_cons (ve_set (ve_callB rfl cs_len k__law_all_read_len T.n_len v_len (va_cons (ve_var i__law_all_read_long (.inl k__law_all_read_long) d_long e_long) va_nil) nn_len d_len)) (va_cons (ve_set (ve_bin os_add (ve_callB rfl cs_len k__law_all_read_len T.n_len v_len (va_cons (ve_var i__law_all_read_long (.inl k__law_all_read_long) d_long e_long) va_nil) nn_len d_len) ve_int)) (va_cons (ve_set (ve_bin os_add (ve_bin os_add (ve_callB rfl cs_len k__law_all_read_len T.n_len v_len (va_cons (ve_var i__law_all_read_long (.inl k__law_all_read_long) d_long e_long) va_nil) nn_len d_len) ve_int) (ve_callB rfl cs_len k__law_all_read_len T.n_len v_len (va_cons (ve_var i__law_all_read_drawn (.inl k__law_all_read_drawn) d_drawn e_drawn) va_nil) nn_len d_len))) va_nil))))))) (vg_name ND i__law_all_read_at (.inl k__law_all_read_at) (pinV hp 8)) (vss_one (vs_for (passes_of rfl) rfl (vi_list rfl (ve_lst (va_cons (ve_set ve_int) (va_cons (ve_set ve_int) (va_cons (ve_set ve_int) va_nil))))) (vg_name ND i__law_all_read_many (.inl k__law_all_read_many) (pinV hp 7)) (vss_one (vs_if (VW.pt (vw_or (vt_not (vt_val (ve_call (takes_of rfl rfl rfl rfl) (ok__law_read_right T) (hr.mono (by decide)) k__law_all_read__law_read_right T.m__law_read_right T.k__law_read_right T.b__law_read_right (va_cons (ve_var i__law_all_read_long (.inl k__law_all_read_long) d_long e_long) (va_cons (ve_var i__law_all_read_at (.inl k__law_all_read_at) d_at e_at) (va_cons (ve_var i__law_all_read_lengths (.inl k__law_all_read_lengths) d_lengths e_lengths) (va_cons (ve_var i__law_all_read_many (.inl k__law_all_read_many) d_many e_many) va_nil)))) d__law_read_right) (fun _ => rfl))) (vw_or1 (vt_not (vt_val (ve_call (takes_of rfl rfl rfl rfl) (ok__law_read_right T) (hr.mono (by decide)) k__law_all_read__law_read_right T.m__law_read_right T.k__law_read_right T.b__law_read_right (va_cons (ve_var i__law_all_read_long (.inl k__law_all_read_long) d_long e_long) (va_cons (ve_var i__law_all_read_at (.inl k__law_all_read_at) d_at e_at) (va_cons (ve_lst va_nil) (va_cons (ve_var i__law_all_read_many (.inl k__law_all_read_many) d_many e_many) va_nil)))) d__law_read_right) (fun _ => rfl)))))) (vss_one (vs_ret ve_bl)) vss_nil)))))
  (vss_one (vs_ret ve_bl)))))
theorem ok__law_bits (T : Txt K mg) : FnOk P w K mg base (L2.CX P w) 2 T.a__law_bits T.fd__law_bits ["deck", "most"] (spQ T.G 0 1 F__law_bits) := by
  have ND := sc__law_bits.nd
  exact fnQ2 (N := N__law_bits) (ps := ["deck", "most"]) (q := 0) (n := 1) (G := T.G) (k := 1) (fb := f__law_bits) T.F__law_bits sc__law_bits rfl fun cdv A outer s H E C hr hp =>
  (vss_one (vs_ret (ve_lc rfl ND (own := [("k", 2)]) (vi_range1 k__law_bits_range T.n_range (va_cons (ve_callQ (takes_of rfl rfl rfl rfl) (ok__law_draw T) (by decide) (hr.mono (by decide)) k__law_bits__law_draw T.m__law_draw T.k__law_draw T.b__law_draw (va_cons (ve_var i__law_bits_deck (.inr (.inl k__law_bits_deck)) d_deck e_deck) (va_cons (ve_set (ve_bin os_add (ve_var i__law_bits_most (.inl k__law_bits_most) d_most e_most) ve_int)) va_nil)) d__law_draw) va_nil)) (show BlkOk N__law_bits (defScope s__law_bits) _ _ from blkOk_by (by decide +kernel)) (pinQo hp [2] (by decide)) (by decide) (fun _ _ _ _ _ => (vg_name ND i__law_bits_k (.inl (cv_own k__law_bits_1_k)) (pinQ hp 2 (by decide)))) (fun _ _ _ _ _ => vts_nil) (fun _ _ _ _ _ => (ve_callQ takes0 (ok__law_draw T) (by decide) (hr.mono (by decide)) (cv_gl k__law_bits_1__law_draw) T.m__law_draw T.k__law_draw T.b__law_draw (va_cons (ve_var i__law_bits_deck (cv_free k__law_bits_1_deck) d_deck e_deck) (va_cons (ve_set ve_int) va_nil)) d__law_draw)))))
theorem ok__law_coded (T : Txt K mg) : FnOk P w K mg base (L2.CX P w) 2 T.a__law_coded T.fd__law_coded ["text", "lengths"] (spV T.G 2 F__law_coded) := by
  have ND := sc__law_coded.nd
  exact fnV2 (N := N__law_coded) (ps := ["text", "lengths"]) (G := T.G) (k := 1) (fb := f__law_coded) T.F__law_coded sc__law_coded fun cdv A outer s H E C hr hp =>
  (vss_cons (vs_if (vt_not (vt_val (ve_call (takes_of rfl rfl rfl rfl) (ok__law_let T) (hr.mono (by decide)) k__law_coded__law_let T.m__law_let T.k__law_let T.b__law_let (va_cons (ve_var i__law_coded_lengths (.inl k__law_coded_lengths) d_lengths e_lengths) va_nil) d__law_let) (fun _ => rfl))) (vss_one (vs_ret (ve_lst (va_cons (ve_set ve_bl) (va_cons (ve_set ve_bl) (va_cons (ve_set ve_bl) (va_cons (ve_set ve_bl) va_nil))))))) vss_nil)
  (vss_cons (vs_set ND i__law_coded_words (.inl k__law_coded_words) (pinV hp 2) (ve_dictOf rfl k__law_coded_dict T.n_dict v_dict (ve_call (takes_of rfl rfl rfl rfl) (ok__law_words T) (hr.mono (by decide)) k__law_coded__law_words T.m__law_words T.k__law_words T.b__law_words (va_cons (ve_var i__law_coded_lengths (.inl k__law_coded_lengths) d_lengths e_lengths) va_nil) d__law_words) nn_dict d_dict))
  (vss_cons (vs_set ND i__law_coded_found (.inl k__law_coded_found) (pinV hp 3) (ve_lst va_nil))
  (vss_cons (vs_for (passes_of rfl) rfl (vi_list rfl (ve_var i__law_coded_text (.inl k__law_coded_text) d_text e_text)) (vg_name ND i__law_coded_sign (.inl k__law_coded_sign) (pinV hp 4)) (vss_cons (vs_if (vt_dnin (units1 hr) (ve_var i__law_coded_sign (.inl k__law_coded_sign) d_sign e_sign) (ve_var i__law_coded_words (.inl k__law_coded_words) d_words e_words) (by with_unfolding_all rfl)) (vss_one (vs_ret (ve_lst (va_cons (ve_set ve_bl) (va_cons (ve_set ve_bl) (va_cons (ve_set ve_bl) (va_cons (ve_set ve_bl) va_nil))))))) vss_nil)
  (vss_one (vs_set ND i__law_coded_found (.inl k__law_coded_found) (pinV hp 3) (ve_bin os_add (ve_var i__law_coded_found (.inl k__law_coded_found) d_found e_found) (ve_dget (units1 hr) (ve_var i__law_coded_words (.inl k__law_coded_words) d_words e_words) (ve_var i__law_coded_sign (.inl k__law_coded_sign) d_sign e_sign) (fun _ _ => rfl)))))))
  (vss_one (vs_ret (ve_lst (va_cons (ve_set ve_str) (va_cons (ve_set (ve_var i__law_coded_found (.inl k__law_coded_found) d_found e_found)) va_nil)))))))))
theorem ok__law_bits_right (T : Txt K mg) : FnOk P w K mg base (L2.CX P w) 1 T.a__law_bits_right T.fd__law_bits_right ["found"] (spV T.G 1 F__law_bits_right) := by
  have ND := sc__law_bits_right.nd
  exact fnV2 (N := N__law_bits_right) (ps := ["found"]) (G := T.G) (k := 0) (fb := f__law_bits_right) T.F__law_bits_right sc__law_bits_right fun cdv A outer s H E C hr hp =>
  (vss_cons (vs_if (vt_cmp (os_ne hr.units) (ve_ix rfl (ve_var i__law_bits_right_found (.inl k__law_bits_right_found) d_found e_found) ve_int (fun _ _ => rfl)) ve_str (nomark _)) (vss_one (vs_ret ve_bl)) vss_nil)
  (vss_one (vs_ret (ve_cmp (os_eq hr.units) (ve_lc rfl ND (own := [("bit", 1)]) (vi_list rfl (ve_ix rfl (ve_var i__law_bits_right_found (.inl k__law_bits_right_found) d_found e_found) ve_int (fun _ _ => rfl))) (show BlkOk N__law_bits_right (defScope s__law_bits_right) _ _ from blkOk_by (by decide +kernel)) (pinVo hp [1]) (by decide) (fun _ _ _ _ _ => (vg_name ND i__law_bits_right_bit (.inl (cv_own k__law_bits_right_1_bit)) (pinV hp 1))) (fun _ _ _ _ _ => (vts_one (VW.pt (vw_or (vt_not (vt_val (ve_isi T.tab.etab (cv_gl k__law_bits_right_1_isinstance) T.n_isinstance v_isinstance (va_cons (ve_var i__law_bits_right_bit (.inl (cv_own k__law_bits_right_1_bit)) d_bit e_bit) (va_cons (ve_gty (cv_gl k__law_bits_right_1_int) T.n_int v_int nn_int d_int) va_nil)) nn_isinstance d_isinstance) (fun _ => rfl))) (vw_or1 (vt_val (ve_isi T.tab.etab (cv_gl k__law_bits_right_1_isinstance) T.n_isinstance v_isinstance (va_cons (ve_var i__law_bits_right_bit (.inl (cv_own k__law_bits_right_1_bit)) d_bit e_bit) (va_cons (ve_gty (cv_gl k__law_bits_right_1_bool) T.n_bool v_bool nn_bool d_bool) va_nil)) nn_isinstance d_isinstance) (fun _ => rfl))))))) (fun _ _ _ _ _ => (ve_var i__law_bits_right_bit (.inl (cv_own k__law_bits_right_1_bit)) d_bit e_bit))) (ve_lst va_nil) (nomark _)))))
theorem ok__law_coded_right (T : Txt K mg) : FnOk P w K mg base (L2.CX P w) 6 T.a__law_coded_right T.fd__law_coded_right ["row", "some"] (spV T.G 2 F__law_coded_right) := by
  have ND := sc__law_coded_right.nd
  exact fnV2 (N := N__law_coded_right) (ps := ["row", "some"]) (G := T.G) (k := 5) (fb := f__law_coded_right) T.F__law_coded_right sc__law_coded_right fun cdv A outer s H E C hr hp =>
  (vss_cons (vs_set ND i__law_coded_right_handed (.inl k__law_coded_right_handed) (pinV hp 2) (ve_lst (va_cons (ve_set (ve_callTy rfl cs_list k__law_coded_right_list T.n_list v_list (va_cons (ve_var i__law_coded_right_row (.inl k__law_coded_right_row) d_row e_row) va_nil) nn_list d_list)) (va_cons (ve_set (ve_callTy rfl cs_list k__law_coded_right_list T.n_list v_list (va_cons (ve_var i__law_coded_right_some (.inl k__law_coded_right_some) d_some e_some) va_nil) nn_list d_list)) va_nil))))
  (vss_cons (vs_set ND i__law_coded_right_found (.inl k__law_coded_right_found) (pinV hp 3) (ve_call (takes_of rfl rfl rfl rfl) (ok__law_kind T) (hr.mono (by decide)) k__law_coded_right__law_kind T.m__law_kind T.k__law_kind T.b__law_kind (va_cons ve_int (va_cons (ve_ix rfl (ve_var i__law_coded_right_handed (.inl k__law_coded_right_handed) d_handed e_handed) ve_int (fun _ _ => rfl)) (va_cons ve_int (va_cons (ve_ix rfl (ve_var i__law_coded_right_handed (.inl k__law_coded_right_handed) d_handed e_handed) ve_int (fun _ _ => rfl)) (va_cons ve_int va_nil))))) d__law_kind))
  (vss_cons (vs_if (VW.pt (vw_or (vt_cmp (os_ne hr.units) (ve_var i__law_coded_right_found (.inl k__law_coded_right_found) d_found e_found) (ve_call (takes_of rfl rfl rfl rfl) (ok__law_coded T) (hr.mono (by decide)) k__law_coded_right__law_coded T.m__law_coded T.k__law_coded T.b__law_coded (va_cons (ve_var i__law_coded_right_row (.inl k__law_coded_right_row) d_row e_row) (va_cons (ve_var i__law_coded_right_some (.inl k__law_coded_right_some) d_some e_some) va_nil)) d__law_coded) (nomark _)) (vw_or1 (vt_not (vt_val (ve_call (takes_of rfl rfl rfl rfl) (ok__law_bits_right T) (hr.mono (by decide)) k__law_coded_right__law_bits_right T.m__law_bits_right T.k__law_bits_right T.b__law_bits_right (va_cons (ve_var i__law_coded_right_found (.inl k__law_coded_right_found) d_found e_found) va_nil) d__law_bits_right) (fun _ => rfl)))))) (vss_one (vs_ret ve_bl)) vss_nil)
  (vss_cons (vs_if (vt_cmp (os_eq hr.units) (ve_ix rfl (ve_var i__law_coded_right_found (.inl k__law_coded_right_found) d_found e_found) ve_int (fun _ _ => rfl)) ve_str (nomark _)) (vss_one (vs_expr (ve_appP i__law_coded_right_found (.inl k__law_coded_right_found) d_found e_found ve_int (fun _ _ => rfl) (fun _ eC1 => ve_int)))) vss_nil)
  (vss_one (vs_ret (ve_cmp (os_eq hr.units) (ve_var i__law_coded_right_handed (.inl k__law_coded_right_handed) d_handed e_handed) (ve_lst (va_cons (ve_set (ve_var i__law_coded_right_row (.inl k__law_coded_right_row) d_row e_row)) (va_cons (ve_set (ve_var i__law_coded_right_some (.inl k__law_coded_right_some) d_some e_some)) va_nil))) (nomark _))))))))
theorem ok_law (T : Txt K mg) : FnOk P w K mg base (L2.CX P w) 8 T.a_law T.fd_law ["script"] (spV T.G 1 F_law) := by
  have ND := sc_law.nd
  exact fnV2 (N := N_law) (ps := ["script"]) (G := T.G) (k := 7) (fb := f_law) T.F_law sc_law fun cdv A outer s H E C hr hp =>
  (vss_cons (vs_set ND i_law_decks (.inl k_law_decks) (pinV hp 1) (ve_call (takes_of rfl rfl rfl rfl) (ok__law_decks T) (hr.mono (by decide)) k_law__law_decks T.m__law_decks T.k__law_decks T.b__law_decks (va_cons (ve_var i_law_script (.inl k_law_script) d_script e_script) va_nil) d__law_decks))
  (vss_cons (vs_set ND i_law_lengths (.inr k_law_lengths) (pinV hp 2) (ve_call (takes_of rfl rfl rfl rfl) (ok__law_drawn_lengths T) (hr.mono (by decide)) k_law__law_drawn_lengths T.m__law_drawn_lengths T.k__law_drawn_lengths T.b__law_drawn_lengths (va_cons (ve_var i_law_script (.inl k_law_script) d_script e_script) (va_cons ve_int va_nil)) d__law_drawn_lengths))
  (vss_cons (vs_set ND i_law_whole (.inr k_law_whole) (pinV hp 3) (ve_callTy rfl cs_list k_law_list T.n_list v_list (va_cons (ve_var i_law_lengths (.inr (.inl k_law_lengths)) d_lengths e_lengths) va_nil) nn_list d_list))
  (vss_cons (vs_while fuel (passes_of rfl) (vt_not (vt_val (ve_call (takes_of rfl rfl rfl rfl) (ok__law_let T) (hr.mono (by decide)) k_law__law_let T.m__law_let T.k__law_let T.b__law_let (va_cons (ve_var i_law_lengths (.inr (.inl k_law_lengths)) d_lengths e_lengths) va_nil) d__law_let) (fun _ => rfl))) (vss_one (vs_set ND i_law_lengths (.inr k_law_lengths) (pinV hp 2) (ve_slice rfl (ve_var i_law_lengths (.inr (.inl k_law_lengths)) d_lengths e_lengths) vo_none (vo_some (ve_neg ve_int))))))
  (vss_cons (vs_set ND i_law_text (.inl k_law_text) (pinV hp 4) (ve_lst va_nil))
  (vss_cons (vs_set ND i_law_drawn (.inl k_law_drawn) (pinV hp 5) (ve_lst va_nil))
  (vss_cons (vs_forM (passes_of rfl) rfl ND (by decide) i_law_decks (.inl k_law_decks) d_decks e_decks i_law_deck (.inr k_law_deck) (pinV hp 6) (fun _ eC2 => (vss_cons (vs_set ND i_law_text (.inl k_law_text) (pinB (pinV hp 4) eC2 (by decide) (by decide)) (ve_bin os_add (ve_var i_law_text (.inl k_law_text) d_text e_text) (ve_lc rfl ND (own := [("k", 15)]) (vi_range1 k_law_range T.n_range (va_cons (ve_bin os_add ve_int (ve_callQ (takes_of rfl rfl rfl rfl) (ok__law_draw T) (by decide) (hr.mono (by decide)) k_law__law_draw T.m__law_draw T.k__law_draw T.b__law_draw (va_cons (ve_var i_law_deck (.inr (.inl k_law_deck)) d_deck e_deck) (va_cons (ve_set ve_int) va_nil)) d__law_draw)) va_nil)) (show BlkOk N_law (defScope s_law) _ _ from blkOk_by (by decide +kernel)) (pinBo (pinVo hp [15]) eC2 (by decide) (by decide)) (by decide) (fun _ _ _ _ _ => (vg_name ND i_law_k (.inl (cv_own k_law_1_k)) (pinB (pinV hp 15) eC2 (by decide) (by decide)))) (fun _ _ _ _ _ => vts_nil) (fun _ _ _ _ _ => (ve_ix rfl (ve_ix rfl (ve_var i_law_whole (cv_free k_law_1_whole) d_whole e_whole) (ve_callQ takes0 (ok__law_draw T) (by decide) (hr.mono (by decide)) (cv_gl k_law_1__law_draw) T.m__law_draw T.k__law_draw T.b__law_draw (va_cons (ve_var i_law_deck (cv_free k_law_1_deck) d_deck e_deck) (va_cons (ve_set (ve_callB rfl (cs_max2 rfl) (cv_gl k_law_1_max) T.n_max v_max (va_cons ve_int (va_cons (ve_callB rfl cs_len (cv_gl k_law_1_len) T.n_len v_len (va_cons (ve_var i_law_lengths (cv_free k_law_1_lengths) d_lengths e_lengths) va_nil) nn_len d_len) va_nil)) nn_max d_max)) va_nil)) d__law_draw) (fun _ _ => rfl)) ve_int (fun _ _ => rfl))))))
  (vss_one (vs_set ND i_law_drawn (.inl k_law_drawn) (pinB (pinV hp 5) eC2 (by decide) (by decide)) (ve_bin os_add (ve_var i_law_drawn (.inl k_law_drawn) d_drawn e_drawn) (ve_callQ (takes_of rfl rfl rfl rfl) (ok__law_bits T) (by decide) (hr.mono (by decide)) k_law__law_bits T.m__law_bits T.k__law_bits T.b__law_bits (va_cons (ve_var i_law_deck (.inr (.inl k_law_deck)) d_deck e_deck) (va_cons (ve_set ve_int) va_nil)) d__law_bits)))))))
  (vss_cons (vs_if (vt_cmp os_gt (ve_callB rfl (cs_maxL rfl) k_law_max T.n_max v_max (va_cons (ve_bin os_add (ve_lst (va_cons (ve_set ve_int) va_nil)) (ve_lc rfl ND (own := [("sign", 14), ("length", 16)]) (vi_list rfl (ve_var i_law_lengths (.inr (.inl k_law_lengths)) d_lengths e_lengths)) (show BlkOk N_law (defScope s_law) _ _ from blkOk_by (by decide +kernel)) (pinVo hp [14, 16]) (by decide) (fun _ _ _ _ _ => (vg_tup rfl (vgs_cons ND i_law_sign (.inl (cv_own k_law_2_sign)) (pinV hp 14) (vgs_cons ND i_law_length (.inl (cv_own k_law_2_length)) (pinV hp 16) vgs_nil)))) (fun _ _ _ _ _ => vts_nil) (fun _ _ _ _ _ => (ve_var i_law_length (.inl (cv_own k_law_2_length)) d_length e_length)))) va_nil) nn_max d_max) ve_int (nomark _)) (vss_one (vs_set ND i_law_text (.inl k_law_text) (pinV hp 4) (ve_slice rfl (ve_var i_law_text (.inl k_law_text) d_text e_text) vo_none (vo_some ve_int)))) vss_nil)
  (vss_cons (vs_setLc rfl ND i_law_signs k_law_signs (pinV hp 7) (sw_true sc_law.kind k_law_signs rfl (by decide +kernel)) (own := [("sign", 14)]) (vi_list rfl (ve_var i_law_text (.inl k_law_text) d_text e_text)) (show BlkOk N_law (defScope s_law) _ _ from blkOk_by (by decide +kernel)) (pinVo hp [14]) (by decide) (fun _ _ _ _ _ => (vg_name ND i_law_sign (.inl (cv_own k_law_3_sign)) (pinV hp 14))) (fun _ _ _ _ _ => (vts_one (vt_din (units1 hr) (ve_var i_law_sign (.inl (cv_own k_law_3_sign)) d_sign e_sign) (ve_dictOf rfl (cv_gl k_law_3_dict) T.n_dict v_dict (ve_var i_law_lengths (cv_free k_law_3_lengths) d_lengths e_lengths) nn_dict d_dict) (by with_unfolding_all rfl)))) (fun _ _ _ _ _ => (ve_var i_law_sign (.inl (cv_own k_law_3_sign)) d_sign e_sign)))
  (vss_cons (vs_setLc rfl ND i_law_strangers k_law_strangers (pinV hp 8) (sw_true sc_law.kind k_law_strangers rfl (by decide +kernel)) (own := [("sign", 14)]) (vi_range1 k_law_range T.n_range (va_cons ve_int va_nil)) (show BlkOk N_law (defScope s_law) _ _ from blkOk_by (by decide +kernel)) (pinVo hp [14]) (by decide) (fun _ _ _ _ _ => (vg_name ND i_law_sign (.inl (cv_own k_law_4_sign)) (pinV hp 14))) (fun _ _ _ _ _ => (vts_one (vt_dnin (units1 hr) (ve_var i_law_sign (.inl (cv_own k_law_4_sign)) d_sign e_sign) (ve_dictOf rfl (cv_gl k_law_4_dict) T.n_dict v_dict (ve_var i_law_whole (cv_free k_law_4_whole) d_whole e_whole) nn_dict d_dict) (by with_unfolding_all rfl)))) (fun _ _ _ _ _ => (ve_var i_law_sign (.inl (cv_own k_law_4_sign)) d_sign e_sign)))
  (vss_cons (vs_for (passes_of rfl) rfl (vi_range1 k_law_range T.n_range (va_cons (ve_callP (takes_of rfl rfl rfl rfl) (ok__law_draw T) (hr.mono (by decide)) k_law__law_draw T.m__law_draw T.k__law_draw T.b__law_draw i_law_decks (.inl k_law_decks) d_decks e_decks ve_int (fun _ _ => rfl) (fun _ eC3 => (va_cons (ve_set ve_int) va_nil)) d__law_draw) va_nil)) (vg_name ND i_law_turn (.inl k_law_turn) (pinV hp 9)) (vss_cons (vs_set ND i_law_at (.inl k_law_at) (pinV hp 10) (ve_callP (takes_of rfl rfl rfl rfl) (ok__law_draw T) (hr.mono (by decide)) k_law__law_draw T.m__law_draw T.k__law_draw T.b__law_draw i_law_decks (.inl k_law_decks) d_decks e_decks ve_int (fun _ _ => rfl) (fun _ eC4 => (va_cons (ve_set (ve_bin os_add (ve_callB rfl cs_len k_law_len T.n_len v_len (va_cons (ve_var i_law_text (.inl k_law_text) d_text e_text) va_nil) nn_len d_len) ve_int)) va_nil)) d__law_draw))
  (vss_one (vs_set ND i_law_text (.inl k_law_text) (pinV hp 4) (ve_bin os_add (ve_bin os_add (ve_slice rfl (ve_var i_law_text (.inl k_law_text) d_text e_text) vo_none (vo_some (ve_var i_law_at (.inl k_law_at) d_at e_at))) (ve_lst (va_cons (ve_set (ve_ix rfl (ve_var i_law_strangers (.inl k_law_strangers) d_strangers e_strangers) (ve_callP (takes_of rfl rfl rfl rfl) (ok__law_draw T) (hr.mono (by decide)) k_law__law_draw T.m__law_draw T.k__law_draw T.b__law_draw i_law_decks (.inl k_law_decks) d_decks e_decks ve_int (fun _ _ => rfl) (fun _ eC5 => (va_cons (ve_set (ve_callB rfl cs_len k_law_len T.n_len v_len (va_cons (ve_var i_law_strangers (.inl k_law_strangers) d_strangers e_strangers) va_nil) nn_len d_len)) va_nil)) d__law_draw) (fun _ _ => rfl))) va_nil))) (ve_slice rfl (ve_var i_law_text (.inl k_law_text) d_text e_text) (vo_some (ve_var i_law_at (.inl k_law_at) d_at e_at)) vo_none))))))
  (vss_cons (vs_for (passes_of rfl) rfl (vi_list rfl (ve_lst (va_cons (ve_set (ve_tup (va_cons (ve_set (ve_var i_law_text (.inl k_law_text) d_text e_text)) (va_cons (ve_set (ve_var i_law_lengths (.inr (.inl k_law_lengths)) d_lengths e_lengths)) va_nil)))) (va_cons (ve_set (ve_tup (va_cons (ve_set (ve_var i_law_text (.inl k_law_text) d_text e_text)) (va_cons (ve_set (ve_var i_law_whole (.inr (.inl k_law_whole)) d_whole e_whole)) va_nil)))) (va_cons (ve_set (ve_tup (va_cons (ve_set (ve_var i_law_signs (.inl k_law_signs) d_signs e_signs)) (va_cons (ve_set (ve_var i_law_lengths (.inr (.inl k_law_lengths)) d_lengths e_lengths)) va_nil)))) (va_cons (ve_set (ve_tup (va_cons (ve_set (ve_lst va_nil)) (va_cons (ve_set (ve_var i_law_whole (.inr (.inl k_law_whole)) d_whole e_whole)) va_nil)))) (va_cons (ve_set (ve_tup (va_cons (ve_set (ve_lst va_nil)) (va_cons (ve_set (ve_lst va_nil)) va_nil)))) va_nil))))))) (vg_tup rfl (vgs_cons ND i_law_row (.inl k_law_row) (pinV hp 11) (vgs_cons ND i_law_some (.inl k_law_some) (pinV hp 12) vgs_nil))) (vss_one (vs_if (vt_not (vt_val (ve_call (takes_of rfl rfl rfl rfl) (ok__law_coded_right T) (hr.mono (by decide)) k_law__law_coded_right T.m__law_coded_right T.k__law_coded_right T.b__law_coded_right (va_cons (ve_var i_law_row (.inl k_law_row) d_row e_row) (va_cons (ve_var i_law_some (.inl k_law_some) d_some e_some) va_nil)) d__law_coded_right) (fun _ => rfl))) (vss_one (vs_ret ve_bl)) vss_nil)))
  (vss_cons (vs_set ND i_law_ahead (.inl k_law_ahead) (pinV hp 13) (ve_slice rfl (ve_var i_law_drawn (.inl k_law_drawn) d_drawn e_drawn) vo_none (vo_some ve_int)))
  (vss_cons (vs_if (vt_not (vt_val (ve_call (takes_of rfl rfl rfl rfl) (ok__law_all_read T) (hr.mono (by decide)) k_law__law_all_read T.m__law_all_read T.k__law_all_read T.b__law_all_read (va_cons (ve_var i_law_ahead (.inl k_law_ahead) d_ahead e_ahead) (va_cons (ve_ix rfl (ve_call (takes_of rfl rfl rfl rfl) (ok__law_coded T) (hr.mono (by decide)) k_law__law_coded T.m__law_coded T.k__law_coded T.b__law_coded (va_cons (ve_var i_law_signs (.inl k_law_signs) d_signs e_signs) (va_cons (ve_var i_law_lengths (.inr (.inl k_law_lengths)) d_lengths e_lengths) va_nil)) d__law_coded) ve_int (fun _ _ => rfl)) (va_cons (ve_var i_law_drawn (.inl k_law_drawn) d_drawn e_drawn) (va_cons (ve_var i_law_lengths (.inr (.inl k_law_lengths)) d_lengths e_lengths) (va_cons (ve_var i_law_whole (.inr (.inl k_law_whole)) d_whole e_whole) (va_cons (ve_var i_law_signs (.inl k_law_signs) d_signs e_signs) va_nil)))))) d__law_all_read) (fun _ => rfl))) (vss_one (vs_ret ve_bl)) vss_nil)
  (vss_one (vs_ret (ve_and (ve_cmp (os_eq hr.units) (ve_call (takes_of rfl rfl rfl rfl) (ok_coded T) (hr.mono (by decide)) k_law_coded T.m_coded T.k_coded T.b_coded (va_cons (ve_lst va_nil) (va_cons (ve_lst va_nil) va_nil)) d_coded) (ve_lst va_nil) (nomark _)) (ve_one (ve_cmp (os_eq hr.units) (ve_call (takes_of rfl rfl rfl rfl) (ok_decoded T) (hr.mono (by decide)) k_law_decoded T.m_decoded T.k_decoded T.b_decoded (va_cons (ve_var i_law_drawn (.inl k_law_drawn) d_drawn e_drawn) (va_cons (ve_callB rfl cs_len k_law_len T.n_len v_len (va_cons (ve_var i_law_ahead (.inl k_law_ahead) d_ahead e_ahead) va_nil) nn_len d_len) (va_cons (ve_lst va_nil) (va_cons ve_int va_nil)))) d_decoded) (ve_tup (va_cons (ve_set (ve_lst va_nil)) (va_cons (ve_set (ve_callB rfl cs_len k_law_len T.n_len v_len (va_cons (ve_var i_law_ahead (.inl k_law_ahead) d_ahead e_ahead) va_nil) nn_len d_len)) va_nil))) (nomark _))))))))))))))))))))
end
def txt_mk {K : PySem.W.Frag} {h : Heap} {mg : Str → Option Value} {C_PackError C_NoNumber C_NoCode C_NoPlace C_Broken C_NoText C_NoName C_NoRow a__law_decks a__law_draw a__law_drawn_lengths a__law_let a_room_of a_need_words a_figures_of a_low_bits a_words_by a_coded a_decoded a__law_kind a__law_words a__law_decoded a__law_read_right a__law_all_read a__law_bits a__law_coded a__law_bits_right a__law_coded_right a_law : Addr} (X : K.In h) (G : h.Ns mainGlobals mg)
    {od0 an0 od1 an1 od2 an2 od3 an3 od4 an4 od5 an5 od6 an6 od7 an7 od8 an8 od9 an9 od10 an10 od11 an11 od12 an12 od13 an13 od14 an14 od15 an15 od16 an16 od17 an17 od18 an18 od19 an19 od20 an20 : Option Addr} {sl0 sl1 sl2 sl3 sl4 sl5 sl6 sl7 sl8 sl9 sl10 sl11 sl12 sl13 sl14 sl15 sl16 sl17 sl18 sl19 sl20 : Array (Option Value)} {tk_WHOLE tk_LONGEST : Tok} {oc0 kV0 dc0 pm0 cd0 ct0 oc1 kV1 dc1 pm1 cd1 ct1 oc2 kV2 dc2 pm2 cd2 ct2 oc3 kV3 dc3 pm3 cd3 ct3 oc4 kV4 dc4 pm4 cd4 ct4 oc5 kV5 dc5 pm5 cd5 ct5 oc6 kV6 dc6 pm6 cd6 ct6 oc7 kV7 dc7 pm7 cd7 ct7 oc8 kV8 dc8 pm8 cd8 ct8 oc9 kV9 dc9 pm9 cd9 ct9 oc10 kV10 dc10 pm10 cd10 ct10 oc11 kV11 dc11 pm11 cd11 ct11 oc12 kV12 dc12 pm12 cd12 ct12 oc13 kV13 dc13 pm13 cd13 ct13 oc14 kV14 dc14 pm14 cd14 ct14 oc15 kV15 dc15 pm15 cd15 ct15 oc16 kV16 dc16 pm16 cd16 ct16 oc17 kV17 dc17 pm17 cd17 ct17 oc18 kV18 dc18 pm18 cd18 ct18 oc19 kV19 dc19 pm19 cd19 ct19 oc20 kV20 dc20 pm20 cd20 ct20 : Value}
    (aC_PackError : PySem.W.nsIn K mainGlobals "PackError" = some (some (.ref C_PackError)))
    (ic_PackError : PySem.W.isClsIn K C_PackError = true)
    (tc_PackError : PySem.W.typeIn K (.ref C_PackError) = some (.type "type"))
    (bc_PackError : PySem.W.subIn K (.ref C_PackError) (.type "BaseException") = some true)
    (aC_NoNumber : PySem.W.nsIn K mainGlobals "NoNumber" = some (some (.ref C_NoNumber)))
    (ic_NoNumber : PySem.W.isClsIn K C_NoNumber = true)
    (tc_NoNumber : PySem.W.typeIn K (.ref C_NoNumber) = some (.type "type"))
    (bc_NoNumber : PySem.W.subIn K (.ref C_NoNumber) (.type "BaseException") = some true)
    (aC_NoCode : PySem.W.nsIn K mainGlobals "NoCode" = some (some (.ref C_NoCode)))
    (ic_NoCode : PySem.W.isClsIn K C_NoCode = true)
    (tc_NoCode : PySem.W.typeIn K (.ref C_NoCode) = some (.type "type"))
    (bc_NoCode : PySem.W.subIn K (.ref C_NoCode) (.type "BaseException") = some true)
    (aC_NoPlace : PySem.W.nsIn K mainGlobals "NoPlace" = some (some (.ref C_NoPlace)))
    (ic_NoPlace : PySem.W.isClsIn K C_NoPlace = true)
    (tc_NoPlace : PySem.W.typeIn K (.ref C_NoPlace) = some (.type "type"))
    (bc_NoPlace : PySem.W.subIn K (.ref C_NoPlace) (.type "BaseException") = some true)
    (aC_Broken : PySem.W.nsIn K mainGlobals "Broken" = some (some (.ref C_Broken)))
    (ic_Broken : PySem.W.isClsIn K C_Broken = true)
    (tc_Broken : PySem.W.typeIn K (.ref C_Broken) = some (.type "type"))
    (bc_Broken : PySem.W.subIn K (.ref C_Broken) (.type "BaseException") = some true)
    (aC_NoText : PySem.W.nsIn K mainGlobals "NoText" = some (some (.ref C_NoText)))
    (ic_NoText : PySem.W.isClsIn K C_NoText = true)
    (tc_NoText : PySem.W.typeIn K (.ref C_NoText) = some (.type "type"))
    (bc_NoText : PySem.W.subIn K (.ref C_NoText) (.type "BaseException") = some true)
    (aC_NoName : PySem.W.nsIn K mainGlobals "NoName" = some (some (.ref C_NoName)))
    (ic_NoName : PySem.W.isClsIn K C_NoName = true)
    (tc_NoName : PySem.W.typeIn K (.ref C_NoName) = some (.type "type"))
    (bc_NoName : PySem.W.subIn K (.ref C_NoName) (.type "BaseException") = some true)
    (aC_NoRow : PySem.W.nsIn K mainGlobals "NoRow" = some (some (.ref C_NoRow)))
    (ic_NoRow : PySem.W.isClsIn K C_NoRow = true)
    (tc_NoRow : PySem.W.typeIn K (.ref C_NoRow) = some (.type "type"))
    (bc_NoRow : PySem.W.subIn K (.ref C_NoRow) (.type "BaseException") = some true)
    (x_NoCode : PySem.W.excIn K C_NoCode [.type "ValueError", .type "Exception", .type "BaseException", .type "object"] "ValueError.__new__" = true)
    (kc_NoCode : PySem.W.keepIn K (.ref C_NoCode) = true)
    (hg_NoCode : PySem.W.findIn K (.ref C_NoCode) "__getattribute__" = some (some (.builtin "BaseException.__getattribute__")))
    (hk_NoCode : PySem.W.findIn K (.ref C_NoCode) "__getattr__" = some none)
    (hd_NoCode : PySem.W.hasDictIn K C_NoCode = true)
    (ha_NoCode : PySem.W.findIn K (.ref C_NoCode) "__class__" = some (some (.builtin "object.__class__")))
    (hm_NoCode : PySem.W.mroIn K C_NoCode (.type "object") = some true)
    (se_NoCode : PySem.W.subIn K (.ref C_NoCode) (.ref C_NoCode) = some true)
    (x_NoNumber : PySem.W.excIn K C_NoNumber [.type "ValueError", .type "Exception", .type "BaseException", .type "object"] "ValueError.__new__" = true)
    (kc_NoNumber : PySem.W.keepIn K (.ref C_NoNumber) = true)
    (hg_NoNumber : PySem.W.findIn K (.ref C_NoNumber) "__getattribute__" = some (some (.builtin "BaseException.__getattribute__")))
    (hk_NoNumber : PySem.W.findIn K (.ref C_NoNumber) "__getattr__" = some none)
    (hd_NoNumber : PySem.W.hasDictIn K C_NoNumber = true)
    (ha_NoNumber : PySem.W.findIn K (.ref C_NoNumber) "__class__" = some (some (.builtin "object.__class__")))
    (hm_NoNumber : PySem.W.mroIn K C_NoNumber (.type "object") = some true)
    (se_NoNumber : PySem.W.subIn K (.ref C_NoNumber) (.ref C_NoNumber) = some true)
    (x_Broken : PySem.W.excIn K C_Broken [.type "ValueError", .type "Exception", .type "BaseException", .type "object"] "ValueError.__new__" = true)
    (kc_Broken : PySem.W.keepIn K (.ref C_Broken) = true)
    (hg_Broken : PySem.W.findIn K (.ref C_Broken) "__getattribute__" = some (some (.builtin "BaseException.__getattribute__")))
    (hk_Broken : PySem.W.findIn K (.ref C_Broken) "__getattr__" = some none)
    (hd_Broken : PySem.W.hasDictIn K C_Broken = true)
    (ha_Broken : PySem.W.findIn K (.ref C_Broken) "__class__" = some (some (.builtin "object.__class__")))
    (hm_Broken : PySem.W.mroIn K C_Broken (.type "object") = some true)
    (se_Broken : PySem.W.subIn K (.ref C_Broken) (.ref C_Broken) = some true)
    (hn : PySem.W.specialIn K (.builtin "object.__class__") "__get__" = some (some (.builtin "getset_descriptor.__get__")))
    (ht : PySem.W.takesIn K (.builtin "object.__class__") = some true)
    (su_0 : PySem.W.subIn K (.ref C_NoCode) (.ref C_PackError) = some true)
    (su_1 : PySem.W.subIn K (.ref C_NoCode) (.ref C_NoCode) = some true)
    (su_2 : PySem.W.subIn K (.ref C_NoCode) (.ref C_Broken) = some false)
    (su_3 : PySem.W.subIn K (.ref C_NoCode) (.type "ValueError") = some true)
    (su_4 : PySem.W.subIn K (.ref C_NoCode) (.ref C_NoName) = some false)
    (su_5 : PySem.W.subIn K (.ref C_NoCode) (.ref C_NoNumber) = some false)
    (su_6 : PySem.W.subIn K (.ref C_NoCode) (.ref C_NoPlace) = some false)
    (su_7 : PySem.W.subIn K (.ref C_NoCode) (.ref C_NoRow) = some false)
    (su_8 : PySem.W.subIn K (.ref C_NoCode) (.ref C_NoText) = some false)
    (su_9 : PySem.W.subIn K (.ref C_NoNumber) (.ref C_PackError) = some true)
    (su_10 : PySem.W.subIn K (.ref C_NoNumber) (.ref C_NoCode) = some false)
    (su_11 : PySem.W.subIn K (.ref C_NoNumber) (.ref C_Broken) = some false)
    (su_12 : PySem.W.subIn K (.ref C_NoNumber) (.type "ValueError") = some true)
    (su_13 : PySem.W.subIn K (.ref C_NoNumber) (.ref C_NoName) = some false)
    (su_14 : PySem.W.subIn K (.ref C_NoNumber) (.ref C_NoNumber) = some true)
    (su_15 : PySem.W.subIn K (.ref C_NoNumber) (.ref C_NoPlace) = some false)
    (su_16 : PySem.W.subIn K (.ref C_NoNumber) (.ref C_NoRow) = some false)
    (su_17 : PySem.W.subIn K (.ref C_NoNumber) (.ref C_NoText) = some false)
    (su_18 : PySem.W.subIn K (.ref C_Broken) (.ref C_PackError) = some true)
    (su_19 : PySem.W.subIn K (.ref C_Broken) (.ref C_NoCode) = some false)
    (su_20 : PySem.W.subIn K (.ref C_Broken) (.ref C_Broken) = some true)
    (su_21 : PySem.W.subIn K (.ref C_Broken) (.type "ValueError") = some true)
    (su_22 : PySem.W.subIn K (.ref C_Broken) (.ref C_NoName) = some false)
    (su_23 : PySem.W.subIn K (.ref C_Broken) (.ref C_NoNumber) = some false)
    (su_24 : PySem.W.subIn K (.ref C_Broken) (.ref C_NoPlace) = some false)
    (su_25 : PySem.W.subIn K (.ref C_Broken) (.ref C_NoRow) = some false)
    (su_26 : PySem.W.subIn K (.ref C_Broken) (.ref C_NoText) = some false)
    (z_range : PySem.W.nsIn K mainGlobals "range" = some none)
    (z_len : PySem.W.nsIn K mainGlobals "len" = some none)
    (z_max : PySem.W.nsIn K mainGlobals "max" = some none)
    (z_sum : PySem.W.nsIn K mainGlobals "sum" = some none)
    (z_sorted : PySem.W.nsIn K mainGlobals "sorted" = some none)
    (z_dict : PySem.W.nsIn K mainGlobals "dict" = some none)
    (z_tuple : PySem.W.nsIn K mainGlobals "tuple" = some none)
    (z_isinstance : PySem.W.nsIn K mainGlobals "isinstance" = some none)
    (z_ValueError : PySem.W.nsIn K mainGlobals "ValueError" = some none)
    (z_list : PySem.W.nsIn K mainGlobals "list" = some none)
    (z_int : PySem.W.nsIn K mainGlobals "int" = some none)
    (z_bool : PySem.W.nsIn K mainGlobals "bool" = some none)
    (z_WHOLE : PySem.W.nsIn K mainGlobals "WHOLE" = some (some (.int 115792089237316195423570985008687907853269984665640564039457584007913129639936 tk_WHOLE)))
    (z_LONGEST : PySem.W.nsIn K mainGlobals "LONGEST" = some (some (.int 256 tk_LONGEST)))
    (aF__law_decks : PySem.W.nsIn K mainGlobals "_law_decks" = some (some (.ref a__law_decks)))
    (l__law_decks : K.lookup a__law_decks = some ⟨oc0, od0, .func (PySem.W.fnOf "_law_decks" "_law_decks" (defArgs s__law_decks) (defBody s__law_decks) (defScope s__law_decks) .none kV0 dc0 pm0 an0 cd0 ct0), sl0⟩)
    (c__law_decks : PySem.W.codeIn K cd0 "_law_decks" = true)
    (k__law_decks : PySem.W.keepIn K (.ref a__law_decks) = true)
    (aF__law_draw : PySem.W.nsIn K mainGlobals "_law_draw" = some (some (.ref a__law_draw)))
    (l__law_draw : K.lookup a__law_draw = some ⟨oc1, od1, .func (PySem.W.fnOf "_law_draw" "_law_draw" (defArgs s__law_draw) (defBody s__law_draw) (defScope s__law_draw) .none kV1 dc1 pm1 an1 cd1 ct1), sl1⟩)
    (c__law_draw : PySem.W.codeIn K cd1 "_law_draw" = true)
    (k__law_draw : PySem.W.keepIn K (.ref a__law_draw) = true)
    (aF__law_drawn_lengths : PySem.W.nsIn K mainGlobals "_law_drawn_lengths" = some (some (.ref a__law_drawn_lengths)))
    (l__law_drawn_lengths : K.lookup a__law_drawn_lengths = some ⟨oc2, od2, .func (PySem.W.fnOf "_law_drawn_lengths" "_law_drawn_lengths" (defArgs s__law_drawn_lengths) (defBody s__law_drawn_lengths) (defScope s__law_drawn_lengths) .none kV2 dc2 pm2 an2 cd2 ct2), sl2⟩)
    (c__law_drawn_lengths : PySem.W.codeIn K cd2 "_law_drawn_lengths" = true)
    (k__law_drawn_lengths : PySem.W.keepIn K (.ref a__law_drawn_lengths) = true)
    (aF__law_let : PySem.W.nsIn K mainGlobals "_law_let" = some (some (.ref a__law_let)))
    (l__law_let : K.lookup a__law_let = some ⟨oc3, od3, .func (PySem.W.fnOf "_law_let" "_law_let" (defArgs s__law_let) (defBody s__law_let) (defScope s__law_let) .none kV3 dc3 pm3 an3 cd3 ct3), sl3⟩)
    (c__law_let : PySem.W.codeIn K cd3 "_law_let" = true)
    (k__law_let : PySem.W.keepIn K (.ref a__law_let) = true)
    (aF_room_of : PySem.W.nsIn K mainGlobals "room_of" = some (some (.ref a_room_of)))
    (l_room_of : K.lookup a_room_of = some ⟨oc4, od4, .func (PySem.W.fnOf "room_of" "room_of" (defArgs s_room_of) (defBody s_room_of) (defScope s_room_of) .none kV4 dc4 pm4 an4 cd4 ct4), sl4⟩)
    (c_room_of : PySem.W.codeIn K cd4 "room_of" = true)
    (k_room_of : PySem.W.keepIn K (.ref a_room_of) = true)
    (aF_need_words : PySem.W.nsIn K mainGlobals "need_words" = some (some (.ref a_need_words)))
    (l_need_words : K.lookup a_need_words = some ⟨oc5, od5, .func (PySem.W.fnOf "need_words" "need_words" (defArgs s_need_words) (defBody s_need_words) (defScope s_need_words) .none kV5 dc5 pm5 an5 cd5 ct5), sl5⟩)
    (c_need_words : PySem.W.codeIn K cd5 "need_words" = true)
    (k_need_words : PySem.W.keepIn K (.ref a_need_words) = true)
    (aF_figures_of : PySem.W.nsIn K mainGlobals "figures_of" = some (some (.ref a_figures_of)))
    (l_figures_of : K.lookup a_figures_of = some ⟨oc6, od6, .func (PySem.W.fnOf "figures_of" "figures_of" (defArgs s_figures_of) (defBody s_figures_of) (defScope s_figures_of) .none kV6 dc6 pm6 an6 cd6 ct6), sl6⟩)
    (c_figures_of : PySem.W.codeIn K cd6 "figures_of" = true)
    (k_figures_of : PySem.W.keepIn K (.ref a_figures_of) = true)
    (aF_low_bits : PySem.W.nsIn K mainGlobals "low_bits" = some (some (.ref a_low_bits)))
    (l_low_bits : K.lookup a_low_bits = some ⟨oc7, od7, .func (PySem.W.fnOf "low_bits" "low_bits" (defArgs s_low_bits) (defBody s_low_bits) (defScope s_low_bits) .none kV7 dc7 pm7 an7 cd7 ct7), sl7⟩)
    (c_low_bits : PySem.W.codeIn K cd7 "low_bits" = true)
    (k_low_bits : PySem.W.keepIn K (.ref a_low_bits) = true)
    (aF_words_by : PySem.W.nsIn K mainGlobals "words_by" = some (some (.ref a_words_by)))
    (l_words_by : K.lookup a_words_by = some ⟨oc8, od8, .func (PySem.W.fnOf "words_by" "words_by" (defArgs s_words_by) (defBody s_words_by) (defScope s_words_by) .none kV8 dc8 pm8 an8 cd8 ct8), sl8⟩)
    (c_words_by : PySem.W.codeIn K cd8 "words_by" = true)
    (k_words_by : PySem.W.keepIn K (.ref a_words_by) = true)
    (aF_coded : PySem.W.nsIn K mainGlobals "coded" = some (some (.ref a_coded)))
    (l_coded : K.lookup a_coded = some ⟨oc9, od9, .func (PySem.W.fnOf "coded" "coded" (defArgs s_coded) (defBody s_coded) (defScope s_coded) .none kV9 dc9 pm9 an9 cd9 ct9), sl9⟩)
    (c_coded : PySem.W.codeIn K cd9 "coded" = true)
    (k_coded : PySem.W.keepIn K (.ref a_coded) = true)
    (aF_decoded : PySem.W.nsIn K mainGlobals "decoded" = some (some (.ref a_decoded)))
    (l_decoded : K.lookup a_decoded = some ⟨oc10, od10, .func (PySem.W.fnOf "decoded" "decoded" (defArgs s_decoded) (defBody s_decoded) (defScope s_decoded) .none kV10 dc10 pm10 an10 cd10 ct10), sl10⟩)
    (c_decoded : PySem.W.codeIn K cd10 "decoded" = true)
    (k_decoded : PySem.W.keepIn K (.ref a_decoded) = true)
    (aF__law_kind : PySem.W.nsIn K mainGlobals "_law_kind" = some (some (.ref a__law_kind)))
    (l__law_kind : K.lookup a__law_kind = some ⟨oc11, od11, .func (PySem.W.fnOf "_law_kind" "_law_kind" (defArgs s__law_kind) (defBody s__law_kind) (defScope s__law_kind) .none kV11 dc11 pm11 an11 cd11 ct11), sl11⟩)
    (c__law_kind : PySem.W.codeIn K cd11 "_law_kind" = true)
    (k__law_kind : PySem.W.keepIn K (.ref a__law_kind) = true)
    (aF__law_words : PySem.W.nsIn K mainGlobals "_law_words" = some (some (.ref a__law_words)))
    (l__law_words : K.lookup a__law_words = some ⟨oc12, od12, .func (PySem.W.fnOf "_law_words" "_law_words" (defArgs s__law_words) (defBody s__law_words) (defScope s__law_words) .none kV12 dc12 pm12 an12 cd12 ct12), sl12⟩)
    (c__law_words : PySem.W.codeIn K cd12 "_law_words" = true)
    (k__law_words : PySem.W.keepIn K (.ref a__law_words) = true)
    (aF__law_decoded : PySem.W.nsIn K mainGlobals "_law_decoded" = some (some (.ref a__law_decoded)))
    (l__law_decoded : K.lookup a__law_decoded = some ⟨oc13, od13, .func (PySem.W.fnOf "_law_decoded" "_law_decoded" (defArgs s__law_decoded) (defBody s__law_decoded) (defScope s__law_decoded) .none kV13 dc13 pm13 an13 cd13 ct13), sl13⟩)
    (c__law_decoded : PySem.W.codeIn K cd13 "_law_decoded" = true)
    (k__law_decoded : PySem.W.keepIn K (.ref a__law_decoded) = true)
    (aF__law_read_right : PySem.W.nsIn K mainGlobals "_law_read_right" = some (some (.ref a__law_read_right)))
    (l__law_read_right : K.lookup a__law_read_right = some ⟨oc14, od14, .func (PySem.W.fnOf "_law_read_right" "_law_read_right" (defArgs s__law_read_right) (defBody s__law_read_right) (defScope s__law_read_right) .none kV14 dc14 pm14 an14 cd14 ct14), sl14⟩)
    (c__law_read_right : PySem.W.codeIn K cd14 "_law_read_right" = true)
    (k__law_read_right : PySem.W.keepIn K (.ref a__law_read_right) = true)
    (aF__law_all_read : PySem.W.nsIn K mainGlobals "_law_all_read" = some (some (.ref a__law_all_read)))
    (l__law_all_read : K.lookup a__law_all_read = some ⟨oc15, od15, .func (PySem.W.fnOf "_law_all_read" "_law_all_read" (defArgs s__law_all_read) (defBody s__law_all_read) (defScope s__law_all_read) .none kV15 dc15 pm15 an15 cd15 ct15), sl15⟩)
    (c__law_all_read : PySem.W.codeIn K cd15 "_law_all_read" = true)
    (k__law_all_read : PySem.W.keepIn K (.ref a__law_all_read) = true)
    (aF__law_bits : PySem.W.nsIn K mainGlobals "_law_bits" = some (some (.ref a__law_bits)))
    (l__law_bits : K.lookup a__law_bits = some ⟨oc16, od16, .func (PySem.W.fnOf "_law_bits" "_law_bits" (defArgs s__law_bits) (defBody s__law_bits) (defScope s__law_bits) .none kV16 dc16 pm16 an16 cd16 ct16), sl16⟩)
    (c__law_bits : PySem.W.codeIn K cd16 "_law_bits" = true)
    (k__law_bits : PySem.W.keepIn K (.ref a__law_bits) = true)
    (aF__law_coded : PySem.W.nsIn K mainGlobals "_law_coded" = some (some (.ref a__law_coded)))
    (l__law_coded : K.lookup a__law_coded = some ⟨oc17, od17, .func (PySem.W.fnOf "_law_coded" "_law_coded" (defArgs s__law_coded) (defBody s__law_coded) (defScope s__law_coded) .none kV17 dc17 pm17 an17 cd17 ct17), sl17⟩)
    (c__law_coded : PySem.W.codeIn K cd17 "_law_coded" = true)
    (k__law_coded : PySem.W.keepIn K (.ref a__law_coded) = true)
    (aF__law_bits_right : PySem.W.nsIn K mainGlobals "_law_bits_right" = some (some (.ref a__law_bits_right)))
    (l__law_bits_right : K.lookup a__law_bits_right = some ⟨oc18, od18, .func (PySem.W.fnOf "_law_bits_right" "_law_bits_right" (defArgs s__law_bits_right) (defBody s__law_bits_right) (defScope s__law_bits_right) .none kV18 dc18 pm18 an18 cd18 ct18), sl18⟩)
    (c__law_bits_right : PySem.W.codeIn K cd18 "_law_bits_right" = true)
    (k__law_bits_right : PySem.W.keepIn K (.ref a__law_bits_right) = true)
    (aF__law_coded_right : PySem.W.nsIn K mainGlobals "_law_coded_right" = some (some (.ref a__law_coded_right)))
    (l__law_coded_right : K.lookup a__law_coded_right = some ⟨oc19, od19, .func (PySem.W.fnOf "_law_coded_right" "_law_coded_right" (defArgs s__law_coded_right) (defBody s__law_coded_right) (defScope s__law_coded_right) .none kV19 dc19 pm19 an19 cd19 ct19), sl19⟩)
    (c__law_coded_right : PySem.W.codeIn K cd19 "_law_coded_right" = true)
    (k__law_coded_right : PySem.W.keepIn K (.ref a__law_coded_right) = true)
    (aF_law : PySem.W.nsIn K mainGlobals "law" = some (some (.ref a_law)))
    (l_law : K.lookup a_law = some ⟨oc20, od20, .func (PySem.W.fnOf "law" "law" (defArgs s_law) (defBody s_law) (defScope s_law) .none kV20 dc20 pm20 an20 cd20 ct20), sl20⟩)
    (c_law : PySem.W.codeIn K cd20 "law" = true)
    (k_law : PySem.W.keepIn K (.ref a_law) = true)
    : Txt K mg where
  C_PackError := C_PackError
  m_PackError := PySem.W.mg_of X G aC_PackError
  cf_PackError := ⟨ic_PackError, tc_PackError, bc_PackError⟩
  C_NoNumber := C_NoNumber
  m_NoNumber := PySem.W.mg_of X G aC_NoNumber
  cf_NoNumber := ⟨ic_NoNumber, tc_NoNumber, bc_NoNumber⟩
  C_NoCode := C_NoCode
  m_NoCode := PySem.W.mg_of X G aC_NoCode
  cf_NoCode := ⟨ic_NoCode, tc_NoCode, bc_NoCode⟩
  C_NoPlace := C_NoPlace
  m_NoPlace := PySem.W.mg_of X G aC_NoPlace
  cf_NoPlace := ⟨ic_NoPlace, tc_NoPlace, bc_NoPlace⟩
  C_Broken := C_Broken
  m_Broken := PySem.W.mg_of X G aC_Broken
  cf_Broken := ⟨ic_Broken, tc_Broken, bc_Broken⟩
  C_NoText := C_NoText
  m_NoText := PySem.W.mg_of X G aC_NoText
  cf_NoText := ⟨ic_NoText, tc_NoText, bc_NoText⟩
  C_NoName := C_NoName
  m_NoName := PySem.W.mg_of X G aC_NoName
  cf_NoName := ⟨ic_NoName, tc_NoName, bc_NoName⟩
  C_NoRow := C_NoRow
  m_NoRow := PySem.W.mg_of X G aC_NoRow
  cf_NoRow := ⟨ic_NoRow, tc_NoRow, bc_NoRow⟩
  x_NoCode := x_NoCode
  kc_NoCode := kc_NoCode
  x_NoNumber := x_NoNumber
  kc_NoNumber := kc_NoNumber
  x_Broken := x_Broken
  kc_Broken := kc_Broken
  tab := ⟨row_cls ⟨hg_NoCode, hk_NoCode, bc_NoCode, hd_NoCode, ha_NoCode, hn, ht, hm_NoCode⟩ ⟨ic_PackError, tc_PackError, bc_PackError⟩ se_NoCode su_0,
    ⟨row_cls ⟨hg_NoCode, hk_NoCode, bc_NoCode, hd_NoCode, ha_NoCode, hn, ht, hm_NoCode⟩ ⟨ic_NoCode, tc_NoCode, bc_NoCode⟩ se_NoCode su_1,
    ⟨row_cls ⟨hg_NoCode, hk_NoCode, bc_NoCode, hd_NoCode, ha_NoCode, hn, ht, hm_NoCode⟩ ⟨ic_Broken, tc_Broken, bc_Broken⟩ se_NoCode su_2,
    ⟨row_ty ⟨hg_NoCode, hk_NoCode, bc_NoCode, hd_NoCode, ha_NoCode, hn, ht, hm_NoCode⟩ (by decide +kernel) su_3,
    ⟨row_cls ⟨hg_NoCode, hk_NoCode, bc_NoCode, hd_NoCode, ha_NoCode, hn, ht, hm_NoCode⟩ ⟨ic_NoName, tc_NoName, bc_NoName⟩ se_NoCode su_4,
    ⟨row_cls ⟨hg_NoCode, hk_NoCode, bc_NoCode, hd_NoCode, ha_NoCode, hn, ht, hm_NoCode⟩ ⟨ic_NoNumber, tc_NoNumber, bc_NoNumber⟩ se_NoCode su_5,
    ⟨row_cls ⟨hg_NoCode, hk_NoCode, bc_NoCode, hd_NoCode, ha_NoCode, hn, ht, hm_NoCode⟩ ⟨ic_NoPlace, tc_NoPlace, bc_NoPlace⟩ se_NoCode su_6,
    ⟨row_cls ⟨hg_NoCode, hk_NoCode, bc_NoCode, hd_NoCode, ha_NoCode, hn, ht, hm_NoCode⟩ ⟨ic_NoRow, tc_NoRow, bc_NoRow⟩ se_NoCode su_7,
    ⟨row_cls ⟨hg_NoCode, hk_NoCode, bc_NoCode, hd_NoCode, ha_NoCode, hn, ht, hm_NoCode⟩ ⟨ic_NoText, tc_NoText, bc_NoText⟩ se_NoCode su_8,
    ⟨row_cls ⟨hg_NoNumber, hk_NoNumber, bc_NoNumber, hd_NoNumber, ha_NoNumber, hn, ht, hm_NoNumber⟩ ⟨ic_PackError, tc_PackError, bc_PackError⟩ se_NoNumber su_9,
    ⟨row_cls ⟨hg_NoNumber, hk_NoNumber, bc_NoNumber, hd_NoNumber, ha_NoNumber, hn, ht, hm_NoNumber⟩ ⟨ic_NoCode, tc_NoCode, bc_NoCode⟩ se_NoNumber su_10,
    ⟨row_cls ⟨hg_NoNumber, hk_NoNumber, bc_NoNumber, hd_NoNumber, ha_NoNumber, hn, ht, hm_NoNumber⟩ ⟨ic_Broken, tc_Broken, bc_Broken⟩ se_NoNumber su_11,
    ⟨row_ty ⟨hg_NoNumber, hk_NoNumber, bc_NoNumber, hd_NoNumber, ha_NoNumber, hn, ht, hm_NoNumber⟩ (by decide +kernel) su_12,
    ⟨row_cls ⟨hg_NoNumber, hk_NoNumber, bc_NoNumber, hd_NoNumber, ha_NoNumber, hn, ht, hm_NoNumber⟩ ⟨ic_NoName, tc_NoName, bc_NoName⟩ se_NoNumber su_13,
    ⟨row_cls ⟨hg_NoNumber, hk_NoNumber, bc_NoNumber, hd_NoNumber, ha_NoNumber, hn, ht, hm_NoNumber⟩ ⟨ic_NoNumber, tc_NoNumber, bc_NoNumber⟩ se_NoNumber su_14,
    ⟨row_cls ⟨hg_NoNumber, hk_NoNumber, bc_NoNumber, hd_NoNumber, ha_NoNumber, hn, ht, hm_NoNumber⟩ ⟨ic_NoPlace, tc_NoPlace, bc_NoPlace⟩ se_NoNumber su_15,
    ⟨row_cls ⟨hg_NoNumber, hk_NoNumber, bc_NoNumber, hd_NoNumber, ha_NoNumber, hn, ht, hm_NoNumber⟩ ⟨ic_NoRow, tc_NoRow, bc_NoRow⟩ se_NoNumber su_16,
    ⟨row_cls ⟨hg_NoNumber, hk_NoNumber, bc_NoNumber, hd_NoNumber, ha_NoNumber, hn, ht, hm_NoNumber⟩ ⟨ic_NoText, tc_NoText, bc_NoText⟩ se_NoNumber su_17,
    ⟨row_cls ⟨hg_Broken, hk_Broken, bc_Broken, hd_Broken, ha_Broken, hn, ht, hm_Broken⟩ ⟨ic_PackError, tc_PackError, bc_PackError⟩ se_Broken su_18,
    ⟨row_cls ⟨hg_Broken, hk_Broken, bc_Broken, hd_Broken, ha_Broken, hn, ht, hm_Broken⟩ ⟨ic_NoCode, tc_NoCode, bc_NoCode⟩ se_Broken su_19,
    ⟨row_cls ⟨hg_Broken, hk_Broken, bc_Broken, hd_Broken, ha_Broken, hn, ht, hm_Broken⟩ ⟨ic_Broken, tc_Broken, bc_Broken⟩ se_Broken su_20,
    ⟨row_ty ⟨hg_Broken, hk_Broken, bc_Broken, hd_Broken, ha_Broken, hn, ht, hm_Broken⟩ (by decide +kernel) su_21,
    ⟨row_cls ⟨hg_Broken, hk_Broken, bc_Broken, hd_Broken, ha_Broken, hn, ht, hm_Broken⟩ ⟨ic_NoName, tc_NoName, bc_NoName⟩ se_Broken su_22,
    ⟨row_cls ⟨hg_Broken, hk_Broken, bc_Broken, hd_Broken, ha_Broken, hn, ht, hm_Broken⟩ ⟨ic_NoNumber, tc_NoNumber, bc_NoNumber⟩ se_Broken su_23,
    ⟨row_cls ⟨hg_Broken, hk_Broken, bc_Broken, hd_Broken, ha_Broken, hn, ht, hm_Broken⟩ ⟨ic_NoPlace, tc_NoPlace, bc_NoPlace⟩ se_Broken su_24,
    ⟨row_cls ⟨hg_Broken, hk_Broken, bc_Broken, hd_Broken, ha_Broken, hn, ht, hm_Broken⟩ ⟨ic_NoRow, tc_NoRow, bc_NoRow⟩ se_Broken su_25,
    ⟨row_cls ⟨hg_Broken, hk_Broken, bc_Broken, hd_Broken, ha_Broken, hn, ht, hm_Broken⟩ ⟨ic_NoText, tc_NoText, bc_NoText⟩ se_Broken su_26,
    trivial⟩⟩⟩⟩⟩⟩⟩⟩⟩⟩⟩⟩⟩⟩⟩⟩⟩⟩⟩⟩⟩⟩⟩⟩⟩⟩⟩
  n_range := PySem.W.mg_none_of X G z_range
  n_len := PySem.W.mg_none_of X G z_len
  n_max := PySem.W.mg_none_of X G z_max
  n_sum := PySem.W.mg_none_of X G z_sum
  n_sorted := PySem.W.mg_none_of X G z_sorted
  n_dict := PySem.W.mg_none_of X G z_dict
  n_tuple := PySem.W.mg_none_of X G z_tuple
  n_isinstance := PySem.W.mg_none_of X G z_isinstance
  n_ValueError := PySem.W.mg_none_of X G z_ValueError
  n_list := PySem.W.mg_none_of X G z_list
  n_int := PySem.W.mg_none_of X G z_int
  n_bool := PySem.W.mg_none_of X G z_bool
  t_WHOLE := tk_WHOLE
  g_WHOLE := PySem.W.mg_of X G z_WHOLE
  t_LONGEST := tk_LONGEST
  g_LONGEST := PySem.W.mg_of X G z_LONGEST
  a__law_decks := a__law_decks
  fd__law_decks := _
  F__law_decks := fun_mk (st := s__law_decks) l__law_decks c__law_decks k__law_decks
  m__law_decks := PySem.W.mg_of X G aF__law_decks
  k__law_decks := k__law_decks
  b__law_decks := (fun_mk (st := s__law_decks) l__law_decks c__law_decks k__law_decks).binds fun _ _ _ _ _ _ us hl => match us, hl with | [_], _ => rfl
  a__law_draw := a__law_draw
  fd__law_draw := _
  F__law_draw := fun_mk (st := s__law_draw) l__law_draw c__law_draw k__law_draw
  m__law_draw := PySem.W.mg_of X G aF__law_draw
  k__law_draw := k__law_draw
  b__law_draw := (fun_mk (st := s__law_draw) l__law_draw c__law_draw k__law_draw).binds fun _ _ _ _ _ _ us hl => match us, hl with | [_, _], _ => rfl
  a__law_drawn_lengths := a__law_drawn_lengths
  fd__law_drawn_lengths := _
  F__law_drawn_lengths := fun_mk (st := s__law_drawn_lengths) l__law_drawn_lengths c__law_drawn_lengths k__law_drawn_lengths
  m__law_drawn_lengths := PySem.W.mg_of X G aF__law_drawn_lengths
  k__law_drawn_lengths := k__law_drawn_lengths
  b__law_drawn_lengths := (fun_mk (st := s__law_drawn_lengths) l__law_drawn_lengths c__law_drawn_lengths k__law_drawn_lengths).binds fun _ _ _ _ _ _ us hl => match us, hl with | [_, _], _ => rfl
  a__law_let := a__law_let
  fd__law_let := _
  F__law_let := fun_mk (st := s__law_let) l__law_let c__law_let k__law_let
  m__law_let := PySem.W.mg_of X G aF__law_let
  k__law_let := k__law_let
  b__law_let := (fun_mk (st := s__law_let) l__law_let c__law_let k__law_let).binds fun _ _ _ _ _ _ us hl => match us, hl with | [_], _ => rfl
  a_room_of := a_room_of
  fd_room_of := _
  F_room_of := fun_mk (st := s_room_of) l_room_of c_room_of k_room_of
  m_room_of := PySem.W.mg_of X G aF_room_of
  k_room_of := k_room_of
  b_room_of := (fun_mk (st := s_room_of) l_room_of c_room_of k_room_of).binds fun _ _ _ _ _ _ us hl => match us, hl with | [_], _ => rfl
  a_need_words := a_need_words
  fd_need_words := _
  F_need_words := fun_mk (st := s_need_words) l_need_words c_need_words k_need_words
  m_need_words := PySem.W.mg_of X G aF_need_words
  k_need_words := k_need_words
  b_need_words := (fun_mk (st := s_need_words) l_need_words c_need_words k_need_words).binds fun _ _ _ _ _ _ us hl => match us, hl with | [_], _ => rfl
  a_figures_of := a_figures_of
  fd_figures_of := _
  F_figures_of := fun_mk (st := s_figures_of) l_figures_of c_figures_of k_figures_of
  m_figures_of := PySem.W.mg_of X G aF_figures_of
  k_figures_of := k_figures_of
  b_figures_of := (fun_mk (st := s_figures_of) l_figures_of c_figures_of k_figures_of).binds fun _ _ _ _ _ _ us hl => match us, hl with | [_], _ => rfl
  a_low_bits := a_low_bits
  fd_low_bits := _
  F_low_bits := fun_mk (st := s_low_bits) l_low_bits c_low_bits k_low_bits
  m_low_bits := PySem.W.mg_of X G aF_low_bits
  k_low_bits := k_low_bits
  b_low_bits := (fun_mk (st := s_low_bits) l_low_bits c_low_bits k_low_bits).binds fun _ _ _ _ _ _ us hl => match us, hl with | [_, _], _ => rfl
  a_words_by := a_words_by
  fd_words_by := _
  F_words_by := fun_mk (st := s_words_by) l_words_by c_words_by k_words_by
  m_words_by := PySem.W.mg_of X G aF_words_by
  k_words_by := k_words_by
  b_words_by := (fun_mk (st := s_words_by) l_words_by c_words_by k_words_by).binds fun _ _ _ _ _ _ us hl => match us, hl with | [_], _ => rfl
  a_coded := a_coded
  fd_coded := _
  F_coded := fun_mk (st := s_coded) l_coded c_coded k_coded
  m_coded := PySem.W.mg_of X G aF_coded
  k_coded := k_coded
  b_coded := (fun_mk (st := s_coded) l_coded c_coded k_coded).binds fun _ _ _ _ _ _ us hl => match us, hl with | [_, _], _ => rfl
  a_decoded := a_decoded
  fd_decoded := _
  F_decoded := fun_mk (st := s_decoded) l_decoded c_decoded k_decoded
  m_decoded := PySem.W.mg_of X G aF_decoded
  k_decoded := k_decoded
  b_decoded := (fun_mk (st := s_decoded) l_decoded c_decoded k_decoded).binds fun _ _ _ _ _ _ us hl => match us, hl with | [_, _, _, _], _ => rfl
  a__law_kind := a__law_kind
  fd__law_kind := _
  F__law_kind := fun_mk (st := s__law_kind) l__law_kind c__law_kind k__law_kind
  m__law_kind := PySem.W.mg_of X G aF__law_kind
  k__law_kind := k__law_kind
  b__law_kind := (fun_mk (st := s__law_kind) l__law_kind c__law_kind k__law_kind).binds fun _ _ _ _ _ _ us hl => match us, hl with | [_, _, _, _, _], _ => rfl
  a__law_words := a__law_words
  fd__law_words := _
  F__law_words := fun_mk (st := s__law_words) l__law_words c__law_words k__law_words
  m__law_words := PySem.W.mg_of X G aF__law_words
  k__law_words := k__law_words
  b__law_words := (fun_mk (st := s__law_words) l__law_words c__law_words k__law_words).binds fun _ _ _ _ _ _ us hl => match us, hl with | [_], _ => rfl
  a__law_decoded := a__law_decoded
  fd__law_decoded := _
  F__law_decoded := fun_mk (st := s__law_decoded) l__law_decoded c__law_decoded k__law_decoded
  m__law_decoded := PySem.W.mg_of X G aF__law_decoded
  k__law_decoded := k__law_decoded
  b__law_decoded := (fun_mk (st := s__law_decoded) l__law_decoded c__law_decoded k__law_decoded).binds fun _ _ _ _ _ _ us hl => match us, hl with | [_, _, _, _], _ => rfl
  a__law_read_right := a__law_read_right
  fd__law_read_right := _
  F__law_read_right := fun_mk (st := s__law_read_right) l__law_read_right c__law_read_right k__law_read_right
  m__law_read_right := PySem.W.mg_of X G aF__law_read_right
  k__law_read_right := k__law_read_right
  b__law_read_right := (fun_mk (st := s__law_read_right) l__law_read_right c__law_read_right k__law_read_right).binds fun _ _ _ _ _ _ us hl => match us, hl with | [_, _, _, _], _ => rfl
  a__law_all_read := a__law_all_read
  fd__law_all_read := _
  F__law_all_read := fun_mk (st := s__law_all_read) l__law_all_read c__law_all_read k__law_all_read
  m__law_all_read := PySem.W.mg_of X G aF__law_all_read
  k__law_all_read := k__law_all_read
  b__law_all_read := (fun_mk (st := s__law_all_read) l__law_all_read c__law_all_read k__law_all_read).binds fun _ _ _ _ _ _ us hl => match us, hl with | [_, _, _, _, _, _], _ => rfl
  a__law_bits := a__law_bits
  fd__law_bits := _
  F__law_bits := fun_mk (st := s__law_bits) l__law_bits c__law_bits k__law_bits
  m__law_bits := PySem.W.mg_of X G aF__law_bits
  k__law_bits := k__law_bits
  b__law_bits := (fun_mk (st := s__law_bits) l__law_bits c__law_bits k__law_bits).binds fun _ _ _ _ _ _ us hl => match us, hl with | [_, _], _ => rfl
  a__law_coded := a__law_coded
  fd__law_coded := _
  F__law_coded := fun_mk (st := s__law_coded) l__law_coded c__law_coded k__law_coded
  m__law_coded := PySem.W.mg_of X G aF__law_coded
  k__law_coded := k__law_coded
  b__law_coded := (fun_mk (st := s__law_coded) l__law_coded c__law_coded k__law_coded).binds fun _ _ _ _ _ _ us hl => match us, hl with | [_, _], _ => rfl
  a__law_bits_right := a__law_bits_right
  fd__law_bits_right := _
  F__law_bits_right := fun_mk (st := s__law_bits_right) l__law_bits_right c__law_bits_right k__law_bits_right
  m__law_bits_right := PySem.W.mg_of X G aF__law_bits_right
  k__law_bits_right := k__law_bits_right
  b__law_bits_right := (fun_mk (st := s__law_bits_right) l__law_bits_right c__law_bits_right k__law_bits_right).binds fun _ _ _ _ _ _ us hl => match us, hl with | [_], _ => rfl
  a__law_coded_right := a__law_coded_right
  fd__law_coded_right := _
  F__law_coded_right := fun_mk (st := s__law_coded_right) l__law_coded_right c__law_coded_right k__law_coded_right
  m__law_coded_right := PySem.W.mg_of X G aF__law_coded_right
  k__law_coded_right := k__law_coded_right
  b__law_coded_right := (fun_mk (st := s__law_coded_right) l__law_coded_right c__law_coded_right k__law_coded_right).binds fun _ _ _ _ _ _ us hl => match us, hl with | [_, _], _ => rfl
  a_law := a_law
  fd_law := _
  F_law := fun_mk (st := s_law) l_law c_law k_law
  m_law := PySem.W.mg_of X G aF_law
  k_law := k_law
  b_law := (fun_mk (st := s_law) l_law c_law k_law).binds fun _ _ _ _ _ _ us hl => match us, hl with | [_], _ => rfl
end K10

namespace K10
open PySem PySem.Spec PyProof.Rows L2 VL
theorem all_mk {P : Program} {w : World} {K : PySem.W.Frag} {h : Heap} {mg : Str → Option Value} {fa C_PackError C_NoNumber C_NoCode C_NoPlace C_Broken C_NoText C_NoName C_NoRow a__law_decks a__law_draw a__law_drawn_lengths a__law_let a_room_of a_need_words a_figures_of a_low_bits a_words_by a_coded a_decoded a__law_kind a__law_words a__law_decoded a__law_read_right a__law_all_read a__law_bits a__law_coded a__law_bits_right a__law_coded_right a_law : Addr} (X : K.In h) (G : h.Ns mainGlobals mg) (hfa : mg "law" = some (.ref fa))
    {od0 an0 od1 an1 od2 an2 od3 an3 od4 an4 od5 an5 od6 an6 od7 an7 od8 an8 od9 an9 od10 an10 od11 an11 od12 an12 od13 an13 od14 an14 od15 an15 od16 an16 od17 an17 od18 an18 od19 an19 od20 an20 : Option Addr} {sl0 sl1 sl2 sl3 sl4 sl5 sl6 sl7 sl8 sl9 sl10 sl11 sl12 sl13 sl14 sl15 sl16 sl17 sl18 sl19 sl20 : Array (Option Value)} {tk_WHOLE tk_LONGEST : Tok} {oc0 kV0 dc0 pm0 cd0 ct0 oc1 kV1 dc1 pm1 cd1 ct1 oc2 kV2 dc2 pm2 cd2 ct2 oc3 kV3 dc3 pm3 cd3 ct3 oc4 kV4 dc4 pm4 cd4 ct4 oc5 kV5 dc5 pm5 cd5 ct5 oc6 kV6 dc6 pm6 cd6 ct6 oc7 kV7 dc7 pm7 cd7 ct7 oc8 kV8 dc8 pm8 cd8 ct8 oc9 kV9 dc9 pm9 cd9 ct9 oc10 kV10 dc10 pm10 cd10 ct10 oc11 kV11 dc11 pm11 cd11 ct11 oc12 kV12 dc12 pm12 cd12 ct12 oc13 kV13 dc13 pm13 cd13 ct13 oc14 kV14 dc14 pm14 cd14 ct14 oc15 kV15 dc15 pm15 cd15 ct15 oc16 kV16 dc16 pm16 cd16 ct16 oc17 kV17 dc17 pm17 cd17 ct17 oc18 kV18 dc18 pm18 cd18 ct18 oc19 kV19 dc19 pm19 cd19 ct19 oc20 kV20 dc20 pm20 cd20 ct20 : Value}
    (aC_PackError : PySem.W.nsIn K mainGlobals "PackError" = some (some (.ref C_PackError)))
    (ic_PackError : PySem.W.isClsIn K C_PackError = true)
    (tc_PackError : PySem.W.typeIn K (.ref C_PackError) = some (.type "type"))
    (bc_PackError : PySem.W.subIn K (.ref C_PackError) (.type "BaseException") = some true)
    (aC_NoNumber : PySem.W.nsIn K mainGlobals "NoNumber" = some (some (.ref C_NoNumber)))
    (ic_NoNumber : PySem.W.isClsIn K C_NoNumber = true)
    (tc_NoNumber : PySem.W.typeIn K (.ref C_NoNumber) = some (.type "type"))
    (bc_NoNumber : PySem.W.subIn K (.ref C_NoNumber) (.type "BaseException") = some true)
    (aC_NoCode : PySem.W.nsIn K mainGlobals "NoCode" = some (some (.ref C_NoCode)))
    (ic_NoCode : PySem.W.isClsIn K C_NoCode = true)
    (tc_NoCode : PySem.W.typeIn K (.ref C_NoCode) = some (.type "type"))
    (bc_NoCode : PySem.W.subIn K (.ref C_NoCode) (.type "BaseException") = some true)
    (aC_NoPlace : PySem.W.nsIn K mainGlobals "NoPlace" = some (some (.ref C_NoPlace)))
    (ic_NoPlace : PySem.W.isClsIn K C_NoPlace = true)
    (tc_NoPlace : PySem.W.typeIn K (.ref C_NoPlace) = some (.type "type"))
    (bc_NoPlace : PySem.W.subIn K (.ref C_NoPlace) (.type "BaseException") = some true)
    (aC_Broken : PySem.W.nsIn K mainGlobals "Broken" = some (some (.ref C_Broken)))
    (ic_Broken : PySem.W.isClsIn K C_Broken = true)
    (tc_Broken : PySem.W.typeIn K (.ref C_Broken) = some (.type "type"))
    (bc_Broken : PySem.W.subIn K (.ref C_Broken) (.type "BaseException") = some true)
    (aC_NoText : PySem.W.nsIn K mainGlobals "NoText" = some (some (.ref C_NoText)))
    (ic_NoText : PySem.W.isClsIn K C_NoText = true)
    (tc_NoText : PySem.W.typeIn K (.ref C_NoText) = some (.type "type"))
    (bc_NoText : PySem.W.subIn K (.ref C_NoText) (.type "BaseException") = some true)
    (aC_NoName : PySem.W.nsIn K mainGlobals "NoName" = some (some (.ref C_NoName)))
    (ic_NoName : PySem.W.isClsIn K C_NoName = true)
    (tc_NoName : PySem.W.typeIn K (.ref C_NoName) = some (.type "type"))
    (bc_NoName : PySem.W.subIn K (.ref C_NoName) (.type "BaseException") = some true)
    (aC_NoRow : PySem.W.nsIn K mainGlobals "NoRow" = some (some (.ref C_NoRow)))
    (ic_NoRow : PySem.W.isClsIn K C_NoRow = true)
    (tc_NoRow : PySem.W.typeIn K (.ref C_NoRow) = some (.type "type"))
    (bc_NoRow : PySem.W.subIn K (.ref C_NoRow) (.type "BaseException") = some true)
    (x_NoCode : PySem.W.excIn K C_NoCode [.type "ValueError", .type "Exception", .type "BaseException", .type "object"] "ValueError.__new__" = true)
    (kc_NoCode : PySem.W.keepIn K (.ref C_NoCode) = true)
    (hg_NoCode : PySem.W.findIn K (.ref C_NoCode) "__getattribute__" = some (some (.builtin "BaseException.__getattribute__")))
    (hk_NoCode : PySem.W.findIn K (.ref C_NoCode) "__getattr__" = some none)
    (hd_NoCode : PySem.W.hasDictIn K C_NoCode = true)
    (ha_NoCode : PySem.W.findIn K (.ref C_NoCode) "__class__" = some (some (.builtin "object.__class__")))
    (hm_NoCode : PySem.W.mroIn K C_NoCode (.type "object") = some true)
    (se_NoCode : PySem.W.subIn K (.ref C_NoCode) (.ref C_NoCode) = some true)
    (x_NoNumber : PySem.W.excIn K C_NoNumber [.type "ValueError", .type "Exception", .type "BaseException", .type "object"] "ValueError.__new__" = true)
    (kc_NoNumber : PySem.W.keepIn K (.ref C_NoNumber) = true)
    (hg_NoNumber : PySem.W.findIn K (.ref C_NoNumber) "__getattribute__" = some (some (.builtin "BaseException.__getattribute__")))
    (hk_NoNumber : PySem.W.findIn K (.ref C_NoNumber) "__getattr__" = some none)
    (hd_NoNumber : PySem.W.hasDictIn K C_NoNumber = true)
    (ha_NoNumber : PySem.W.findIn K (.ref C_NoNumber) "__class__" = some (some (.builtin "object.__class__")))
    (hm_NoNumber : PySem.W.mroIn K C_NoNumber (.type "object") = some true)
    (se_NoNumber : PySem.W.subIn K (.ref C_NoNumber) (.ref C_NoNumber) = some true)
    (x_Broken : PySem.W.excIn K C_Broken [.type "ValueError", .type "Exception", .type "BaseException", .type "object"] "ValueError.__new__" = true)
    (kc_Broken : PySem.W.keepIn K (.ref C_Broken) = true)
    (hg_Broken : PySem.W.findIn K (.ref C_Broken) "__getattribute__" = some (some (.builtin "BaseException.__getattribute__")))
    (hk_Broken : PySem.W.findIn K (.ref C_Broken) "__getattr__" = some none)
    (hd_Broken : PySem.W.hasDictIn K C_Broken = true)
    (ha_Broken : PySem.W.findIn K (.ref C_Broken) "__class__" = some (some (.builtin "object.__class__")))
    (hm_Broken : PySem.W.mroIn K C_Broken (.type "object") = some true)
    (se_Broken : PySem.W.subIn K (.ref C_Broken) (.ref C_Broken) = some true)
    (hn : PySem.W.specialIn K (.builtin "object.__class__") "__get__" = some (some (.builtin "getset_descriptor.__get__")))
    (ht : PySem.W.takesIn K (.builtin "object.__class__") = some true)
    (su_0 : PySem.W.subIn K (.ref C_NoCode) (.ref C_PackError) = some true)
    (su_1 : PySem.W.subIn K (.ref C_NoCode) (.ref C_NoCode) = some true)
    (su_2 : PySem.W.subIn K (.ref C_NoCode) (.ref C_Broken) = some false)
    (su_3 : PySem.W.subIn K (.ref C_NoCode) (.type "ValueError") = some true)
    (su_4 : PySem.W.subIn K (.ref C_NoCode) (.ref C_NoName) = some false)
    (su_5 : PySem.W.subIn K (.ref C_NoCode) (.ref C_NoNumber) = some false)
    (su_6 : PySem.W.subIn K (.ref C_NoCode) (.ref C_NoPlace) = some false)
    (su_7 : PySem.W.subIn K (.ref C_NoCode) (.ref C_NoRow) = some false)
    (su_8 : PySem.W.subIn K (.ref C_NoCode) (.ref C_NoText) = some false)
    (su_9 : PySem.W.subIn K (.ref C_NoNumber) (.ref C_PackError) = some true)
    (su_10 : PySem.W.subIn K (.ref C_NoNumber) (.ref C_NoCode) = some false)
    (su_11 : PySem.W.subIn K (.ref C_NoNumber) (.ref C_Broken) = some false)
    (su_12 : PySem.W.subIn K (.ref C_NoNumber) (.type "ValueError") = some true)
    (su_13 : PySem.W.subIn K (.ref C_NoNumber) (.ref C_NoName) = some false)
    (su_14 : PySem.W.subIn K (.ref C_NoNumber) (.ref C_NoNumber) = some true)
    (su_15 : PySem.W.subIn K (.ref C_NoNumber) (.ref C_NoPlace) = some false)
    (su_16 : PySem.W.subIn K (.ref C_NoNumber) (.ref C_NoRow) = some false)
    (su_17 : PySem.W.subIn K (.ref C_NoNumber) (.ref C_NoText) = some false)
    (su_18 : PySem.W.subIn K (.ref C_Broken) (.ref C_PackError) = some true)
    (su_19 : PySem.W.subIn K (.ref C_Broken) (.ref C_NoCode) = some false)
    (su_20 : PySem.W.subIn K (.ref C_Broken) (.ref C_Broken) = some true)
    (su_21 : PySem.W.subIn K (.ref C_Broken) (.type "ValueError") = some true)
    (su_22 : PySem.W.subIn K (.ref C_Broken) (.ref C_NoName) = some false)
    (su_23 : PySem.W.subIn K (.ref C_Broken) (.ref C_NoNumber) = some false)
    (su_24 : PySem.W.subIn K (.ref C_Broken) (.ref C_NoPlace) = some false)
    (su_25 : PySem.W.subIn K (.ref C_Broken) (.ref C_NoRow) = some false)
    (su_26 : PySem.W.subIn K (.ref C_Broken) (.ref C_NoText) = some false)
    (z_range : PySem.W.nsIn K mainGlobals "range" = some none)
    (z_len : PySem.W.nsIn K mainGlobals "len" = some none)
    (z_max : PySem.W.nsIn K mainGlobals "max" = some none)
    (z_sum : PySem.W.nsIn K mainGlobals "sum" = some none)
    (z_sorted : PySem.W.nsIn K mainGlobals "sorted" = some none)
    (z_dict : PySem.W.nsIn K mainGlobals "dict" = some none)
    (z_tuple : PySem.W.nsIn K mainGlobals "tuple" = some none)
    (z_isinstance : PySem.W.nsIn K mainGlobals "isinstance" = some none)
    (z_ValueError : PySem.W.nsIn K mainGlobals "ValueError" = some none)
    (z_list : PySem.W.nsIn K mainGlobals "list" = some none)
    (z_int : PySem.W.nsIn K mainGlobals "int" = some none)
    (z_bool : PySem.W.nsIn K mainGlobals "bool" = some none)
    (z_WHOLE : PySem.W.nsIn K mainGlobals "WHOLE" = some (some (.int 115792089237316195423570985008687907853269984665640564039457584007913129639936 tk_WHOLE)))
    (z_LONGEST : PySem.W.nsIn K mainGlobals "LONGEST" = some (some (.int 256 tk_LONGEST)))
    (aF__law_decks : PySem.W.nsIn K mainGlobals "_law_decks" = some (some (.ref a__law_decks)))
    (l__law_decks : K.lookup a__law_decks = some ⟨oc0, od0, .func (PySem.W.fnOf "_law_decks" "_law_decks" (defArgs s__law_decks) (defBody s__law_decks) (defScope s__law_decks) .none kV0 dc0 pm0 an0 cd0 ct0), sl0⟩)
    (c__law_decks : PySem.W.codeIn K cd0 "_law_decks" = true)
    (k__law_decks : PySem.W.keepIn K (.ref a__law_decks) = true)
    (aF__law_draw : PySem.W.nsIn K mainGlobals "_law_draw" = some (some (.ref a__law_draw)))
    (l__law_draw : K.lookup a__law_draw = some ⟨oc1, od1, .func (PySem.W.fnOf "_law_draw" "_law_draw" (defArgs s__law_draw) (defBody s__law_draw) (defScope s__law_draw) .none kV1 dc1 pm1 an1 cd1 ct1), sl1⟩)
    (c__law_draw : PySem.W.codeIn K cd1 "_law_draw" = true)
    (k__law_draw : PySem.W.keepIn K (.ref a__law_draw) = true)
    (aF__law_drawn_lengths : PySem.W.nsIn K mainGlobals "_law_drawn_lengths" = some (some (.ref a__law_drawn_lengths)))
    (l__law_drawn_lengths : K.lookup a__law_drawn_lengths = some ⟨oc2, od2, .func (PySem.W.fnOf "_law_drawn_lengths" "_law_drawn_lengths" (defArgs s__law_drawn_lengths) (defBody s__law_drawn_lengths) (defScope s__law_drawn_lengths) .none kV2 dc2 pm2 an2 cd2 ct2), sl2⟩)
    (c__law_drawn_lengths : PySem.W.codeIn K cd2 "_law_drawn_lengths" = true)
    (k__law_drawn_lengths : PySem.W.keepIn K (.ref a__law_drawn_lengths) = true)
    (aF__law_let : PySem.W.nsIn K mainGlobals "_law_let" = some (some (.ref a__law_let)))
    (l__law_let : K.lookup a__law_let = some ⟨oc3, od3, .func (PySem.W.fnOf "_law_let" "_law_let" (defArgs s__law_let) (defBody s__law_let) (defScope s__law_let) .none kV3 dc3 pm3 an3 cd3 ct3), sl3⟩)
    (c__law_let : PySem.W.codeIn K cd3 "_law_let" = true)
    (k__law_let : PySem.W.keepIn K (.ref a__law_let) = true)
    (aF_room_of : PySem.W.nsIn K mainGlobals "room_of" = some (some (.ref a_room_of)))
    (l_room_of : K.lookup a_room_of = some ⟨oc4, od4, .func (PySem.W.fnOf "room_of" "room_of" (defArgs s_room_of) (defBody s_room_of) (defScope s_room_of) .none kV4 dc4 pm4 an4 cd4 ct4), sl4⟩)
    (c_room_of : PySem.W.codeIn K cd4 "room_of" = true)
    (k_room_of : PySem.W.keepIn K (.ref a_room_of) = true)
    (aF_need_words : PySem.W.nsIn K mainGlobals "need_words" = some (some (.ref a_need_words)))
    (l_need_words : K.lookup a_need_words = some ⟨oc5, od5, .func (PySem.W.fnOf "need_words" "need_words" (defArgs s_need_words) (defBody s_need_words) (defScope s_need_words) .none kV5 dc5 pm5 an5 cd5 ct5), sl5⟩)
    (c_need_words : PySem.W.codeIn K cd5 "need_words" = true)
    (k_need_words : PySem.W.keepIn K (.ref a_need_words) = true)
    (aF_figures_of : PySem.W.nsIn K mainGlobals "figures_of" = some (some (.ref a_figures_of)))
    (l_figures_of : K.lookup a_figures_of = some ⟨oc6, od6, .func (PySem.W.fnOf "figures_of" "figures_of" (defArgs s_figures_of) (defBody s_figures_of) (defScope s_figures_of) .none kV6 dc6 pm6 an6 cd6 ct6), sl6⟩)
    (c_figures_of : PySem.W.codeIn K cd6 "figures_of" = true)
    (k_figures_of : PySem.W.keepIn K (.ref a_figures_of) = true)
    (aF_low_bits : PySem.W.nsIn K mainGlobals "low_bits" = some (some (.ref a_low_bits)))
    (l_low_bits : K.lookup a_low_bits = some ⟨oc7, od7, .func (PySem.W.fnOf "low_bits" "low_bits" (defArgs s_low_bits) (defBody s_low_bits) (defScope s_low_bits) .none kV7 dc7 pm7 an7 cd7 ct7), sl7⟩)
    (c_low_bits : PySem.W.codeIn K cd7 "low_bits" = true)
    (k_low_bits : PySem.W.keepIn K (.ref a_low_bits) = true)
    (aF_words_by : PySem.W.nsIn K mainGlobals "words_by" = some (some (.ref a_words_by)))
    (l_words_by : K.lookup a_words_by = some ⟨oc8, od8, .func (PySem.W.fnOf "words_by" "words_by" (defArgs s_words_by) (defBody s_words_by) (defScope s_words_by) .none kV8 dc8 pm8 an8 cd8 ct8), sl8⟩)
    (c_words_by : PySem.W.codeIn K cd8 "words_by" = true)
    (k_words_by : PySem.W.keepIn K (.ref a_words_by) = true)
    (aF_coded : PySem.W.nsIn K mainGlobals "coded" = some (some (.ref a_coded)))
    (l_coded : K.lookup a_coded = some ⟨oc9, od9, .func (PySem.W.fnOf "coded" "coded" (defArgs s_coded) (defBody s_coded) (defScope s_coded) .none kV9 dc9 pm9 an9 cd9 ct9), sl9⟩)
    (c_coded : PySem.W.codeIn K cd9 "coded" = true)
    (k_coded : PySem.W.keepIn K (.ref a_coded) = true)
    (aF_decoded : PySem.W.nsIn K mainGlobals "decoded" = some (some (.ref a_decoded)))
    (l_decoded : K.lookup a_decoded = some ⟨oc10, od10, .func (PySem.W.fnOf "decoded" "decoded" (defArgs s_decoded) (defBody s_decoded) (defScope s_decoded) .none kV10 dc10 pm10 an10 cd10 ct10), sl10⟩)
    (c_decoded : PySem.W.codeIn K cd10 "decoded" = true)
    (k_decoded : PySem.W.keepIn K (.ref a_decoded) = true)
    (aF__law_kind : PySem.W.nsIn K mainGlobals "_law_kind" = some (some (.ref a__law_kind)))
    (l__law_kind : K.lookup a__law_kind = some ⟨oc11, od11, .func (PySem.W.fnOf "_law_kind" "_law_kind" (defArgs s__law_kind) (defBody s__law_kind) (defScope s__law_kind) .none kV11 dc11 pm11 an11 cd11 ct11), sl11⟩)
    (c__law_kind : PySem.W.codeIn K cd11 "_law_kind" = true)
    (k__law_kind : PySem.W.keepIn K (.ref a__law_kind) = true)
    (aF__law_words : PySem.W.nsIn K mainGlobals "_law_words" = some (some (.ref a__law_words)))
    (l__law_words : K.lookup a__law_words = some ⟨oc12, od12, .func (PySem.W.fnOf "_law_words" "_law_words" (defArgs s__law_words) (defBody s__law_words) (defScope s__law_words) .none kV12 dc12 pm12 an12 cd12 ct12), sl12⟩)
    (c__law_words : PySem.W.codeIn K cd12 "_law_words" = true)
    (k__law_words : PySem.W.keepIn K (.ref a__law_words) = true)
    (aF__law_decoded : PySem.W.nsIn K mainGlobals "_law_decoded" = some (some (.ref a__law_decoded)))
    (l__law_decoded : K.lookup a__law_decoded = some ⟨oc13, od13, .func (PySem.W.fnOf "_law_decoded" "_law_decoded" (defArgs s__law_decoded) (defBody s__law_decoded) (defScope s__law_decoded) .none kV13 dc13 pm13 an13 cd13 ct13), sl13⟩)
    (c__law_decoded : PySem.W.codeIn K cd13 "_law_decoded" = true)
    (k__law_decoded : PySem.W.keepIn K (.ref a__law_decoded) = true)
    (aF__law_read_right : PySem.W.nsIn K mainGlobals "_law_read_right" = some (some (.ref a__law_read_right)))
    (l__law_read_right : K.lookup a__law_read_right = some ⟨oc14, od14, .func (PySem.W.fnOf "_law_read_right" "_law_read_right" (defArgs s__law_read_right) (defBody s__law_read_right) (defScope s__law_read_right) .none kV14 dc14 pm14 an14 cd14 ct14), sl14⟩)
    (c__law_read_right : PySem.W.codeIn K cd14 "_law_read_right" = true)
    (k__law_read_right : PySem.W.keepIn K (.ref a__law_read_right) = true)
    (aF__law_all_read : PySem.W.nsIn K mainGlobals "_law_all_read" = some (some (.ref a__law_all_read)))
    (l__law_all_read : K.lookup a__law_all_read = some ⟨oc15, od15, .func (PySem.W.fnOf "_law_all_read" "_law_all_read" (defArgs s__law_all_read) (defBody s__law_all_read) (defScope s__law_all_read) .none kV15 dc15 pm15 an15 cd15 ct15), sl15⟩)
    (c__law_all_read : PySem.W.codeIn K cd15 "_law_all_read" = true)
    (k__law_all_read : PySem.W.keepIn K (.ref a__law_all_read) = true)
    (aF__law_bits : PySem.W.nsIn K mainGlobals "_law_bits" = some (some (.ref a__law_bits)))
    (l__law_bits : K.lookup a__law_bits = some ⟨oc16, od16, .func (PySem.W.fnOf "_law_bits" "_law_bits" (defArgs s__law_bits) (defBody s__law_bits) (defScope s__law_bits) .none kV16 dc16 pm16 an16 cd16 ct16), sl16⟩)
    (c__law_bits : PySem.W.codeIn K cd16 "_law_bits" = true)
    (k__law_bits : PySem.W.keepIn K (.ref a__law_bits) = true)
    (aF__law_coded : PySem.W.nsIn K mainGlobals "_law_coded" = some (some (.ref a__law_coded)))
    (l__law_coded : K.lookup a__law_coded = some ⟨oc17, od17, .func (PySem.W.fnOf "_law_coded" "_law_coded" (defArgs s__law_coded) (defBody s__law_coded) (defScope s__law_coded) .none kV17 dc17 pm17 an17 cd17 ct17), sl17⟩)
    (c__law_coded : PySem.W.codeIn K cd17 "_law_coded" = true)
    (k__law_coded : PySem.W.keepIn K (.ref a__law_coded) = true)
    (aF__law_bits_right : PySem.W.nsIn K mainGlobals "_law_bits_right" = some (some (.ref a__law_bits_right)))
    (l__law_bits_right : K.lookup a__law_bits_right = some ⟨oc18, od18, .func (PySem.W.fnOf "_law_bits_right" "_law_bits_right" (defArgs s__law_bits_right) (defBody s__law_bits_right) (defScope s__law_bits_right) .none kV18 dc18 pm18 an18 cd18 ct18), sl18⟩)
    (c__law_bits_right : PySem.W.codeIn K cd18 "_law_bits_right" = true)
    (k__law_bits_right : PySem.W.keepIn K (.ref a__law_bits_right) = true)
    (aF__law_coded_right : PySem.W.nsIn K mainGlobals "_law_coded_right" = some (some (.ref a__law_coded_right)))
    (l__law_coded_right : K.lookup a__law_coded_right = some ⟨oc19, od19, .func (PySem.W.fnOf "_law_coded_right" "_law_coded_right" (defArgs s__law_coded_right) (defBody s__law_coded_right) (defScope s__law_coded_right) .none kV19 dc19 pm19 an19 cd19 ct19), sl19⟩)
    (c__law_coded_right : PySem.W.codeIn K cd19 "_law_coded_right" = true)
    (k__law_coded_right : PySem.W.keepIn K (.ref a__law_coded_right) = true)
    (aF_law : PySem.W.nsIn K mainGlobals "law" = some (some (.ref a_law)))
    (l_law : K.lookup a_law = some ⟨oc20, od20, .func (PySem.W.fnOf "law" "law" (defArgs s_law) (defBody s_law) (defScope s_law) .none kV20 dc20 pm20 an20 cd20 ct20), sl20⟩)
    (c_law : PySem.W.codeIn K cd20 "law" = true)
    (k_law : PySem.W.keepIn K (.ref a_law) = true)
    : ∃ fd : FuncData, (∀ (s : Shared) (u : Value), BindsTo s fd ⟨[u], []⟩ [("script", u)]) ∧ ∀ base : Heap, K.In base → base.Ns mainGlobals mg → FnOk P w K mg base (L2.CX P w) 8 fa fd ["script"] (spLaw K) := by
  have T : Txt K mg := txt_mk X G aC_PackError ic_PackError tc_PackError bc_PackError aC_NoNumber ic_NoNumber tc_NoNumber bc_NoNumber aC_NoCode ic_NoCode tc_NoCode bc_NoCode aC_NoPlace ic_NoPlace tc_NoPlace bc_NoPlace aC_Broken ic_Broken tc_Broken bc_Broken aC_NoText ic_NoText tc_NoText bc_NoText aC_NoName ic_NoName tc_NoName bc_NoName aC_NoRow ic_NoRow tc_NoRow bc_NoRow x_NoCode kc_NoCode hg_NoCode hk_NoCode hd_NoCode ha_NoCode hm_NoCode se_NoCode x_NoNumber kc_NoNumber hg_NoNumber hk_NoNumber hd_NoNumber ha_NoNumber hm_NoNumber se_NoNumber x_Broken kc_Broken hg_Broken hk_Broken hd_Broken ha_Broken hm_Broken se_Broken hn ht su_0 su_1 su_2 su_3 su_4 su_5 su_6 su_7 su_8 su_9 su_10 su_11 su_12 su_13 su_14 su_15 su_16 su_17 su_18 su_19 su_20 su_21 su_22 su_23 su_24 su_25 su_26 z_range z_len z_max z_sum z_sorted z_dict z_tuple z_isinstance z_ValueError z_list z_int z_bool z_WHOLE z_LONGEST aF__law_decks l__law_decks c__law_decks k__law_decks aF__law_draw l__law_draw c__law_draw k__law_draw aF__law_drawn_lengths l__law_drawn_lengths c__law_drawn_lengths k__law_drawn_lengths aF__law_let l__law_let c__law_let k__law_let aF_room_of l_room_of c_room_of k_room_of aF_need_words l_need_words c_need_words k_need_words aF_figures_of l_figures_of c_figures_of k_figures_of aF_low_bits l_low_bits c_low_bits k_low_bits aF_words_by l_words_by c_words_by k_words_by aF_coded l_coded c_coded k_coded aF_decoded l_decoded c_decoded k_decoded aF__law_kind l__law_kind c__law_kind k__law_kind aF__law_words l__law_words c__law_words k__law_words aF__law_decoded l__law_decoded c__law_decoded k__law_decoded aF__law_read_right l__law_read_right c__law_read_right k__law_read_right aF__law_all_read l__law_all_read c__law_all_read k__law_all_read aF__law_bits l__law_bits c__law_bits k__law_bits aF__law_coded l__law_coded c__law_coded k__law_coded aF__law_bits_right l__law_bits_right c__law_bits_right k__law_bits_right aF__law_coded_right l__law_coded_right c__law_coded_right k__law_coded_right aF_law l_law c_law k_law
  have e := hfa.symm.trans (PySem.W.mg_of X G aF_law)
  cases e
  exact ⟨PySem.W.fnOf "law" "law" (defArgs s_law) (defBody s_law) (defScope s_law) .none kV20 dc20 pm20 an20 cd20 ct20, fun s u => .of_eq rfl, fun base _ _ => (ok_law (txt_mk X G aC_PackError ic_PackError tc_PackError bc_PackError aC_NoNumber ic_NoNumber tc_NoNumber bc_NoNumber aC_NoCode ic_NoCode tc_NoCode bc_NoCode aC_NoPlace ic_NoPlace tc_NoPlace bc_NoPlace aC_Broken ic_Broken tc_Broken bc_Broken aC_NoText ic_NoText tc_NoText bc_NoText aC_NoName ic_NoName tc_NoName bc_NoName aC_NoRow ic_NoRow tc_NoRow bc_NoRow x_NoCode kc_NoCode hg_NoCode hk_NoCode hd_NoCode ha_NoCode hm_NoCode se_NoCode x_NoNumber kc_NoNumber hg_NoNumber hk_NoNumber hd_NoNumber ha_NoNumber hm_NoNumber se_NoNumber x_Broken kc_Broken hg_Broken hk_Broken hd_Broken ha_Broken hm_Broken se_Broken hn ht su_0 su_1 su_2 su_3 su_4 su_5 su_6 su_7 su_8 su_9 su_10 su_11 su_12 su_13 su_14 su_15 su_16 su_17 su_18 su_19 su_20 su_21 su_22 su_23 su_24 su_25 su_26 z_range z_len z_max z_sum z_sorted z_dict z_tuple z_isinstance z_ValueError z_list z_int z_bool z_WHOLE z_LONGEST aF__law_decks l__law_decks c__law_decks k__law_decks aF__law_draw l__law_draw c__law_draw k__law_draw aF__law_drawn_lengths l__law_drawn_lengths c__law_drawn_lengths k__law_drawn_lengths aF__law_let l__law_let c__law_let k__law_let aF_room_of l_room_of c_room_of k_room_of aF_need_words l_need_words c_need_words k_need_words aF_figures_of l_figures_of c_figures_of k_figures_of aF_low_bits l_low_bits c_low_bits k_low_bits aF_words_by l_words_by c_words_by k_words_by aF_coded l_coded c_coded k_coded aF_decoded l_decoded c_decoded k_decoded aF__law_kind l__law_kind c__law_kind k__law_kind aF__law_words l__law_words c__law_words k__law_words aF__law_decoded l__law_decoded c__law_decoded k__law_decoded aF__law_read_right l__law_read_right c__law_read_right k__law_read_right aF__law_all_read l__law_all_read c__law_all_read k__law_all_read aF__law_bits l__law_bits c__law_bits k__law_bits aF__law_coded l__law_coded c__law_coded k__law_coded aF__law_bits_right l__law_bits_right c__law_bits_right k__law_bits_right aF__law_coded_right l__law_coded_right c__law_coded_right k__law_coded_right aF_law l_law c_law k_law)).imp fun vs H Q E q => law_imp (G := (txt_mk X G aC_PackError ic_PackError tc_PackError bc_PackError aC_NoNumber ic_NoNumber tc_NoNumber bc_NoNumber aC_NoCode ic_NoCode tc_NoCode bc_NoCode aC_NoPlace ic_NoPlace tc_NoPlace bc_NoPlace aC_Broken ic_Broken tc_Broken bc_Broken aC_NoText ic_NoText tc_NoText bc_NoText aC_NoName ic_NoName tc_NoName bc_NoName aC_NoRow ic_NoRow tc_NoRow bc_NoRow x_NoCode kc_NoCode hg_NoCode hk_NoCode hd_NoCode ha_NoCode hm_NoCode se_NoCode x_NoNumber kc_NoNumber hg_NoNumber hk_NoNumber hd_NoNumber ha_NoNumber hm_NoNumber se_NoNumber x_Broken kc_Broken hg_Broken hk_Broken hd_Broken ha_Broken hm_Broken se_Broken hn ht su_0 su_1 su_2 su_3 su_4 su_5 su_6 su_7 su_8 su_9 su_10 su_11 su_12 su_13 su_14 su_15 su_16 su_17 su_18 su_19 su_20 su_21 su_22 su_23 su_24 su_25 su_26 z_range z_len z_max z_sum z_sorted z_dict z_tuple z_isinstance z_ValueError z_list z_int z_bool z_WHOLE z_LONGEST aF__law_decks l__law_decks c__law_decks k__law_decks aF__law_draw l__law_draw c__law_draw k__law_draw aF__law_drawn_lengths l__law_drawn_lengths c__law_drawn_lengths k__law_drawn_lengths aF__law_let l__law_let c__law_let k__law_let aF_room_of l_room_of c_room_of k_room_of aF_need_words l_need_words c_need_words k_need_words aF_figures_of l_figures_of c_figures_of k_figures_of aF_low_bits l_low_bits c_low_bits k_low_bits aF_words_by l_words_by c_words_by k_words_by aF_coded l_coded c_coded k_coded aF_decoded l_decoded c_decoded k_decoded aF__law_kind l__law_kind c__law_kind k__law_kind aF__law_words l__law_words c__law_words k__law_words aF__law_decoded l__law_decoded c__law_decoded k__law_decoded aF__law_read_right l__law_read_right c__law_read_right k__law_read_right aF__law_all_read l__law_all_read c__law_all_read k__law_all_read aF__law_bits l__law_bits c__law_bits k__law_bits aF__law_coded l__law_coded c__law_coded k__law_coded aF__law_bits_right l__law_bits_right c__law_bits_right k__law_bits_right aF__law_coded_right l__law_coded_right c__law_coded_right k__law_coded_right aF_law l_law c_law k_law).G) rfl rfl law_plain q⟩
end K10
open PySem PySem.W PyProof.Rows
theorem PySem.Challenge.cw_packhall_k10_coded_and_decoded_holds : PySem.Challenge.rw_packhall_k10_coded_and_decoded.Holds := by
  w_on; o_law; k_head; (case hw => w_witness2)
  k_fill
  refine VL.walk_lawV (k := 8) (l := PySem.Challenge.rw_packhall_k10_coded_and_decoded) rfl rfl ⟨rfl, by decide, by decide⟩ (fun w h Y => PySem.W.kIn_of Y) ?F
  case F =>
    intro w mg fa h KX G hmg
    refine' K10.all_mk KX G hmg ?aC_PackError ?ic_PackError ?tc_PackError ?bc_PackError ?aC_NoNumber ?ic_NoNumber ?tc_NoNumber ?bc_NoNumber ?aC_NoCode ?ic_NoCode ?tc_NoCode ?bc_NoCode ?aC_NoPlace ?ic_NoPlace ?tc_NoPlace ?bc_NoPlace ?aC_Broken ?ic_Broken ?tc_Broken ?bc_Broken ?aC_NoText ?ic_NoText ?tc_NoText ?bc_NoText ?aC_NoName ?ic_NoName ?tc_NoName ?bc_NoName ?aC_NoRow ?ic_NoRow ?tc_NoRow ?bc_NoRow ?x_NoCode ?kc_NoCode ?hg_NoCode ?hk_NoCode ?hd_NoCode ?ha_NoCode ?hm_NoCode ?se_NoCode ?x_NoNumber ?kc_NoNumber ?hg_NoNumber ?hk_NoNumber ?hd_NoNumber ?ha_NoNumber ?hm_NoNumber ?se_NoNumber ?x_Broken ?kc_Broken ?hg_Broken ?hk_Broken ?hd_Broken ?ha_Broken ?hm_Broken ?se_Broken ?hn ?ht ?su_0 ?su_1 ?su_2 ?su_3 ?su_4 ?su_5 ?su_6 ?su_7 ?su_8 ?su_9 ?su_10 ?su_11 ?su_12 ?su_13 ?su_14 ?su_15 ?su_16 ?su_17 ?su_18 ?su_19 ?su_20 ?su_21 ?su_22 ?su_23 ?su_24 ?su_25 ?su_26 ?z_range ?z_len ?z_max ?z_sum ?z_sorted ?z_dict ?z_tuple ?z_isinstance ?z_ValueError ?z_list ?z_int ?z_bool ?z_WHOLE ?z_LONGEST ?aF__law_decks ?l__law_decks ?c__law_decks ?k__law_decks ?aF__law_draw ?l__law_draw ?c__law_draw ?k__law_draw ?aF__law_drawn_lengths ?l__law_drawn_lengths ?c__law_drawn_lengths ?k__law_drawn_lengths ?aF__law_let ?l__law_let ?c__law_let ?k__law_let ?aF_room_of ?l_room_of ?c_room_of ?k_room_of ?aF_need_words ?l_need_words ?c_need_words ?k_need_words ?aF_figures_of ?l_figures_of ?c_figures_of ?k_figures_of ?aF_low_bits ?l_low_bits ?c_low_bits ?k_low_bits ?aF_words_by ?l_words_by ?c_words_by ?k_words_by ?aF_coded ?l_coded ?c_coded ?k_coded ?aF_decoded ?l_decoded ?c_decoded ?k_decoded ?aF__law_kind ?l__law_kind ?c__law_kind ?k__law_kind ?aF__law_words ?l__law_words ?c__law_words ?k__law_words ?aF__law_decoded ?l__law_decoded ?c__law_decoded ?k__law_decoded ?aF__law_read_right ?l__law_read_right ?c__law_read_right ?k__law_read_right ?aF__law_all_read ?l__law_all_read ?c__law_all_read ?k__law_all_read ?aF__law_bits ?l__law_bits ?c__law_bits ?k__law_bits ?aF__law_coded ?l__law_coded ?c__law_coded ?k__law_coded ?aF__law_bits_right ?l__law_bits_right ?c__law_bits_right ?k__law_bits_right ?aF__law_coded_right ?l__law_coded_right ?c__law_coded_right ?k__law_coded_right ?aF_law ?l_law ?c_law ?k_law
    (case aC_PackError => k_is)
    (case ic_PackError => k_is)
    (case tc_PackError => k_is)
    (case bc_PackError => k_is)
    (case aC_NoNumber => k_is)
    (case ic_NoNumber => k_is)
    (case tc_NoNumber => k_is)
    (case bc_NoNumber => k_is)
    (case aC_NoCode => k_is)
    (case ic_NoCode => k_is)
    (case tc_NoCode => k_is)
    (case bc_NoCode => k_is)
    (case aC_NoPlace => k_is)
    (case ic_NoPlace => k_is)
    (case tc_NoPlace => k_is)
    (case bc_NoPlace => k_is)
    (case aC_Broken => k_is)
    (case ic_Broken => k_is)
    (case tc_Broken => k_is)
    (case bc_Broken => k_is)
    (case aC_NoText => k_is)
    (case ic_NoText => k_is)
    (case tc_NoText => k_is)
    (case bc_NoText => k_is)
    (case aC_NoName => k_is)
    (case ic_NoName => k_is)
    (case tc_NoName => k_is)
    (case bc_NoName => k_is)
    (case aC_NoRow => k_is)
    (case ic_NoRow => k_is)
    (case tc_NoRow => k_is)
    (case bc_NoRow => k_is)
    (case x_NoCode => k_exc)
    (case kc_NoCode => k_is)
    (case hg_NoCode => k_is)
    (case hk_NoCode => k_is)
    (case hd_NoCode => k_is)
    (case ha_NoCode => k_is)
    (case hm_NoCode => k_is)
    (case se_NoCode => first | rfl | k_is)
    (case x_NoNumber => k_exc)
    (case kc_NoNumber => k_is)
    (case hg_NoNumber => k_is)
    (case hk_NoNumber => k_is)
    (case hd_NoNumber => k_is)
    (case ha_NoNumber => k_is)
    (case hm_NoNumber => k_is)
    (case se_NoNumber => first | rfl | k_is)
    (case x_Broken => k_exc)
    (case kc_Broken => k_is)
    (case hg_Broken => k_is)
    (case hk_Broken => k_is)
    (case hd_Broken => k_is)
    (case ha_Broken => k_is)
    (case hm_Broken => k_is)
    (case se_Broken => first | rfl | k_is)
    (case hn => k_is)
    (case ht => k_is)
    (case su_0 => first | rfl | k_is)
    (case su_1 => first | rfl | k_is)
    (case su_2 => first | rfl | k_is)
    (case su_3 => k_is)
    (case su_4 => first | rfl | k_is)
    (case su_5 => first | rfl | k_is)
    (case su_6 => first | rfl | k_is)
    (case su_7 => first | rfl | k_is)
    (case su_8 => first | rfl | k_is)
    (case su_9 => first | rfl | k_is)
    (case su_10 => first | rfl | k_is)
    (case su_11 => first | rfl | k_is)
    (case su_12 => k_is)
    (case su_13 => first | rfl | k_is)
    (case su_14 => first | rfl | k_is)
    (case su_15 => first | rfl | k_is)
    (case su_16 => first | rfl | k_is)
    (case su_17 => first | rfl | k_is)
    (case su_18 => first | rfl | k_is)
    (case su_19 => first | rfl | k_is)
    (case su_20 => first | rfl | k_is)
    (case su_21 => k_is)
    (case su_22 => first | rfl | k_is)
    (case su_23 => first | rfl | k_is)
    (case su_24 => first | rfl | k_is)
    (case su_25 => first | rfl | k_is)
    (case su_26 => first | rfl | k_is)
    (case z_range => k_is)
    (case z_len => k_is)
    (case z_max => k_is)
    (case z_sum => k_is)
    (case z_sorted => k_is)
    (case z_dict => k_is)
    (case z_tuple => k_is)
    (case z_isinstance => k_is)
    (case z_ValueError => k_is)
    (case z_list => k_is)
    (case z_int => k_is)
    (case z_bool => k_is)
    (case z_WHOLE => k_is)
    (case z_LONGEST => k_is)
    (case aF__law_decks => k_is)
    (case l__law_decks => k_is)
    (case c__law_decks => k_is)
    (case k__law_decks => k_is)
    (case aF__law_draw => k_is)
    (case l__law_draw => k_is)
    (case c__law_draw => k_is)
    (case k__law_draw => k_is)
    (case aF__law_drawn_lengths => k_is)
    (case l__law_drawn_lengths => k_is)
    (case c__law_drawn_lengths => k_is)
    (case k__law_drawn_lengths => k_is)
    (case aF__law_let => k_is)
    (case l__law_let => k_is)
    (case c__law_let => k_is)
    (case k__law_let => k_is)
    (case aF_room_of => k_is)
    (case l_room_of => k_is)
    (case c_room_of => k_is)
    (case k_room_of => k_is)
    (case aF_need_words => k_is)
    (case l_need_words => k_is)
    (case c_need_words => k_is)
    (case k_need_words => k_is)
    (case aF_figures_of => k_is)
    (case l_figures_of => k_is)
    (case c_figures_of => k_is)
    (case k_figures_of => k_is)
    (case aF_low_bits => k_is)
    (case l_low_bits => k_is)
    (case c_low_bits => k_is)
    (case k_low_bits => k_is)
    (case aF_words_by => k_is)
    (case l_words_by => k_is)
    (case c_words_by => k_is)
    (case k_words_by => k_is)
    (case aF_coded => k_is)
    (case l_coded => k_is)
    (case c_coded => k_is)
    (case k_coded => k_is)
    (case aF_decoded => k_is)
    (case l_decoded => k_is)
    (case c_decoded => k_is)
    (case k_decoded => k_is)
    (case aF__law_kind => k_is)
    (case l__law_kind => k_is)
    (case c__law_kind => k_is)
    (case k__law_kind => k_is)
    (case aF__law_words => k_is)
    (case l__law_words => k_is)
    (case c__law_words => k_is)
    (case k__law_words => k_is)
    (case aF__law_decoded => k_is)
    (case l__law_decoded => k_is)
    (case c__law_decoded => k_is)
    (case k__law_decoded => k_is)
    (case aF__law_read_right => k_is)
    (case l__law_read_right => k_is)
    (case c__law_read_right => k_is)
    (case k__law_read_right => k_is)
    (case aF__law_all_read => k_is)
    (case l__law_all_read => k_is)
    (case c__law_all_read => k_is)
    (case k__law_all_read => k_is)
    (case aF__law_bits => k_is)
    (case l__law_bits => k_is)
    (case c__law_bits => k_is)
    (case k__law_bits => k_is)
    (case aF__law_coded => k_is)
    (case l__law_coded => k_is)
    (case c__law_coded => k_is)
    (case k__law_coded => k_is)
    (case aF__law_bits_right => k_is)
    (case l__law_bits_right => k_is)
    (case c__law_bits_right => k_is)
    (case k__law_bits_right => k_is)
    (case aF__law_coded_right => k_is)
    (case l__law_coded_right => k_is)
    (case c__law_coded_right => k_is)
    (case k__law_coded_right => k_is)
    (case aF_law => k_is)
    (case l_law => k_is)
    (case c_law => k_is)
    (case k_law => k_is)
#print axioms PySem.Challenge.cw_packhall_k10_coded_and_decoded_holds


