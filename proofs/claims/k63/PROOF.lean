import PyProof.Rows.All
import Wide.All
import OpenK.AllK
import Wide.FinOn
import HandS.ForMost
import HandS.ForExc
import HandS.ExcIs
import HandS.Lambda
import HandS.EndTab
import HandS.Wide
import HandS.WideBits
import HandS.Deep
import HandS.TupAny
import HandS.IsInst
import HandS.Ends
import HandS.Style
import HandS.EndBits
import HandS.Conv
import HandS.SetFor
import HandS.SortInts
import HandS.More
import HandS.NoneIn
import HandS.DictTup
import HandS.SortRule
import HandS.NamedTupSort
import KE.LtSeq
import HandS.Rev
import HandS.Strs
import HandS.ExcOwn
import HandS.SortKw
import KE.SortKeyHeap
import HandS.Dict
import HandS.TupLe
import HandS.Sort
import KE.KDictZip
import HandS.Zip
import KE.KTryMore
import KE.DatumOrd
import PySem.Challenge.RW_packhall_k63_bits_of_containers
set_option Elab.async false
set_option linter.all false
set_option maxRecDepth 100000
set_option maxHeartbeats 4000000
namespace VL
end VL
open PySem PySem.Spec PyProof.Rows L2 VL
namespace VL
open PySem PySem.Spec PyProof.Rows L2

inductive Kd where
  | lst | tup | rd | dK (ks : List Key) | dT (ks : List (List Key)) | ins (c : Nat) (fs : List Str)
def isR : Kd → Bool
  | .rd => true
  | _ => false
inductive D where
  | any | non | bl (b : Bool) | int (i : Int) | str (s : Str) | exc (c : Nat) | ty (n : String) | cls (c : Nat)
  | node (k : Kd) (o : Bool) (xs : List D)

inductive Bs where
  | sl (i : Nat) | tm (j : Nat) | fo
  deriving DecidableEq
structure Loc where
  b : Bs
  p : List Nat
  deriving DecidableEq
def Loc.sub (l : Loc) (i : Nat) : Loc := ⟨l.b, l.p ++ [i]⟩
def Loc.app (l : Loc) (q : List Nat) : Loc := ⟨l.b, l.p ++ q⟩
theorem Loc.sub_app (l : Loc) (i : Nat) (q : List Nat) : (l.sub i).app q = l.app (i :: q) := by
  unfold Loc.sub Loc.app; simp
theorem Loc.app_nil (l : Loc) : l.app [] = l := by
  unfold Loc.app; simp
abbrev Ow := Addr → Option Loc

def ExT (cls : Value) (a : Addr) : HO := .ext fun h => ∃ (oe : Obj) (vs : Array Value), h.get? a = some oe ∧ Zc cls none oe ∧ oe.data = .fields vs
def isTbl : HO → Bool
  | .tbl _ => true
  | _ => false
def Kt (x : Option HO) (o : HO) : Prop := x = some o ∨ (isTbl o = true ∧ ∃ ps, x = some (.tbl ps))
instance {x : Option HO} {o : HO} : Coe (x = some o) (Kt x o) := ⟨.inl⟩
theorem Kt.get {x : Option HO} {o : HO} (h : Kt x o) (n : isTbl o = false) : x = some o := h.elim id fun z => by rw [n] at z; cases z.1
theorem Kt.bind {x y : Option HO} {o : HO} (h : Kt x o) (f : ∀ u, x = some u → Kt y u) : Kt y o := by
  rcases h with h | ⟨h1, ps, h2⟩
  · exact f o h
  · rcases f _ h2 with z | ⟨_, z⟩
    · exact .inr ⟨h1, _, z⟩
    · exact .inr ⟨h1, z⟩
theorem Kt.no {o : HO} (h : Kt none o) : False := by
  rcases h with h | ⟨_, _, h⟩ <;> cases h
theorem Kt.on {x : Option HO} {o : HO} (h : Kt x o) (e : x = none) : False := by rw [e] at h; exact h.no
def OwnO : Option HO → Prop
  | some (.lst _) => True
  | some (.dK _) => True
  | some (.dT _) => True
  | some (.ins _ _ _) => True
  | _ => False
theorem OwnO.nt {o : HO} (h : OwnO (some o)) : isTbl o = false := by
  cases o <;> first | rfl | exact h.elim
def OwnAt (k : Kd) (o : Bool) (l : Loc) (x : Option Loc) : Prop := match k with
  | .rd => True
  | _ => x = if o = true then some l else none
theorem OwnAt.ofR {k : Kd} {o : Bool} {l : Loc} {x : Option Loc} (h : isR k = true) : OwnAt k o l x := by
  cases k <;> first | exact trivial | cases h
theorem OwnAt.cases {k : Kd} {o : Bool} {l : Loc} {x : Option Loc} (h : OwnAt k o l x) : isR k = true ∨ x = if o = true then some l else none := by
  cases k <;> first | exact .inl rfl | exact .inr h
theorem OwnAt.mk {k : Kd} {o : Bool} {l : Loc} {x : Option Loc} (h : x = if o = true then some l else none) : OwnAt k o l x := by
  cases k <;> first | exact h | exact trivial
structure GX where
  ad : Nat → Addr
  K : PySem.W.Frag
  T : List (Addr × Str)
instance : CoeFun GX (fun _ => Nat → Addr) := ⟨GX.ad⟩
def Holds (G : GX) (H : Hp) (a : Addr) : Kd → List V → Prop
  | .lst, vs => H a = some (.lst vs)
  | .tup, vs => H a = some (.tup vs)
  | .rd, vs => (∃ o, H a = some (.frz o (.lst vs))) ∨ ∃ (o : Obj) (its : Array Value) (n : Nat), G.K.lookup a = some o ∧ o.cls = .type "list" ∧ o.dict = none ∧ o.data = .seq its n ∧ its.size ≤ sizeLine ∧ Vals vs its.toList
  | .dK ks, vs => H a = some (.dK (ks.zip vs)) ∧ ks.length = vs.length
  | .dT ks, vs => H a = some (.dT (ks.zip vs)) ∧ ks.length = vs.length
  | .ins c fs, vs => (∃ dx, H a = some (.ins (G c) dx (fs.zip vs))) ∧ fs.length = vs.length
theorem Holds.there {G : GX} {H : Hp} {a : Addr} {k : Kd} {vs : List V} (h : Holds G H a k vs) (n : isR k ≠ true) : ∃ o, H a = some o ∧ isTbl o = false := by
  cases k with
  | lst => exact ⟨_, h, rfl⟩
  | tup => exact ⟨_, h, rfl⟩
  | dK ks => exact ⟨_, h.1, rfl⟩
  | dT ks => exact ⟨_, h.1, rfl⟩
  | ins c fs => obtain ⟨⟨dx, h⟩, _⟩ := h; exact ⟨_, h, rfl⟩
  | _ => exact absurd rfl n
theorem Holds.seq {G : GX} {H : Hp} {a : Addr} {vs : List V} (h : Holds G H a .rd vs) : SqL G.K H a vs := by
  rcases h with ⟨o, h⟩ | h
  · exact .inl (.inr ⟨o, h⟩)
  · exact .inr h
theorem Holds.keep {G : GX} {H H' : Hp} {a : Addr} {k : Kd} {vs : List V} (h : Holds G H a k vs) (e : ∀ o, H a = some o → Kt (H' a) o) : Holds G H' a k vs := by
  cases k with
  | lst => exact (e _ h).get rfl
  | tup => exact (e _ h).get rfl
  | rd =>
    rcases h with ⟨o, h⟩ | h
    · exact .inl ⟨o, (e _ h).get rfl⟩
    · exact .inr h
  | dK ks => exact ⟨(e _ h.1).get rfl, h.2⟩
  | dT ks => exact ⟨(e _ h.1).get rfl, h.2⟩
  | ins c fs => obtain ⟨⟨dx, h⟩, z⟩ := h; exact ⟨⟨dx, (e _ h).get rfl⟩, z⟩
theorem Holds.keepR {G : GX} {H H' : Hp} {a : Addr} {k : Kd} {vs : List V} (hk : isR k = true) (h : Holds G H a k vs) (e : ∀ a o, H a = some o → ¬ OwnO (some o) → Kt (H' a) o) : Holds G H' a k vs := by
  cases k with
  | rd =>
    rcases h with ⟨o, h⟩ | h
    · exact .inl ⟨o, (e _ _ h (fun z => z)).get rfl⟩
    · exact .inr h
  | _ => cases hk
mutual
def Rep (G : GX) (ow : Ow) (H : Hp) : D → Loc → V → Prop
  | .any, _, _ => True
  | .non, _, v => v = .non
  | .bl b, _, v => v = .bl b
  | .int i, _, v => v = .int i
  | .str s, _, v => v = .str s
  | .exc c, _, v => ∃ a, v = .ref a ∧ H a = some (ExT (.ref (G c)) a)
  | .ty n, _, v => v = .ty n
  | .cls c, _, v => v = .ref (G c)
  | .node k o xs, l, v => ∃ a vs, v = .ref a ∧ Holds G H a k vs ∧ OwnAt k o l (ow a) ∧ Reps G ow H xs l 0 vs
def Reps (G : GX) (ow : Ow) (H : Hp) : List D → Loc → Nat → List V → Prop
  | [], _, _, vs => vs = []
  | d :: ds, l, i, vs => ∃ v ws, vs = v :: ws ∧ Rep G ow H d (l.sub i) v ∧ Reps G ow H ds l (i + 1) ws
end

mutual
def frz : D → D
  | .any => .any
  | .non => .non
  | .bl b => .bl b
  | .int i => .int i
  | .str s => .str s
  | .exc c => .exc c
  | .ty n => .ty n
  | .cls c => .cls c
  | .node k _ xs => .node k false (frzs xs)
def frzs : List D → List D
  | [] => []
  | d :: ds => frz d :: frzs ds
end
theorem frzs_map : ∀ xs : List D, frzs xs = xs.map frz
  | [] => by simp [frzs]
  | d :: ds => by simp [frzs, frzs_map ds]
mutual
theorem frz_frz : ∀ d : D, frz (frz d) = frz d
  | .any => rfl
  | .non => rfl
  | .bl _ => rfl
  | .int _ => rfl
  | .str _ => rfl
  | .exc _ => rfl
  | .ty _ => rfl
  | .cls _ => rfl
  | .node k o xs => by simp only [frz, frzs_frzs xs]
theorem frzs_frzs : ∀ ds : List D, frzs (frzs ds) = frzs ds
  | [] => by simp only [frzs]
  | d :: ds => by simp only [frzs, frz_frz d, frzs_frzs ds]
end
def frzB : D → D
  | .node k o xs => .node k o (frzs xs)
  | d => d

section
variable {G : GX} {ow ow' : Ow} {H H' : Hp}
mutual
/-- the one rule of change: objects that the tree leans on stay, and who owns them is told anew -/
theorem Rep.mono : ∀ (d : D) {l l' : Loc} {v : V}, (∀ a o, H a = some o → (ow a = none ∨ ∃ q, ow a = some (l.app q)) → Kt (H' a) o) → (∀ a o, H a = some o → ¬ OwnO (some o) → Kt (H' a) o) → (∀ a o, H a = some o → ow a = none → ow' a = none) →
    (∀ a o q, H a = some o → ow a = some (l.app q) → ow' a = some (l'.app q)) → Rep G ow H d l v → Rep G ow' H' d l' v
  | .any, _, _, _, _, _, _, _, _ => trivial
  | .non, _, _, _, _, _, _, _, h => h
  | .bl _, _, _, _, _, _, _, _, h => h
  | .int _, _, _, _, _, _, _, _, h => h
  | .str _, _, _, _, _, _, _, _, h => h
  | .ty _, _, _, _, _, _, _, _, h => h
  | .cls _, _, _, _, _, _, _, _, h => h
  | .exc _, _, _, _, _, hE, _, _, h => by
    obtain ⟨a, e, h⟩ := h
    exact ⟨a, e, (hE a _ h (fun z => z)).get rfl⟩
  | .node k o xs, l, l', v, hA, hE, hB, hC, h => by
    obtain ⟨a, vs, e, h1, h2, h3⟩ := h
    by_cases hk : isR k = true
    · exact ⟨a, vs, e, h1.keepR hk hE, .ofR hk, Reps.mono xs hA hE hB hC h3⟩
    have h2 := h2.cases.resolve_left hk
    obtain ⟨ob, hob, _⟩ := h1.there hk
    refine ⟨a, vs, e, h1.keep fun o' z => hA a o' z ?_, .mk ?_, Reps.mono xs hA hE hB hC h3⟩
    · cases o with
      | true => exact .inr ⟨[], by rw [Loc.app_nil]; simpa using h2⟩
      | false => exact .inl (by simpa using h2)
    · cases o with
      | true =>
        have z := hC a ob [] hob (by rw [Loc.app_nil]; simpa using h2)
        rw [Loc.app_nil] at z
        simpa using z
      | false => simpa using hB a ob hob (by simpa using h2)
theorem Reps.mono : ∀ (ds : List D) {l l' : Loc} {i : Nat} {vs : List V}, (∀ a o, H a = some o → (ow a = none ∨ ∃ q, ow a = some (l.app q)) → Kt (H' a) o) → (∀ a o, H a = some o → ¬ OwnO (some o) → Kt (H' a) o) → (∀ a o, H a = some o → ow a = none → ow' a = none) →
    (∀ a o q, H a = some o → ow a = some (l.app q) → ow' a = some (l'.app q)) → Reps G ow H ds l i vs → Reps G ow' H' ds l' i vs
  | [], _, _, _, _, _, _, _, _, h => h
  | d :: ds, l, l', i, vs, hA, hE, hB, hC, h => by
    obtain ⟨v, ws, e, h1, h2⟩ := h
    refine ⟨v, ws, e, Rep.mono d (fun a o z q => hA a o z ?_) hE hB (fun a o q z r => ?_) h1, Reps.mono ds hA hE hB hC h2⟩
    · rcases q with q | ⟨q, r⟩
      · exact .inl q
      · exact .inr ⟨i :: q, by rw [r, Loc.sub_app]⟩
    · rw [Loc.sub_app] at r ⊢
      exact hC a o (i :: q) z r
end
mutual
/-- frozen: all that it owned is nobody's -/
theorem Rep.frz : ∀ (d : D) {l l' : Loc} {v : V}, (∀ a o, H a = some o → (ow a = none ∨ ∃ q, ow a = some (l.app q)) → Kt (H' a) o ∧ ow' a = none) → (∀ a o, H a = some o → ¬ OwnO (some o) → Kt (H' a) o) →
    Rep G ow H d l v → Rep G ow' H' (VL.frz d) l' v
  | .any, _, _, _, _, _, _ => trivial
  | .non, _, _, _, _, _, h => h
  | .bl _, _, _, _, _, _, h => h
  | .int _, _, _, _, _, _, h => h
  | .str _, _, _, _, _, _, h => h
  | .ty _, _, _, _, _, _, h => h
  | .cls _, _, _, _, _, _, h => h
  | .exc _, _, _, _, _, hE, h => by
    obtain ⟨a, e, h⟩ := h
    exact ⟨a, e, (hE a _ h (fun z => z)).get rfl⟩
  | .node k o xs, l, l', v, hA, hE, h => by
    obtain ⟨a, vs, e, h1, h2, h3⟩ := h
    by_cases hk : isR k = true
    · exact ⟨a, vs, e, h1.keepR hk hE, .ofR hk, Reps.frz xs hA hE h3⟩
    have h2 := h2.cases.resolve_left hk
    obtain ⟨ob, hob, _⟩ := h1.there hk
    have own : ow a = none ∨ ∃ q, ow a = some (l.app q) := by
      cases o with
      | true => exact .inr ⟨[], by rw [Loc.app_nil]; simpa using h2⟩
      | false => exact .inl (by simpa using h2)
    show ∃ a vs, v = .ref a ∧ Holds G H' a k vs ∧ OwnAt k false l' (ow' a) ∧ Reps G ow' H' (VL.frzs xs) l' 0 vs
    exact ⟨a, vs, e, h1.keep fun o' z => (hA a o' z own).1, .mk (by simpa using (hA a ob hob own).2), Reps.frz xs hA hE h3⟩
theorem Reps.frz : ∀ (ds : List D) {l l' : Loc} {i j : Nat} {vs : List V}, (∀ a o, H a = some o → (ow a = none ∨ ∃ q, ow a = some (l.app q)) → Kt (H' a) o ∧ ow' a = none) → (∀ a o, H a = some o → ¬ OwnO (some o) → Kt (H' a) o) →
    Reps G ow H ds l i vs → Reps G ow' H' (VL.frzs ds) l' j vs
  | [], _, _, _, _, _, _, _, h => h
  | d :: ds, l, l', i, j, vs, hA, hE, h => by
    obtain ⟨v, ws, e, h1, h2⟩ := h
    show ∃ v ws, vs = v :: ws ∧ Rep G ow' H' (VL.frz d) (l'.sub j) v ∧ Reps G ow' H' (VL.frzs ds) l' (j + 1) ws
    refine ⟨v, ws, e, Rep.frz d (fun a o z q => hA a o z ?_) hE h1, Reps.frz ds hA hE h2⟩
    rcases q with q | ⟨q, r⟩
    · exact .inl q
    · exact .inr ⟨i :: q, by rw [r, Loc.sub_app]⟩
end
end

theorem Reps.length {G : GX} {ow : Ow} {H : Hp} : ∀ {ds : List D} {l : Loc} {i : Nat} {vs : List V}, Reps G ow H ds l i vs → ds.length = vs.length
  | [], _, _, _, h => by
    have e : _ = [] := h
    subst e; rfl
  | d :: ds, l, i, vs, h => by
    obtain ⟨v, ws, e, _, h2⟩ := h
    subst e
    simp [Reps.length h2]
theorem Reps.get {G : GX} {ow : Ow} {H : Hp} : ∀ {ds : List D} {l : Loc} {i : Nat} {vs : List V}, Reps G ow H ds l i vs → ∀ (j : Nat) (d : D), ds[j]? = some d → ∃ v, vs[j]? = some v ∧ Rep G ow H d (l.sub (i + j)) v
  | [], _, _, _, _, j, d, e => by simp at e
  | d :: ds, l, i, vs, h, 0, d', e => by
    obtain ⟨v, ws, ev, h1, _⟩ := h
    subst ev
    simp at e; subst e
    exact ⟨v, rfl, h1⟩
  | d :: ds, l, i, vs, h, j + 1, d', e => by
    obtain ⟨v, ws, ev, _, h2⟩ := h
    subst ev
    obtain ⟨u, e1, e2⟩ := Reps.get h2 j d' (by simpa using e)
    refine ⟨u, by simpa using e1, ?_⟩
    rw [show i + (j + 1) = i + 1 + j by omega]
    exact e2
theorem Reps.of_get {G : GX} {ow : Ow} {H : Hp} : ∀ {ds : List D} {l : Loc} {i : Nat} {vs : List V}, ds.length = vs.length → (∀ (j : Nat) (d : D) (v : V), ds[j]? = some d → vs[j]? = some v → Rep G ow H d (l.sub (i + j)) v) → Reps G ow H ds l i vs
  | [], _, _, vs, hl, _ => by
    have : vs = [] := by simpa using hl.symm
    exact this
  | d :: ds, l, i, [], hl, _ => by simp at hl
  | d :: ds, l, i, v :: vs, hl, h => by
    refine ⟨v, vs, rfl, h 0 d v rfl rfl, Reps.of_get (by simpa using hl) fun j d' v' e1 e2 => ?_⟩
    have z := h (j + 1) d' v' (by simpa using e1) (by simpa using e2)
    rw [show i + 1 + j = i + (j + 1) by omega]
    exact z
end VL

namespace VL
open PySem PySem.Spec PyProof.Rows L2

structure Fc where
  H0 : Hp
  io : Addr → Prop
  fo : Addr → Prop
  pin : List (Nat × V)
abbrev Rho := List (Option D)
theorem tabs_upd {T : List (Addr × Str)} {H : Hp} {a : Addr} {ho : HO} (t : LamX.Tabs T H) (h : H a = none ∨ OwnO (H a)) : LamX.Tabs T (upd H a ho) := fun p hp => by
  have ne : ∀ (b : Addr) (o : HO), H b = some o → ¬ OwnO (some o) → upd H a ho b = some o := fun b o e n => by
    rw [upd_ne]
    · exact e
    · intro z
      subst z
      rcases h with h | h
      · rw [h] at e; cases e
      · rw [e] at h; exact n h
  obtain ⟨ps, h1, h2, h3⟩ := t p hp
  refine ⟨ps, ne _ _ h1 (fun z => z), h2, fun pos cv hc => ?_⟩
  obtain ⟨c, e1, e2⟩ := h3 pos cv hc
  exact ⟨c, e1, ne _ _ e2 (fun z => z)⟩
theorem tabs_none {T : List (Addr × Str)} {H : Hp} {a : Addr} {ho : HO} (t : LamX.Tabs T H) (h : H a = none) : LamX.Tabs T (upd H a ho) := tabs_upd t (.inl h)
theorem tabs_own {T : List (Addr × Str)} {H : Hp} {a : Addr} {ho o : HO} (t : LamX.Tabs T H) (h : H a = some o) (n : OwnO (some o)) : LamX.Tabs T (upd H a ho) := tabs_upd t (.inr (by rw [h]; exact n))
structure StW (G : GX) (C : Fc) (ow : Ow) (r : Rho) (T : List (D × V)) (s : L2.St) (H : Hp) : Prop where
  len : r.length = s.length
  sl : ∀ (i : Nat) (d : D), r[i]? = some (some d) → ∃ v, s[i]? = some (some v) ∧ Rep G ow H d ⟨.sl i, []⟩ v
  tm : ∀ (j : Nat) (d : D) (v : V), T[j]? = some (d, v) → Rep G ow H d ⟨.tm j, []⟩ v
  old : ∀ a o, ¬ C.io a → C.H0 a = some o → Kt (H a) o
  own : ∀ a l, ow a = some l → l.b = .fo ∨ C.H0 a = none ∨ C.io a
  fo : ∀ a, C.fo a → ow a = some ⟨.fo, []⟩
  mu : ∀ a l, ow a = some l → OwnO (H a)
  pin : ∀ p ∈ C.pin, s[p.1]? = some (some p.2)
  tabs : LamX.Tabs G.T H
def StOk (G : GX) (C : Fc) (r : Rho) (T : List (D × V)) (s : L2.St) (H : Hp) : Prop := ∃ ow, StW G C ow r T s H
def Ext (H H' : Hp) : Prop := ∀ a o, H a = some o → Kt (H' a) o
theorem Ext.trans {H H' H'' : Hp} (h : Ext H H') (h' : Ext H' H'') : Ext H H'' := fun a o e => (h a o e).bind fun u e => h' a u e
theorem Ext.new {H : Hp} {p : Addr} {o : HO} (h : H p = none) : Ext H (upd H p o) := fun a u e => by
  rw [upd_ne (ne_of_none e h)]; exact .inl e

def atom : D → Bool
  | .node _ _ _ => false
  | _ => true
theorem frz_atom {d : D} (h : atom d = true) : frz d = d := by
  cases d with
  | node k o xs => cases h
  | _ => rfl

section
variable {G : GX} {C : Fc} {ow ow' : Ow} {r : Rho} {T T1 T2 : List (D × V)} {s : L2.St} {H H' : Hp}
mutual
/-- .. the tree frozen: only unowned cells count -/
theorem Rep.moveF : ∀ (d : D) {l l' : Loc} {v : V}, VL.frz d = d → (∀ a o, H a = some o → ow a = none → Kt (H' a) o ∧ ow' a = none) → (∀ a o, H a = some o → ¬ OwnO (some o) → Kt (H' a) o) → Rep G ow H d l v → Rep G ow' H' d l' v
  | .any, _, _, _, _, _, _, _ => trivial
  | .non, _, _, _, _, _, _, h => h
  | .bl _, _, _, _, _, _, _, h => h
  | .int _, _, _, _, _, _, _, h => h
  | .str _, _, _, _, _, _, _, h => h
  | .ty _, _, _, _, _, _, _, h => h
  | .cls _, _, _, _, _, _, _, h => h
  | .exc _, _, _, _, _, _, hE, h => by
    obtain ⟨a, e, h⟩ := h
    exact ⟨a, e, (hE a _ h (fun z => z)).get rfl⟩
  | .node k o xs, l, l', v, e, hA, hE, h => by
    have e' : D.node k false (VL.frzs xs) = .node k o xs := e
    injection e' with _ e1 e2
    subst e1
    obtain ⟨a, vs, ev, h1, h2, h3⟩ := h
    by_cases hk : isR k = true
    · exact ⟨a, vs, ev, h1.keepR hk hE, .ofR hk, Reps.moveF xs e2 hA hE h3⟩
    have h2 := h2.cases.resolve_left hk
    obtain ⟨ob, hob, _⟩ := h1.there hk
    have n : ow a = none := by simpa using h2
    exact ⟨a, vs, ev, h1.keep fun o' z => (hA a o' z n).1, .mk (by simpa using (hA a ob hob n).2), Reps.moveF xs e2 hA hE h3⟩
theorem Reps.moveF : ∀ (ds : List D) {l l' : Loc} {i j : Nat} {vs : List V}, VL.frzs ds = ds → (∀ a o, H a = some o → ow a = none → Kt (H' a) o ∧ ow' a = none) → (∀ a o, H a = some o → ¬ OwnO (some o) → Kt (H' a) o) → Reps G ow H ds l i vs → Reps G ow' H' ds l' j vs
  | [], _, _, _, _, _, _, _, _, h => h
  | d :: ds, l, l', i, j, vs, e, hA, hE, h => by
    have e' : VL.frz d :: VL.frzs ds = d :: ds := e
    injection e' with e1 e2
    obtain ⟨v, ws, ev, h1, h2⟩ := h
    exact ⟨v, ws, ev, Rep.moveF d e1 hA hE h1, Reps.moveF ds e2 hA hE h2⟩
end

theorem StW.ext (S : StW G C ow r T s H) (e : Ext H H') (et : LamX.Tabs G.T H') : StW G C ow r T s H' where
  len := S.len
  sl := fun i d q => by
    obtain ⟨v, h1, h2⟩ := S.sl i d q
    exact ⟨v, h1, h2.mono d (fun a o z _ => e a o z) (fun a o z _ => e a o z) (fun _ _ _ z => z) fun _ _ _ _ z => z⟩
  tm := fun j d v q => (S.tm j d v q).mono d (fun a o z _ => e a o z) (fun a o z _ => e a o z) (fun _ _ _ z => z) fun _ _ _ _ z => z
  old := fun a o n q => (S.old a o n q).bind fun u q => e a u q
  own := S.own
  fo := S.fo
  mu := fun a l q => by
    have m := S.mu a l q
    cases z : H a with
    | none => rw [z] at m; exact m.elim
    | some o => rw [z] at m; rw [(e a o z).get m.nt]; exact m
  pin := S.pin
  tabs := et
theorem StOk.ext (S : StOk G C r T s H) (e : Ext H H') (et : LamX.Tabs G.T H') : StOk G C r T s H' := let ⟨ow, W⟩ := S; ⟨ow, W.ext e et⟩
theorem StOk.new {a : Addr} {ho : HO} (S : StOk G C r T s H) (hn : H a = none) : StOk G C r T s (upd H a ho) := S.ext (Ext.new hn) (let ⟨_, W⟩ := S; tabs_none W.tabs hn)
theorem StW.drop (S : StW G C ow r (T ++ T2) s H) : StW G C ow r T s H :=
  ⟨S.len, S.sl, fun j d v q => S.tm j d v (by
    have hj : j < T.length := (List.getElem?_eq_some_iff.mp q).1
    rw [List.getElem?_append_left hj]; exact q), S.old, S.own, S.fo, S.mu, S.pin, S.tabs⟩
theorem StOk.drop (S : StOk G C r (T ++ T2) s H) : StOk G C r T s H := let ⟨ow, W⟩ := S; ⟨ow, W.drop⟩
theorem StW.last {d : D} {v : V} (S : StW G C ow r (T ++ [(d, v)]) s H) : Rep G ow H d ⟨.tm T.length, []⟩ v := S.tm T.length d v (by simp)
theorem StW.push {d : D} {v : V} (S : StW G C ow r T s H) (h : Rep G ow H d ⟨.tm T.length, []⟩ v) : StW G C ow r (T ++ [(d, v)]) s H :=
  ⟨S.len, S.sl, fun j d' v' q => by
    by_cases hj : j < T.length
    · rw [List.getElem?_append_left hj] at q
      exact S.tm j d' v' q
    · rw [List.getElem?_append_right (by omega)] at q
      have e : j = T.length := by
        have := (List.getElem?_eq_some_iff.mp q).1
        simp at this; omega
      subst e
      simp at q
      obtain ⟨e1, e2⟩ := q
      subst e1; subst e2
      exact h, S.old, S.own, S.fo, S.mu, S.pin, S.tabs⟩
theorem Rep.of_atom {d : D} {l l' : Loc} {v : V} (a : atom d = true) (h : Rep G ow H d l v) : Rep G ow' H d l' v := by
  cases d with
  | node k o xs => cases a
  | _ => exact h
theorem StOk.pushA {d : D} {v : V} (S : StOk G C r T s H) (a : atom d = true) (h : ∀ ow l, Rep G ow H d l v) : StOk G C r (T ++ [(d, v)]) s H := let ⟨ow, W⟩ := S; ⟨ow, W.push (h _ _)⟩
theorem StOk.pushI (i : Int) (S : StOk G C r T s H) : StOk G C r (T ++ [(.int i, .int i)]) s H := S.pushA rfl fun _ _ => rfl
theorem StOk.pushB (b : Bool) (S : StOk G C r T s H) : StOk G C r (T ++ [(.bl b, .bl b)]) s H := S.pushA rfl fun _ _ => rfl
theorem StOk.pushN (S : StOk G C r T s H) : StOk G C r (T ++ [(.non, .non)]) s H := S.pushA rfl fun _ _ => rfl
def free (ow : Ow) (b : Bs) : Ow := fun a => match ow a with
  | some l => if l.b = b then none else some l
  | none => none
theorem free_none {b : Bs} {a : Addr} (h : ow a = none) : free ow b a = none := by unfold free; rw [h]
theorem free_at {b : Bs} {a : Addr} {l : Loc} (h : ow a = some l) (e : l.b = b) : free ow b a = none := by unfold free; rw [h]; simp [e]
theorem free_else {b : Bs} {a : Addr} {l : Loc} (h : ow a = some l) (e : l.b ≠ b) : free ow b a = some l := by unfold free; rw [h]; simp [e]
theorem of_free {b : Bs} {a : Addr} {l : Loc} (h : free ow b a = some l) : ow a = some l ∧ l.b ≠ b := by
  unfold free at h
  split at h
  · rename_i l' e
    split at h
    · cases h
    · rename_i n
      cases h
      exact ⟨e, n⟩
  · cases h
theorem app_b (l : Loc) (q : List Nat) : (l.app q).b = l.b := rfl
theorem Rep.free {d : D} {l : Loc} {v : V} {b : Bs} (h : Rep G ow H d l v) (n : l.b ≠ b) : Rep G (VL.free ow b) H d l v :=
  h.mono d (fun _ _ z _ => z) (fun _ _ z _ => z) (fun _ _ _ z => free_none z) fun a o q _ z => free_else z (by rw [app_b]; exact n)
theorem Rep.freeze {d : D} {l l' : Loc} {v : V} (h : Rep G ow H d l v) : Rep G (VL.free ow l.b) H (VL.frz d) l' v :=
  Rep.frz d (fun a o z q => ⟨z, by
    rcases q with q | ⟨q, e⟩
    · exact free_none q
    · exact free_at e (app_b l q)⟩) (fun _ _ z _ => z) h
theorem StW.frzSl {j : Nat} {d : D} (S : StW G C ow r T s H) (e : r[j]? = some (some d)) : StW G C (free ow (.sl j)) (r.set j (some (frz d))) T s H where
  len := by simpa using S.len
  sl := fun i d' q => by
    by_cases hi : i = j
    · subst hi
      have hlt : i < r.length := (List.getElem?_eq_some_iff.mp e).1
      rw [List.getElem?_set_self hlt] at q
      cases q
      obtain ⟨v, h1, h2⟩ := S.sl i d e
      exact ⟨v, h1, h2.freeze⟩
    · rw [List.getElem?_set_ne (Ne.symm hi)] at q
      obtain ⟨v, h1, h2⟩ := S.sl i d' q
      exact ⟨v, h1, h2.free (fun z => hi (by injection z))⟩
  tm := fun k d' v q => (S.tm k d' v q).free (fun z => nomatch z)
  old := S.old
  own := fun a l q => S.own a l (of_free q).1
  fo := fun a q => free_else (S.fo a q) (fun z => nomatch z)
  mu := fun a l q => S.mu a l (of_free q).1
  pin := S.pin
  tabs := S.tabs
theorem StW.copy {j : Nat} {d : D} {v : V} (S : StW G C ow r T s H) (e : r[j]? = some (some d)) (f : frz d = d) (hv : s[j]? = some (some v)) : StW G C ow r (T ++ [(d, v)]) s H := by
  obtain ⟨v', h1, h2⟩ := S.sl j d e
  rw [hv] at h1
  cases h1
  exact S.push (Rep.moveF d f (fun a o z q => ⟨z, q⟩) (fun _ _ z _ => z) h2)
theorem StW.frzTm {d : D} {v : V} (S : StW G C ow r (T1 ++ (d, v) :: T2) s H) : StW G C (VL.free ow (.tm T1.length)) r (T1 ++ (frz d, v) :: T2) s H where
  len := S.len
  sl := fun i d' q => by
    obtain ⟨v', h1, h2⟩ := S.sl i d' q
    exact ⟨v', h1, h2.free (fun z => nomatch z)⟩
  tm := fun k d' v' q => by
    by_cases hk : k = T1.length
    · subst hk
      have z : (T1 ++ (frz d, v) :: T2)[T1.length]? = some (frz d, v) := by simp
      rw [z] at q
      cases q
      exact Rep.freeze (l := ⟨.tm T1.length, []⟩) (S.tm T1.length d v (by simp))
    · refine (S.tm k d' v' ?_).free (fun z => hk (by injection z))
      by_cases hlt : k < T1.length
      · rw [List.getElem?_append_left hlt] at q ⊢; exact q
      · rw [List.getElem?_append_right (by omega)] at q ⊢
        obtain ⟨m, hm⟩ : ∃ m, k - T1.length = m + 1 := ⟨k - T1.length - 1, by omega⟩
        rw [hm] at q ⊢
        simpa using q
  old := S.old
  own := fun a l q => S.own a l (of_free q).1
  fo := fun a q => free_else (S.fo a q) (fun z => nomatch z)
  mu := fun a l q => S.mu a l (of_free q).1
  pin := S.pin
  tabs := S.tabs

def moved (ow : Ow) (b : Bs) (l : Loc) : Ow := fun a => match ow a with
  | some m => if m.b = b then some (l.app m.p) else some m
  | none => none
theorem moved_none {b : Bs} {l : Loc} {a : Addr} (h : ow a = none) : moved ow b l a = none := by unfold moved; rw [h]
theorem moved_at {b : Bs} {l m : Loc} {a : Addr} (h : ow a = some m) (e : m.b = b) : moved ow b l a = some (l.app m.p) := by unfold moved; rw [h]; simp [e]
theorem moved_else {b : Bs} {l m : Loc} {a : Addr} (h : ow a = some m) (e : m.b ≠ b) : moved ow b l a = some m := by unfold moved; rw [h]; simp [e]
theorem moved_some {b : Bs} {l m : Loc} {a : Addr} (h : moved ow b l a = some m) : ∃ m', ow a = some m' ∧ (m.b = l.b ∨ m.b = m'.b) := by
  unfold moved at h
  split at h
  · rename_i m' e
    refine ⟨m', e, ?_⟩
    split at h
    · cases h; exact .inl rfl
    · cases h; exact .inr rfl
  · cases h
theorem Rep.moved {d : D} {b : Bs} {l : Loc} {v : V} (h : Rep G ow H d ⟨b, []⟩ v) : Rep G (VL.moved ow b l) H d l v :=
  h.mono d (fun _ _ z _ => z) (fun _ _ z _ => z) (fun _ _ _ z => moved_none z) fun a o q _ z => by
    refine (moved_at z rfl).trans ?_
    simp [Loc.app]
theorem Rep.unmoved {d : D} {b : Bs} {l m : Loc} {v : V} (h : Rep G ow H d m v) (n : m.b ≠ b) : Rep G (VL.moved ow b l) H d m v :=
  h.mono d (fun _ _ z _ => z) (fun _ _ z _ => z) (fun _ _ _ z => moved_none z) fun a o q _ z => moved_else z (by rw [app_b]; exact n)
theorem StW.set {i : Nat} {d : D} {v : V} (S : StW G C ow r (T ++ [(d, v)]) s H) (hp : ∀ p ∈ C.pin, p.1 ≠ i) : StW G C (VL.moved (free ow (.sl i)) (.tm T.length) ⟨.sl i, []⟩) (r.set i (some d)) T (s.set i (some v)) H where
  len := by simpa using S.len
  sl := fun j d' q => by
    by_cases hj : j = i
    · subst hj
      have hlt : j < r.length := by
        have := (List.getElem?_eq_some_iff.mp q).1
        simpa using this
      rw [List.getElem?_set_self hlt] at q
      cases q
      refine ⟨v, by rw [List.getElem?_set_self (by rw [← S.len]; exact hlt)], ?_⟩
      exact Rep.moved (Rep.free (b := .sl j) S.last (fun z => nomatch z))
    · rw [List.getElem?_set_ne (Ne.symm hj)] at q
      obtain ⟨v', h1, h2⟩ := S.sl j d' q
      refine ⟨v', by rw [List.getElem?_set_ne (Ne.symm hj)]; exact h1, ?_⟩
      exact Rep.unmoved (Rep.free (b := .sl i) h2 (fun z => hj (by injection z))) (fun z => nomatch z)
  tm := fun k d' v' q => by
    have hk : k < T.length := (List.getElem?_eq_some_iff.mp q).1
    have z := S.tm k d' v' (by rw [List.getElem?_append_left hk]; exact q)
    exact Rep.unmoved (b := .tm T.length) (Rep.free (b := .sl i) z (fun z => nomatch z)) (fun z => by injection z with z; omega)
  old := S.old
  own := fun a l q => by
    obtain ⟨m, z, e⟩ := moved_some q
    rcases S.own a m (of_free z).1 with h | h
    · unfold VL.moved at q
      rw [z] at q
      have n : m.b ≠ .tm T.length := by rw [h]; exact fun z => nomatch z
      simp only [if_neg n] at q
      cases q
      exact .inl h
    · exact .inr h
  fo := fun a q => moved_else (free_else (S.fo a q) (fun z => nomatch z)) (fun z => nomatch z)
  mu := fun a l q => by
    obtain ⟨m, z, _⟩ := moved_some q
    exact S.mu a m (of_free z).1
  pin := fun p hm => by
    rw [List.getElem?_set_ne (Ne.symm (hp p hm))]
    exact S.pin p hm
  tabs := S.tabs
theorem StOk.set {i : Nat} {d : D} {v : V} (S : StOk G C r (T ++ [(d, v)]) s H) (hp : ∀ p ∈ C.pin, p.1 ≠ i) : StOk G C (r.set i (some d)) T (s.set i (some v)) H := let ⟨ow, W⟩ := S; ⟨_, W.set hp⟩
theorem StOk.wipe1 {i : Nat} {x : Option V} (S : StOk G C r T s H) (hp : ∀ p ∈ C.pin, p.1 ≠ i) : StOk G C (r.set i none) T (s.set i x) H := by
  obtain ⟨ow, W⟩ := S
  refine ⟨ow, by simpa using W.len, fun j d q => ?_, W.tm, W.old, W.own, W.fo, W.mu, fun p hm => ?_, W.tabs⟩
  · by_cases hj : j = i
    · subst hj
      have hlt : j < r.length := by
        have := (List.getElem?_eq_some_iff.mp q).1
        simpa using this
      rw [List.getElem?_set_self hlt] at q
      cases q
    · rw [List.getElem?_set_ne (Ne.symm hj)] at q
      obtain ⟨v, h1, h2⟩ := W.sl j d q
      exact ⟨v, by rw [List.getElem?_set_ne (Ne.symm hj)]; exact h1, h2⟩
  · rw [List.getElem?_set_ne (Ne.symm (hp p hm))]
    exact W.pin p hm

def laid (ow : Ow) (n : Nat) (a : Addr) (o : Bool) : Ow := fun b => if b = a then (if o = true then some ⟨.tm n, []⟩ else none) else match ow b with
  | some ⟨.tm j, p⟩ => if n ≤ j then some ⟨.tm n, (j - n) :: p⟩ else some ⟨.tm j, p⟩
  | x => x
theorem laid_none {n : Nat} {a b : Addr} {o : Bool} (h : ow b = none) (e : b ≠ a) : laid ow n a o b = none := by unfold laid; rw [if_neg e, h]
theorem laid_sl {n i : Nat} {a b : Addr} {o : Bool} {p : List Nat} (h : ow b = some ⟨.sl i, p⟩) (e : b ≠ a) : laid ow n a o b = some ⟨.sl i, p⟩ := by unfold laid; rw [if_neg e, h]
theorem laid_lo {n j : Nat} {a b : Addr} {o : Bool} {p : List Nat} (h : ow b = some ⟨.tm j, p⟩) (e : b ≠ a) (l : j < n) : laid ow n a o b = some ⟨.tm j, p⟩ := by
  unfold laid; rw [if_neg e, h]; exact if_neg (by omega)
theorem laid_hi {n j : Nat} {a b : Addr} {o : Bool} {p : List Nat} (h : ow b = some ⟨.tm j, p⟩) (e : b ≠ a) (l : n ≤ j) : laid ow n a o b = some ⟨.tm n, (j - n) :: p⟩ := by
  unfold laid; rw [if_neg e, h]; exact if_pos l
theorem StW.alloc {k : Kd} {o : Bool} {ho : HO} {ds : List D} {vs : List V} {a : Addr} (S : StW G C ow r (T ++ ds.zip vs) s H) (hl : ds.length = vs.length) (hn : H a = none) (hh : Holds G (upd H a ho) a k vs) (hm : o = true → OwnO (some ho)) :
    StW G C (laid ow T.length a o) r (T ++ [(.node k o ds, .ref a)]) s (upd H a ho) where
  len := S.len
  sl := fun i d q => by
    obtain ⟨v, h1, h2⟩ := S.sl i d q
    refine ⟨v, h1, Rep.mono (l := ⟨.sl i, []⟩) d (fun b o z _ => Ext.new hn b o z) (fun b o z _ => Ext.new hn b o z) (fun b o z e => laid_none e (ne_of_none z hn)) (fun b o q z e => laid_sl (p := [] ++ q) e (ne_of_none z hn)) h2⟩
  tm := fun j d v q => by
    by_cases hj : j < T.length
    · rw [List.getElem?_append_left hj] at q
      have z := S.tm j d v (by rw [List.getElem?_append_left hj]; exact q)
      exact Rep.mono (l := ⟨.tm j, []⟩) d (fun b o z _ => Ext.new hn b o z) (fun b o z _ => Ext.new hn b o z) (fun b o z e => laid_none e (ne_of_none z hn)) (fun b o q z e => laid_lo (p := [] ++ q) e (ne_of_none z hn) hj) z
    · rw [List.getElem?_append_right (by omega)] at q
      have e : j = T.length := by
        have := (List.getElem?_eq_some_iff.mp q).1
        simp at this; omega
      subst e
      simp at q
      obtain ⟨e1, e2⟩ := q
      subst e1; subst e2
      refine ⟨a, vs, rfl, hh, .mk ?_, Reps.of_get hl fun i d v e1 e2 => ?_⟩
      · unfold laid; rw [if_pos rfl]
      · have z := S.tm (T.length + i) d v (by
          rw [List.getElem?_append_right (by omega), Nat.add_sub_cancel_left]
          exact List.getElem?_zip_eq_some.mpr ⟨e1, e2⟩)
        refine Rep.mono (l := ⟨.tm (T.length + i), []⟩) d (fun b o z _ => Ext.new hn b o z) (fun b o z _ => Ext.new hn b o z) (fun b o z e => laid_none e (ne_of_none z hn)) (fun b o q z e => ?_) z
        rw [laid_hi (p := q) (by simpa [Loc.app] using e) (ne_of_none z hn) (by omega)]
        simp [Loc.app, Loc.sub]
  old := fun b u n q => (S.old b u n q).bind fun u q => Ext.new hn b u q
  own := fun b l q => by
    by_cases hb : b = a
    · subst hb
      cases e : C.H0 b with
      | none => exact .inr (.inl rfl)
      | some u =>
        by_cases hi : C.io b
        · exact .inr (.inr hi)
        · exact ((S.old b u hi e).on hn).elim
    · cases e : ow b with
      | none => rw [laid_none e hb] at q; cases q
      | some m =>
        obtain ⟨mb, mp⟩ := m
        cases mb with
        | fo =>
          unfold laid at q
          rw [if_neg hb, e] at q
          cases q
          exact .inl rfl
        | sl i => exact (S.own b _ e).elim (fun z => nomatch z) .inr
        | tm i => exact (S.own b _ e).elim (fun z => nomatch z) .inr
  fo := fun b q => by
    have z := S.fo b q
    have hb : b ≠ a := fun x => by
      have m := S.mu b _ z
      rw [x, hn] at m
      exact m
    unfold laid
    rw [if_neg hb, z]
  mu := fun b l q => by
    by_cases hb : b = a
    · subst hb
      rw [upd_same]
      apply hm
      unfold laid at q
      rw [if_pos rfl] at q
      cases o with
      | true => rfl
      | false => cases q
    · rw [upd_ne hb]
      cases e : ow b with
      | none => rw [laid_none e hb] at q; cases q
      | some m => exact S.mu b m e
  pin := S.pin
  tabs := tabs_none S.tabs hn
theorem StOk.alloc {k : Kd} {ho : HO} {ds : List D} {vs : List V} {a : Addr} (o : Bool) (S : StOk G C r (T ++ ds.zip vs) s H) (hl : ds.length = vs.length) (hn : H a = none) (hh : Holds G (upd H a ho) a k vs) (hm : o = true → OwnO (some ho)) :
    StOk G C r (T ++ [(.node k o ds, .ref a)]) s (upd H a ho) := let ⟨ow, W⟩ := S; ⟨_, W.alloc hl hn hh hm⟩
theorem holds_lst {a : Addr} {vs : List V} : Holds G (upd H a (.lst vs)) a .lst vs := upd_same
theorem holds_tup {a : Addr} {vs : List V} : Holds G (upd H a (.tup vs)) a .tup vs := upd_same
end
end VL

namespace VL
open PySem PySem.Spec PyProof.Rows L2

inductive R where
  | val (d : D) | loc (i : Nat)
inductive EO where
  | ok (x : R) (r : Rho) | exc (c : Nat) (r : Rho) | bad
abbrev Ev := Rho → EO
def opd (r : Rho) : R → Option D
  | .val d => some d
  | .loc i => match r[i]? with
    | some (some d) => some d
    | _ => none
def touch (r : Rho) : R → Rho
  | .val _ => r
  | .loc i => match r[i]? with
    | some (some d) => r.set i (some (frzB d))
    | _ => r
def settle (r : Rho) : R → Rho
  | .val _ => r
  | .loc i => match r[i]? with
    | some (some d) => r.set i (some (frz d))
    | _ => r
def pushR : R → V → List (D × V)
  | .val d, v => [(d, v)]
  | .loc _, _ => []
def LocOk (s : L2.St) (v : V) : R → Prop
  | .val _ => True
  | .loc i => s[i]? = some (some v)
def Post (G : GX) (C : Fc) (r : Rho) (T : List (D × V)) (s : L2.St) (H : Hp) (x : R) (v : V) : Prop := StOk G C r (T ++ pushR x v) s H ∧ LocOk s v x
def tV (G : GX) (C : Fc) (W : WX) (f : Ev) : TE := fun s H Q => ∃ r T, StOk G C r T s H ∧ match f r with
  | .ok x r' => ∀ v H', Post G C r' T s H' x v → Q v H'
  | .exc c r' => ∀ H', StOk G C r' T s H' → W (.ref (G c)) none s H'
  | .bad => False
abbrev VE (X : Cx) (G : GX) (C : Fc) (W : WX) (e : Expr) (f : Ev) : Prop := PE X e (tV G C W f)
theorem PE.imp {X : Cx} {e : Expr} {t t' : TE} (h : PE X e t) (i : ∀ s H Q, t' s H Q → t s H Q) : PE X e t' := ⟨fun pins s σ H Q I w => h.run pins s σ H Q I (i _ _ _ w)⟩

section
variable {G : GX} {C : Fc} {ow ow' : Ow} {r : Rho} {T T1 T2 : List (D × V)} {s : L2.St} {H H' : Hp}
theorem Post.any {x : R} {v : V} (P : Post G C r T s H x v) : StOk G C r T s H := P.1.drop
theorem opd_loc {i : Nat} {d : D} (e : opd r (.loc i) = some d) : r[i]? = some (some d) := by
  have e' : (match r[i]? with | some (some d) => some d | _ => none) = some d := e
  cases q : r[i]? with
  | none => rw [q] at e'; cases e'
  | some x =>
    cases x with
    | none => rw [q] at e'; cases e'
    | some d' => rw [q] at e'; cases e'; rfl
theorem touch_loc {i : Nat} {d : D} (q : r[i]? = some (some d)) : touch r (.loc i) = r.set i (some (frzB d)) := by
  show (match r[i]? with | some (some d) => r.set i (some (frzB d)) | _ => r) = _
  rw [q]
theorem settle_loc {i : Nat} {d : D} (q : r[i]? = some (some d)) : settle r (.loc i) = r.set i (some (frz d)) := by
  show (match r[i]? with | some (some d) => r.set i (some (frz d)) | _ => r) = _
  rw [q]
def base (n : Nat) : R → Loc
  | .val _ => ⟨.tm n, []⟩
  | .loc i => ⟨.sl i, []⟩
theorem opd_rep {x : R} {v : V} {d : D} (S : StW G C ow r (T ++ (pushR x v ++ T2)) s H) (h : LocOk s v x) (e : opd r x = some d) : Rep G ow H d (base T.length x) v := by
  cases x with
  | val d' =>
    cases e
    exact S.tm T.length d v (by simp [pushR])
  | loc i =>
    obtain ⟨v', h1, h2⟩ := S.sl i d (opd_loc e)
    have h' : s[i]? = some (some v) := h
    rw [h'] at h1
    cases h1
    exact h2

def freeU (ow : Ow) (b : Bs) : Ow := fun a => match ow a with
  | some l => if l.b = b ∧ l.p ≠ [] then none else some l
  | none => none
theorem freeU_none {b : Bs} {a : Addr} (h : ow a = none) : freeU ow b a = none := by unfold freeU; rw [h]
theorem freeU_at {b : Bs} {a : Addr} {l : Loc} (h : ow a = some l) (e : l.b = b) (p : l.p ≠ []) : freeU ow b a = none := by unfold freeU; rw [h]; simp [e, p]
theorem freeU_top {b : Bs} {a : Addr} (h : ow a = some ⟨b, []⟩) : freeU ow b a = some ⟨b, []⟩ := by unfold freeU; rw [h]; simp
theorem freeU_else {b : Bs} {a : Addr} {l : Loc} (h : ow a = some l) (e : l.b ≠ b) : freeU ow b a = some l := by unfold freeU; rw [h]; simp [e]
theorem of_freeU {b : Bs} {a : Addr} {l : Loc} (h : freeU ow b a = some l) : ow a = some l := by
  unfold freeU at h
  split at h
  · rename_i l' e
    split at h
    · cases h
    · cases h
      exact e
  · cases h
theorem Rep.freeU {d : D} {l : Loc} {v : V} {b : Bs} (h : Rep G ow H d l v) (n : l.b ≠ b) : Rep G (VL.freeU ow b) H d l v :=
  h.mono d (fun _ _ z _ => z) (fun _ _ z _ => z) (fun _ _ _ z => freeU_none z) fun a o q _ z => freeU_else z (by rw [app_b]; exact n)
theorem Reps.under {xs : List D} {b : Bs} {i j : Nat} {l' : Loc} {vs : List V} (h : Reps G ow H xs ⟨b, []⟩ i vs) : Reps G (VL.freeU ow b) H (VL.frzs xs) l' j vs := by
  have go : ∀ (xs : List D) (i j : Nat) (vs : List V), Reps G ow H xs ⟨b, []⟩ i vs → Reps G (VL.freeU ow b) H (VL.frzs xs) l' j vs := by
    intro xs
    induction xs with
    | nil => intro i j vs h; exact h
    | cons d ds ih =>
      intro i j vs h
      obtain ⟨v, ws, e, h1, h2⟩ := h
      refine ⟨v, ws, e, ?_, ih (i + 1) (j + 1) ws h2⟩
      refine Rep.frz (l := Loc.sub ⟨b, []⟩ i) d (fun a o z q => ⟨z, ?_⟩) (fun _ _ z _ => z) h1
      rcases q with q | ⟨q, e⟩
      · exact freeU_none q
      · exact freeU_at e rfl (by simp [Loc.sub, Loc.app])
  exact go xs i j vs h
theorem StW.under {i : Nat} {k : Kd} {o : Bool} {xs : List D} (S : StW G C ow r T s H) (e : r[i]? = some (some (.node k o xs))) : StW G C (VL.freeU ow (.sl i)) (r.set i (some (.node k o (frzs xs)))) T s H where
  len := by simpa using S.len
  sl := fun j d' q => by
    by_cases hi : j = i
    · subst hi
      have hlt : j < r.length := (List.getElem?_eq_some_iff.mp e).1
      rw [List.getElem?_set_self hlt] at q
      cases q
      obtain ⟨v, h1, a, vs, ev, h2, h3, h4⟩ := S.sl j _ e
      refine ⟨v, h1, a, vs, ev, h2, ?_, h4.under⟩
      rcases h3.cases with hk | h3
      · exact .ofR hk
      refine .mk ?_
      cases o with
      | true => exact freeU_top (by simpa using h3)
      | false => exact freeU_none (by simpa using h3)
    · rw [List.getElem?_set_ne (Ne.symm hi)] at q
      obtain ⟨v, h1, h2⟩ := S.sl j d' q
      exact ⟨v, h1, h2.freeU (fun z => hi (by injection z))⟩
  tm := fun k d' v q => (S.tm k d' v q).freeU (fun z => nomatch z)
  old := S.old
  own := fun a l q => S.own a l (of_freeU q)
  fo := fun a q => freeU_else (S.fo a q) (fun z => nomatch z)
  mu := fun a l q => S.mu a l (of_freeU q)
  pin := S.pin
  tabs := S.tabs
theorem StW.pushFs : ∀ {ds : List D} {T : List (D × V)} {l : Loc} {i : Nat} {vs : List V}, StW G C ow r T s H → frzs ds = ds → Reps G ow H ds l i vs → StW G C ow r (T ++ ds.zip vs) s H
  | [], T, _, _, _, S, _, _ => by simpa using S
  | d :: ds, T, l, i, vs, S, e, h => by
    obtain ⟨v, ws, ev, h1, h2⟩ := h
    have e' : frz d :: frzs ds = d :: ds := e
    injection e' with e1 e2
    subst ev
    have S1 := S.push (d := d) (v := v) (Rep.moveF d e1 (fun a o z q => ⟨z, q⟩) (fun _ _ z _ => z) h1)
    have S2 := StW.pushFs S1 e2 h2
    simpa using S2
theorem Reps.app {ds es : List D} {l : Loc} {vs ws : List V} (e1 : VL.frzs ds = ds) (e2 : VL.frzs es = es) (h1 : Reps G ow H ds l 0 vs) (h2 : Reps G ow H es l 0 ws) : Reps G ow H (ds ++ es) l 0 (vs ++ ws) := by
  refine Reps.of_get (by rw [List.length_append, List.length_append, h1.length, h2.length]) fun j d v q1 q2 => ?_
  by_cases hj : j < ds.length
  · rw [List.getElem?_append_left hj] at q1
    rw [List.getElem?_append_left (by rw [← h1.length]; exact hj)] at q2
    obtain ⟨v', z1, z2⟩ := h1.get j d q1
    rw [q2] at z1; cases z1
    exact z2
  · rw [List.getElem?_append_right (by omega)] at q1
    rw [List.getElem?_append_right (by rw [← h1.length]; omega)] at q2
    rw [← h1.length] at q2
    obtain ⟨v', z1, z2⟩ := h2.get (j - ds.length) d q1
    rw [q2] at z1; cases z1
    have f : VL.frz d = d := by
      have := congrArg (·[j - ds.length]?) e2
      simp only [frzs_map, List.getElem?_map, q1, Option.map_some] at this
      exact Option.some.inj this
    exact Rep.moveF d f (fun a o z q => ⟨z, q⟩) (fun _ _ z _ => z) z2
theorem StW.parts {x : R} {v : V} {k : Kd} {o : Bool} {xs : List D} (S : StW G C ow r (T ++ pushR x v) s H) (hl : LocOk s v x) (e : opd r x = some (.node k o xs)) :
    ∃ ow' a vs, StW G C ow' (touch r x) T s H ∧ v = .ref a ∧ Holds G H a k vs ∧ (∀ l, Reps G ow' H (frzs xs) l 0 vs) ∧ (∀ b, ow b = none → ow' b = none) := by
  cases x with
  | val d' =>
    cases e
    obtain ⟨a, vs, ev, h1, h2, h3⟩ := S.last
    have S' := (show StW G C ow r (T ++ (D.node k o xs, v) :: []) s H from S).frzTm
    refine ⟨_, a, vs, S'.drop, ev, h1, fun l => ?_, fun b z => free_none z⟩
    exact Reps.frz (l := ⟨.tm T.length, []⟩) xs (fun b u z q => ⟨z, by
      rcases q with q | ⟨q, e⟩
      · exact free_none q
      · exact free_at e rfl⟩) (fun _ _ z _ => z) h3
  | loc i =>
    have q := opd_loc e
    obtain ⟨v', h1, a, vs, ev, h2, h3, h4⟩ := S.sl i _ q
    have h' : s[i]? = some (some v) := hl
    rw [h'] at h1
    cases h1
    have S' := S.under q
    refine ⟨_, a, vs, ?_, ev, h2, fun l => h4.under, fun b z => freeU_none z⟩
    rw [touch_loc q]
    exact S'.drop
end
end VL

namespace VL
open PySem PySem.Spec PyProof.Rows L2

def EO.bd (x : EO) (k : R → Rho → EO) : EO := match x with
  | .ok y r => k y r
  | .exc c r => .exc c r
  | .bad => .bad
@[simp] theorem bd_ok (y : R) (r : Rho) (k : R → Rho → EO) : (EO.ok y r).bd k = k y r := rfl
@[simp] theorem bd_exc (c : Nat) (r : Rho) (k : R → Rho → EO) : (EO.exc c r).bd k = .exc c r := rfl
@[simp] theorem bd_bad (k : R → Rho → EO) : EO.bad.bd k = .bad := rfl
def Goes (G : GX) (C : Fc) (W : WX) (T : List (D × V)) (s : L2.St) (Q : VK) (o : EO) : Prop := match o with
  | .ok x r' => ∀ v H', Post G C r' T s H' x v → Q v H'
  | .exc c r' => ∀ H', StOk G C r' T s H' → W (.ref (G c)) none s H'
  | .bad => False
section
variable {X : Cx} {G : GX} {C : Fc} {W : WX} {ow ow' : Ow} {r : Rho} {T T1 T2 : List (D × V)} {s : L2.St} {H H' : Hp} {fa fb fc : Ev}
theorem Goes.more {Q : VK} {o : EO} (h : Goes G C W T s Q o) : Goes G C W (T ++ T2) s (fun v H' => ∀ x r', o = .ok x r' → Post G C r' T s H' x v → Q v H') o := by
  cases o with
  | ok x r' => exact fun v H' _ y r'' e P => h v H' (by cases e; exact P)
  | exc c r' => exact fun H' S => h H' S.drop
  | bad => exact h
theorem one {k : R → Rho → EO} {Q : VK} {K : V → Hp → Prop} (S : StOk G C r T s H) (h : Goes G C W T s Q ((fa r).bd k))
    (hk : ∀ x v r1 H1, Post G C r1 T s H1 x v → Goes G C W T s Q (k x r1) → K v H1) : tV G C W fa s H K := by
  refine ⟨r, T, S, ?_⟩
  cases e : fa r with
  | ok x r1 =>
    rw [e] at h
    exact fun v H1 P => hk x v r1 H1 P h
  | exc c r1 => rw [e] at h; exact h
  | bad => rw [e] at h; exact h
theorem two {k : R → R → Rho → EO} {Q : VK} {K : V → V → Hp → Prop} (S : StOk G C r T s H) (h : Goes G C W T s Q ((fa r).bd fun x r1 => (fb r1).bd (k x)))
    (hk : ∀ x y v u r2 H2, StOk G C r2 (T ++ (pushR x v ++ pushR y u)) s H2 → LocOk s v x → LocOk s u y → Goes G C W T s Q (k x y r2) → K v u H2) :
    tV G C W fa s H fun v H1 => tV G C W fb s H1 fun u H2 => K v u H2 := by
  refine one S h fun x v r1 H1 P h1 => ?_
  refine ⟨r1, T ++ pushR x v, P.1, ?_⟩
  cases e : fb r1 with
  | ok y r2 =>
    rw [e] at h1
    exact fun u H2 P2 => hk x y v u r2 H2 (by rw [← List.append_assoc]; exact P2.1) P.2 P2.2 h1
  | exc c r2 => rw [e] at h1; exact fun H' S' => h1 H' S'.drop
  | bad => rw [e] at h1; exact h1

def cVar (i : Nat) : Ev := fun r => match r[i]? with
  | some (some d) => if atom d = true then .ok (.val d) r else .ok (.loc i) r
  | _ => .bad
theorem ve_var {i : Nat} {x : Str} {pos : Pos} (hN : X.N[i]? = some x) (hv : Vis X.env.scope x) (hd : (x == ("__debug__" : Str)) = false := by decide) (hcd : (x == ("__classdict__" : Str)) = false := by decide) : VE X G C W (.Name x pos) (cVar i) := by
  refine PE.imp (pe_var hN hv hd hcd) fun s H Q h => ?_
  obtain ⟨r, T, S, g⟩ := h
  unfold cVar at g
  cases q : r[i]? with
  | none => rw [q] at g; exact g.elim
  | some o =>
    cases o with
    | none => rw [q] at g; exact g.elim
    | some d =>
      rw [q] at g
      obtain ⟨ow, S⟩ := S
      obtain ⟨v, h1, h2⟩ := S.sl i d q
      refine ⟨v, h1, ?_⟩
      by_cases a : atom d = true
      · simp only [a, if_true] at g
        exact g v H ⟨⟨ow, S.push (h2.of_atom a)⟩, trivial⟩
      · simp only [a, if_false] at g
        exact g v H ⟨⟨ow, by simpa [pushR] using S⟩, h1⟩
def cC (d : D) : Ev := fun r => .ok (.val d) r
theorem ve_c {e : Expr} {v : V} {d : D} (h : PE X e (tC v)) (a : atom d = true) (hr : ∀ ow H l, Rep G ow H d l v) : VE X G C W e (cC d) := by
  refine PE.imp h fun s H Q h => ?_
  obtain ⟨r, T, S, g⟩ := h
  exact g v H ⟨S.pushA a fun ow l => hr ow H l, trivial⟩
theorem ve_int {i j pos} : VE X G C W (.Constant (.int i) j pos) (cC (.int i)) := ve_c pe_int rfl fun _ _ _ => rfl
theorem ve_bl {b j pos} : VE X G C W (.Constant (.bool b) j pos) (cC (.bl b)) := ve_c pe_bl rfl fun _ _ _ => rfl
theorem ve_non {j pos} : VE X G C W (.Constant .none j pos) (cC .non) := ve_c pe_non rfl fun _ _ _ => rfl
theorem ve_str {x j pos} : VE X G C W (.Constant (.str x) j pos) (cC (.str x)) := ve_c pe_str rfl fun _ _ _ => rfl
theorem ve_gint {x : Str} {i : Int} {t : Tok} {pos : Pos} (hg : Gl X x) (hm : X.mg x = some (.int i t)) (hd : (x == ("__debug__" : Str)) = false := by decide) : VE X G C W (.Name x pos) (cC (.int i)) :=
  ve_c (pe_glob (v := .int i) hg hm ⟨t, rfl⟩ hd) rfl fun _ _ _ => rfl
abbrev G2 := R → R → Rho → EO
def OpS (X : Cx) (f : Value → Value → Sem Value) (g : G2) : Prop := ∃ rr, OpR X f rr ∧ ∀ (G : GX) (C : Fc) (W : WX) (r : Rho) (T : List (D × V)) (s : L2.St) (H : Hp) (x y : R) (v u : V) (Q : VK),
  StOk G C r (T ++ (pushR x v ++ pushR y u)) s H → LocOk s v x → LocOk s u y → Goes G C W T s Q (g x y r) → rr v u H Q
def cBin (g : G2) (fa fb : Ev) : Ev := fun r => (fa r).bd fun x r1 => (fb r1).bd fun y r2 => g x y r2
theorem ve_bin {op : Operator} {g : G2} {a b : Expr} {pos : Pos} (ho : OpS X (binaryOp op) g) (ha : VE X G C W a fa) (hb : VE X G C W b fb) : VE X G C W (.BinOp a op b pos) (cBin g fa fb) := by
  obtain ⟨rr, h1, h2⟩ := ho
  refine PE.imp (pe_op h1 ha hb) fun s H Q h => ?_
  obtain ⟨r, T, S, g⟩ := h
  exact two S g fun x y v u r2 H2 S2 lx ly g2 => h2 G C W r2 T s H2 x y v u Q S2 lx ly g2
theorem ve_cmp {op : CmpOp} {g : G2} {a b : Expr} {pos : Pos} (ho : OpS X (compareOp op) g) (ha : VE X G C W a fa) (hb : VE X G C W b fb) (hm : behindInMarks op b = false) : VE X G C W (.Compare a [op] [b] pos) (cBin g fa fb) := by
  obtain ⟨rr, h1, h2⟩ := ho
  refine PE.imp (pe_cmpR h1 ha hb hm) fun s H Q h => ?_
  obtain ⟨r, T, S, g⟩ := h
  exact two S g fun x y v u r2 H2 S2 lx ly g2 => h2 G C W r2 T s H2 x y v u Q S2 lx ly g2

def g2 (f : D → D → Option D) : G2 := fun x y r => match opd r x, opd r y with
  | some d, some e => (match f d e with
    | some z => if atom z = true then .ok (.val z) r else .bad
    | none => .bad)
  | _, _ => .bad
theorem OpS.scal {f : Value → Value → Sem Value} {rr : R2} {g : D → D → Option D} (h : OpR X f rr)
    (hr : ∀ (G : GX) (ow : Ow) (H : Hp) (d e z : D) (l m : Loc) (v u : V) (Q : VK), Rep G ow H d l v → Rep G ow H e m u → g d e = some z → (∀ w, (∀ ow l, Rep G ow H z l w) → Q w H) → rr v u H Q) : OpS X f (g2 g) := by
  refine ⟨rr, h, fun G C W r T s H x y v u Q S lx ly q => ?_⟩
  obtain ⟨ow, S⟩ := S
  unfold g2 at q
  cases e1 : opd r x with
  | none => rw [e1] at q; exact q.elim
  | some d =>
    cases e2 : opd r y with
    | none => rw [e1, e2] at q; exact q.elim
    | some e =>
      rw [e1, e2] at q
      cases e3 : g d e with
      | none => simp only [e3] at q; exact q.elim
      | some z =>
        simp only [e3] at q
        by_cases a : atom z = true
        · rw [if_pos a] at q
          refine hr G ow H d e z _ _ v u Q (opd_rep S lx e1) (opd_rep (T := T ++ pushR x v) (T2 := []) (by rw [List.append_nil, List.append_assoc]; exact S) ly e2) e3 fun w hw => ?_
          exact q w H ⟨StOk.pushA ⟨ow, S.drop⟩ a hw, trivial⟩
        · rw [if_neg a] at q
          exact q.elim
theorem rep_int {ow : Ow} {i : Int} {l : Loc} {v : V} (h : Rep G ow H (.int i) l v) : v = .int i := h
theorem rep_bl {ow : Ow} {b : Bool} {l : Loc} {v : V} (h : Rep G ow H (.bl b) l v) : v = .bl b := h
theorem rep_str {ow : Ow} {b : Str} {l : Loc} {v : V} (h : Rep G ow H (.str b) l v) : v = .str b := h
theorem rep_non {ow : Ow} {l : Loc} {v : V} (h : Rep G ow H .non l v) : v = .non := h
def fI (ok : Int → Int → Bool) (g : Int → Int → D) : D → D → Option D
  | .int i, .int j => if ok i j = true then some (g i j) else none
  | _, _ => none
@[simp] theorem fI_int (ok : Int → Int → Bool) (g : Int → Int → D) (i j : Int) : fI ok g (.int i) (.int j) = if ok i j = true then some (g i j) else none := rfl
theorem OpS.ints {f : Value → Value → Sem Value} {P : Int → Int → Prop} {ok : Int → Int → Bool} {g : Int → Int → V} {gd : Int → Int → D} (h : OpR X f (rI P g)) (hp : ∀ i j, ok i j = true → P i j)
    (hg : ∀ G ow H l i j, Rep G ow H (gd i j) l (g i j)) : OpS X f (g2 (fI ok gd)) := by
  refine OpS.scal h fun G ow H d e z l m v u Q h1 h2 e3 q => ?_
  cases d with
  | int i =>
    cases e with
    | int j =>
      rw [fI_int] at e3
      by_cases a : ok i j = true
      · rw [if_pos a] at e3
        cases e3
        exact ⟨i, j, h1, h2, hp i j a, q _ fun _ _ => hg _ _ _ _ i j⟩
      · rw [if_neg a] at e3; cases e3
    | _ => cases e3
  | _ => cases e <;> cases e3
theorem rI_of0 {f : Value → Value → Sem Value} {g : Int → Int → V} (h : OpR X f (rI0 g)) : OpR X f (rI (fun _ _ => True) g) := by
  intro pins s σ H x y v u Q I rx ry q
  obtain ⟨i, j, e1, e2, _, q⟩ := q
  exact h pins s σ H x y v u Q I rx ry ⟨i, j, e1, e2, q⟩
def yes2 : Int → Int → Bool := fun _ _ => true
@[simp] theorem yes2_eq (i j : Int) : yes2 i j = true := rfl
def gLt : G2 := g2 (fI yes2 fun i j => .bl (decide (i < j)))
def gLe : G2 := g2 (fI yes2 fun i j => .bl (decide (i ≤ j)))
def gGt : G2 := g2 (fI yes2 fun i j => .bl (decide (j < i)))
def gGe : G2 := g2 (fI yes2 fun i j => .bl (decide (j ≤ i)))
theorem os_lt : OpS X (compareOp .Lt) gLt := .ints (rI_of0 op_lt) (fun _ _ _ => trivial) fun _ _ _ _ _ _ => rfl
theorem os_gt : OpS X (compareOp .Gt) gGt := .ints (rI_of0 op_gt) (fun _ _ _ => trivial) fun _ _ _ _ _ _ => rfl
def gSub : G2 := g2 (fI yes2 fun i j => .int (i - j))
theorem os_sub : OpS X (binaryOp .Sub) gSub := .ints (rI_of0 op_sub) (fun _ _ _ => trivial) fun _ _ _ _ _ _ => rfl
def divOk (_ j : Int) : Bool := decide (0 < j) && (decide (j.natAbs < 1073741824) || decide (j.natAbs.log2 < 9000))
theorem op_fdivA : OpR X (binaryOp .FloorDiv) (rI (fun i j => CDiv i j ∨ CDivW i j) fun i j => .int (i / j)) := by
  intro pins s σ H x y v u Q I rx ry q
  obtain ⟨i, j, e1, e2, c | c, q⟩ := q
  · exact op_fdiv pins s σ H x y v u Q I rx ry ⟨i, j, e1, e2, c, q⟩
  · exact op_fdivW pins s σ H x y v u Q I rx ry ⟨i, j, e1, e2, c, q⟩
theorem divOk_of {i j : Int} (h : divOk i j = true) : CDiv i j ∨ CDivW i j := by
  unfold divOk at h
  simp only [Bool.and_eq_true, Bool.or_eq_true, decide_eq_true_eq] at h
  rcases h with ⟨h0, h | h⟩
  · exact .inl ⟨h0, by omega⟩
  · exact .inr ⟨h0, h⟩
def gDiv : G2 := g2 (fI divOk fun i j => .int (i / j))
theorem os_div : OpS X (binaryOp .FloorDiv) gDiv := .ints op_fdivA (fun _ _ h => divOk_of h) fun _ _ _ _ _ _ => rfl
def posOk (_ j : Int) : Bool := decide (0 < j)
def gMod : G2 := g2 (fI posOk fun i j => .int (i % j))
theorem os_mod : OpS X (binaryOp .Mod) gMod := .ints op_mod (fun _ _ h => of_decide_eq_true h) fun _ _ _ _ _ _ => rfl
def powOk (i j : Int) : Bool := decide (0 ≤ j) && decide (j.natAbs ≤ 1000000) && decide (i.natAbs < 2 ^ 64)
theorem powOk_of {i j : Int} (h : powOk i j = true) : CPow i j := by
  unfold powOk at h
  simp only [Bool.and_eq_true, decide_eq_true_eq] at h
  exact ⟨h.1.1, by have := h.1.2; omega, h.2⟩
def gPow : G2 := g2 (fI powOk fun i j => .int (i ^ j.toNat))
theorem os_pow : OpS X (binaryOp .Pow) gPow := .ints op_pow (fun _ _ h => powOk_of h) fun _ _ _ _ _ _ => rfl
def mulOk (i j : Int) : Bool := decide (i.natAbs < 2 ^ 64) || decide (j.natAbs < 2 ^ 64) || decide ((Builtin.Int.intBits i : Int) + (Builtin.Int.intBits j : Int) ≤ 134217728)
theorem mulOk_of {i j : Int} (h : mulOk i j = true) : IntMulOk i j := by
  unfold mulOk at h
  simp only [Bool.or_eq_true, decide_eq_true_eq] at h
  rcases h with (h | h) | h
  · exact CMul.ok (.inl ⟨by omega, by omega⟩)
  · exact CMul.ok (.inr ⟨by omega, by omega⟩)
  · exact CMulX.ok h
theorem op_mulA : OpR X (binaryOp .Mult) (rI IntMulOk fun i j => .int (i * j)) := opI fun _ _ _ _ _ _ _ hc q => mul_int q hc

theorem StW.made {ds : List D} {vs : List V} {l : Loc} {i : Nat} {Q : VK} (S : StW G C ow r T s H) (e : frzs ds = ds) (h : Reps G ow H ds l i vs) (hq : ∀ v H', Post G C r T s H' (.val (.node .lst true ds)) v → Q v H') :
    ∀ p, H p = none → Q (.ref p) (upd H p (.lst vs)) := fun p hp =>
  hq _ _ ⟨StOk.alloc true ⟨ow, S.pushFs e h⟩ h.length hp holds_lst (fun _ => trivial), trivial⟩
theorem touch_opd {x y : R} {k : Kd} {o : Bool} {xs : List D} (e : opd r x = some (.node k o xs)) : opd (touch r y) x = some (.node k o xs) ∨ opd (touch r y) x = some (.node k o (frzs xs)) := by
  cases x with
  | val d => exact .inl e
  | loc i =>
    have q := opd_loc e
    cases y with
    | val d => exact .inl e
    | loc j =>
      by_cases hij : j = i
      · subst hij
        refine .inr ?_
        have hlt : j < r.length := (List.getElem?_eq_some_iff.mp q).1
        rw [touch_loc q]
        show (match (r.set j (some (frzB (.node k o xs))))[j]? with | some (some d) => some d | _ => none) = _
        rw [List.getElem?_set_self hlt]
        rfl
      · refine .inl ?_
        cases q' : r[j]? with
        | none =>
          have : touch r (.loc j) = r := by show (match r[j]? with | some (some d) => r.set j (some (frzB d)) | _ => r) = _; rw [q']
          rw [this]; exact e
        | some o' =>
          cases o' with
          | none =>
            have : touch r (.loc j) = r := by show (match r[j]? with | some (some d) => r.set j (some (frzB d)) | _ => r) = _; rw [q']
            rw [this]; exact e
          | some d' =>
            rw [touch_loc q']
            show (match (r.set j (some (frzB d')))[i]? with | some (some d) => some d | _ => none) = _
            rw [List.getElem?_set_ne hij, q]
theorem StW.parts2 {x y : R} {v u : V} {k k' : Kd} {o o' : Bool} {xs ys : List D} (S : StW G C ow r (T ++ (pushR x v ++ pushR y u)) s H) (lx : LocOk s v x) (ly : LocOk s u y) (e1 : opd r x = some (.node k o xs)) (e2 : opd r y = some (.node k' o' ys)) :
    ∃ ow' a b vs us, StW G C ow' (touch (touch r y) x) T s H ∧ v = .ref a ∧ u = .ref b ∧ Holds G H a k vs ∧ Holds G H b k' us ∧ (∀ l, Reps G ow' H (frzs xs) l 0 vs) ∧ (∀ l, Reps G ow' H (frzs ys) l 0 us) := by
  obtain ⟨ow1, b, us, S1, eu, hb, ry, n1⟩ := StW.parts (T := T ++ pushR x v) (by rw [List.append_assoc]; exact S) ly e2
  have go : ∀ xs', opd (touch r y) x = some (.node k o xs') → frzs xs' = frzs xs →
      ∃ ow' a b vs us, StW G C ow' (touch (touch r y) x) T s H ∧ v = .ref a ∧ u = .ref b ∧ Holds G H a k vs ∧ Holds G H b k' us ∧ (∀ l, Reps G ow' H (frzs xs) l 0 vs) ∧ (∀ l, Reps G ow' H (frzs ys) l 0 us) := fun xs' e' ef => by
    obtain ⟨ow2, a, vs, S2, ev, ha, rx, n2⟩ := S1.parts lx e'
    refine ⟨ow2, a, b, vs, us, S2, ev, eu, ha, hb, fun l => by rw [← ef]; exact rx l, fun l => ?_⟩
    exact Reps.moveF _ (frzs_frzs ys) (fun c ob z q => ⟨z, n2 c q⟩) (fun _ _ z _ => z) (ry l)
  rcases touch_opd (y := y) e1 with e' | e'
  · exact go xs e' rfl
  · exact go _ e' (frzs_frzs xs)
@[irreducible] def gAdd : G2 := fun x y r => match opd r x, opd r y with
  | some (.int i), some (.int j) => .ok (.val (.int (i + j))) r
  | some (.int i), some (.bl k) => .ok (.val (.int (i + b2i k))) r
  | some (.str a), some (.str b) => if a.length + b.length ≤ 16777216 then .ok (.val (.str (a ++ b))) r else .bad
  | some (.node .lst _ xs), some (.node .lst _ ys) => if xs.length + ys.length ≤ 16777216 then .ok (.val (.node .lst true (frzs xs ++ frzs ys))) (touch (touch r y) x) else .bad
  | _, _ => .bad
theorem frzs_append (xs ys : List D) : frzs (xs ++ ys) = frzs xs ++ frzs ys := by simp [frzs_map]
theorem frzs_length (xs : List D) : (frzs xs).length = xs.length := by simp [frzs_map]
theorem goes_val {z : D} {Q : VK} (h : Goes G C W T s Q (.ok (.val z) r)) (S : StOk G C r T s H) (a : atom z = true) {w : V} (hw : ∀ ow l, Rep G ow H z l w) : Q w H := h w H ⟨S.pushA a hw, trivial⟩
theorem os_add_of {f : Value → Value → Sem Value} (h1 : OpR X f (rI0 fun i j => .int (i + j))) (h2 : OpR X f (fun x y H Q => ∃ i k, x = .int i ∧ y = .bl k ∧ Q (.int (i + b2i k)) H))
    (h3 : OpR X f (fun x y H Q => ∃ i j, x = .str i ∧ y = .str j ∧ i.length + j.length ≤ sizeLine ∧ Q (.str (i ++ j)) H)) (h4 : OpR X f rCat) : OpS X f gAdd := by
  refine ⟨_, h1.or (h2.or (h3.or h4)), fun G C W r T s H x y v u Q S lx ly q => ?_⟩
  obtain ⟨ow, S⟩ := S
  unfold gAdd at q
  split at q
  · rename_i i j e1 e2
    have a1 := opd_rep S lx e1
    have a2 := opd_rep (T := T ++ pushR x v) (T2 := []) (by rw [List.append_nil, List.append_assoc]; exact S) ly e2
    exact .inl ⟨i, j, a1, a2, goes_val q ⟨ow, S.drop⟩ rfl fun _ _ => rfl⟩
  · rename_i i k e1 e2
    have a1 := opd_rep S lx e1
    have a2 := opd_rep (T := T ++ pushR x v) (T2 := []) (by rw [List.append_nil, List.append_assoc]; exact S) ly e2
    exact .inr (.inl ⟨i, k, a1, a2, goes_val q ⟨ow, S.drop⟩ rfl fun _ _ => rfl⟩)
  · rename_i i j e1 e2
    have a1 := opd_rep S lx e1
    have a2 := opd_rep (T := T ++ pushR x v) (T2 := []) (by rw [List.append_nil, List.append_assoc]; exact S) ly e2
    split at q
    · rename_i hz
      exact .inr (.inr (.inl ⟨i, j, a1, a2, by rw [sizeLine_eq]; exact hz, goes_val q ⟨ow, S.drop⟩ rfl fun _ _ => rfl⟩))
    · exact q.elim
  · rename_i o1 xs o2 ys e1 e2
    split at q
    · rename_i hz
      obtain ⟨ow', a, b, vs, us, S', ev, eu, ha, hb, rx, ry⟩ := S.parts2 lx ly e1 e2
      subst ev; subst eu
      have l1 := (rx ⟨.fo, []⟩).length
      have l2 := (ry ⟨.fo, []⟩).length
      rw [frzs_length] at l1 l2
      refine .inr (.inr (.inr ⟨a, b, vs, us, rfl, rfl, ha, hb, by rw [sizeLine_eq, ← l1, ← l2]; exact hz, ?_⟩))
      exact S'.made (l := ⟨.fo, []⟩) (i := 0) (by rw [frzs_append, frzs_frzs, frzs_frzs]) (Reps.app (frzs_frzs xs) (frzs_frzs ys) (rx _) (ry _)) q
    · exact q.elim
  · exact q.elim
theorem os_add : OpS X (binaryOp .Add) gAdd := os_add_of op_add op_add_ib op_add_str op_cat
end
end VL

namespace VL
open PySem PySem.Spec PyProof.Rows L2

theorem reps_flat {G : GX} {ow : Ow} {H : Hp} {ds : List D} {l : Loc} {vs : List V} (e : frzs ds = ds) (h : Reps G ow H ds l 0 vs) : ∀ k : Nat, Reps G ow H (List.replicate k ds).flatten l 0 (List.replicate k vs).flatten ∧ frzs (List.replicate k ds).flatten = (List.replicate k ds).flatten
  | 0 => ⟨rfl, rfl⟩
  | k + 1 => by
    obtain ⟨i1, i2⟩ := reps_flat e h k
    rw [List.replicate_succ, List.replicate_succ, List.flatten_cons, List.flatten_cons]
    exact ⟨Reps.app e i2 h i1, by rw [frzs_append, e, i2]⟩
section
variable {X : Cx} {G : GX} {C : Fc} {W : WX} {ow ow' : Ow} {r : Rho} {T T1 T2 : List (D × V)} {s : L2.St} {H H' : Hp} {fa fb fc : Ev}
@[irreducible] def gMul : G2 := fun x y r => match opd r x, opd r y with
  | some (.int i), some (.int j) => if mulOk i j = true then .ok (.val (.int (i * j))) r else .bad
  | some (.node .lst _ xs), some (.int k) => if k.natAbs < 2 ^ 63 ∧ xs.length * k.toNat ≤ 16777216 then .ok (.val (.node .lst true (List.replicate k.toNat (frzs xs)).flatten)) (touch r x) else .bad
  | _, _ => .bad
theorem os_mul : OpS X (binaryOp .Mult) gMul := by
  refine ⟨_, op_mulA.or op_rep, fun G C W r T s H x y v u Q S lx ly q => ?_⟩
  obtain ⟨ow, S⟩ := S
  unfold gMul at q
  split at q
  · rename_i i j e1 e2
    split at q
    · rename_i hm
      have a1 := opd_rep S lx e1
      have a2 := opd_rep (T := T ++ pushR x v) (T2 := []) (by rw [List.append_nil, List.append_assoc]; exact S) ly e2
      exact .inl ⟨i, j, a1, a2, mulOk_of hm, goes_val q ⟨ow, S.drop⟩ rfl fun _ _ => rfl⟩
    · exact q.elim
  · rename_i o xs k e1 e2
    split at q
    · rename_i hz
      obtain ⟨h12, h3⟩ := hz
      have h1 : -(2 ^ 63) ≤ k := by omega
      have h2 : k < 2 ^ 63 := by omega
      have a2 := opd_rep (T := T ++ pushR x v) (T2 := []) (by rw [List.append_nil, List.append_assoc]; exact S) ly e2
      obtain ⟨ow', a, vs, S', ev, ha, rx, _⟩ := StW.parts (T := T) (StW.drop (T := T ++ pushR x v) (T2 := pushR y u) (by rw [List.append_assoc]; exact S)) lx e1
      subst ev
      have l1 := (rx ⟨.fo, []⟩).length
      rw [frzs_length] at l1
      obtain ⟨r1, r2⟩ := reps_flat (frzs_frzs xs) (rx ⟨.fo, []⟩) k.toNat
      refine .inr ⟨a, k, vs, rfl, a2, ha, h1, h2, by rw [sizeLine_eq, ← l1]; exact h3, ?_⟩
      exact S'.made (l := ⟨.fo, []⟩) (i := 0) r2 r1 q
    · exact q.elim
  · exact q.elim

mutual
def toPy : D → PyData
  | .non => .none
  | .bl b => .bool b
  | .int i => .int i
  | .str s => .str s
  | .node .lst _ xs => .list (toPys xs)
  | .node .tup _ xs => .tuple (toPys xs)
  | _ => .dict []
def toPys : List D → List PyData
  | [] => []
  | d :: ds => toPy d :: toPys ds
end
def eqOk (d : D) : Bool := SeqAt.shaped (toPy d)
mutual
theorem dp_of {K : PySem.W.Frag} : ∀ (d : D) {l : Loc} {v : V}, (toPy d).canLay0 = true → Rep G ow H d l v → Dp K H v (toPy d)
  | .non, _, _, _, h => by
    have e := rep_non h
    subst e; exact .non
  | .bl b, _, _, _, h => by
    have e := rep_bl h
    subst e; exact .bl b
  | .int i, _, _, _, h => by
    have e := rep_int h
    subst e; exact .int i
  | .str x, _, _, _, h => by
    have e := rep_str h
    subst e; exact .str x
  | .any, _, _, c, _ => by simp [toPy, PyData.canLay0] at c
  | .exc _, _, _, c, _ => by simp [toPy, PyData.canLay0] at c
  | .ty _, _, _, c, _ => by simp [toPy, PyData.canLay0] at c
  | .cls _, _, _, c, _ => by simp [toPy, PyData.canLay0] at c
  | .node k o xs, l, v, c, h => by
    obtain ⟨a, vs, e, h1, h2, h3⟩ := h
    subst e
    cases k with
    | lst =>
      have c' : PyData.canLayAll0 (toPys xs) = true := by simpa [toPy, PyData.canLay0] using c
      have z := dps_of (K := K) xs c' h3
      simp only [toPy]
      exact .lst (SqL.of h1) z
    | rd => simp [toPy, PyData.canLay0] at c
    | tup =>
      have c' : PyData.canLayAll0 (toPys xs) = true := by simpa [toPy, PyData.canLay0] using c
      have z := dps_of (K := K) xs c' h3
      simp only [toPy]
      exact .tup (SqT.of h1) z
    | dK ks => simp [toPy, PyData.canLay0] at c
    | dT ks => simp [toPy, PyData.canLay0] at c
    | ins c' fs => simp [toPy, PyData.canLay0] at c
theorem dps_of {K : PySem.W.Frag} : ∀ (ds : List D) {l : Loc} {i : Nat} {vs : List V}, PyData.canLayAll0 (toPys ds) = true → Reps G ow H ds l i vs → DpAll K H vs (toPys ds)
  | [], _, _, vs, _, h => by
    have e : vs = [] := h
    subst e
    simp only [toPys]
    exact .nil
  | d :: ds, l, i, vs, c, h => by
    obtain ⟨v, ws, e, h1, h2⟩ := h
    subst e
    have c' : (toPy d).canLay0 = true ∧ PyData.canLayAll0 (toPys ds) = true := by simpa [toPys, PyData.canLayAll0] using c
    simp only [toPys]
    exact .cons (dp_of d c'.1 h1) (dps_of ds c'.2 h2)
end
def eqD (d e : D) : Option D := if (eqOk d && eqOk e) = true then some (.bl (PyData.eqv (toPy d) (toPy e))) else none
def neD (d e : D) : Option D := if (eqOk d && eqOk e) = true then some (.bl (!PyData.eqv (toPy d) (toPy e))) else none
def gEq : G2 := g2 eqD
def gNe : G2 := g2 neD
theorem os_eq (hu : X.A.units + 64 < cLine) : OpS X (compareOp .Eq) gEq := by
  refine OpS.scal (op_eqD hu) fun G ow H d e z l m v u Q h1 h2 e3 q => ?_
  unfold eqD at e3
  split at e3
  · rename_i c
    rw [Bool.and_eq_true] at c
    cases e3
    exact ⟨_, _, dp_of d (SeqAt.canLay_of_shaped c.1) h1, dp_of e (SeqAt.canLay_of_shaped c.2) h2, c.1, c.2, q _ fun _ _ => rfl⟩
  · cases e3
theorem os_ne (hu : X.A.units + 64 < cLine) : OpS X (compareOp .NotEq) gNe := by
  refine OpS.scal (op_neD hu) fun G ow H d e z l m v u Q h1 h2 e3 q => ?_
  unfold neD at e3
  split at e3
  · rename_i c
    rw [Bool.and_eq_true] at c
    cases e3
    exact ⟨_, _, dp_of d (SeqAt.canLay_of_shaped c.1) h1, dp_of e (SeqAt.canLay_of_shaped c.2) h2, c.1, c.2, q _ fun _ _ => rfl⟩
  · cases e3
def isN : D → D → Option D
  | d, .non => (match d with
    | .any => none
    | .non => some (.bl true)
    | _ => some (.bl false))
  | _, _ => none
def isnotN : D → D → Option D
  | d, .non => (match d with
    | .any => none
    | .non => some (.bl false)
    | _ => some (.bl true))
  | _, _ => none
theorem rep_isnon {d : D} {l : Loc} {v : V} (h : Rep G ow H d l v) (n : d ≠ .any) : decide (v = .non) = (match d with | .non => true | _ => false) := by
  cases d with
  | any => exact absurd rfl n
  | non =>
    have e := rep_non h
    subst e
    rfl
  | bl b => have e := rep_bl h; subst e; rfl
  | int b => have e := rep_int h; subst e; rfl
  | str b => have e := rep_str h; subst e; rfl
  | exc c => obtain ⟨a, e, _⟩ := h; subst e; rfl
  | ty m => have e : v = .ty m := h; subst e; rfl
  | cls c => have e : v = .ref (G c) := h; subst e; rfl
  | node k o xs => obtain ⟨a, vs, e, _⟩ := h; subst e; rfl
def gIs : G2 := g2 isN
def gIsNot : G2 := g2 isnotN
theorem os_is : OpS X (compareOp .Is) gIs := by
  refine OpS.scal op_isN fun G ow H d e z l m v u Q h1 h2 e3 q => ?_
  cases e with
  | non =>
    refine ⟨rep_non h2, ?_⟩
    cases d with
    | any => cases e3
    | _ => cases e3; rw [rep_isnon h1 (fun z => nomatch z)]; exact q _ fun _ _ => rfl
  | _ => cases e3
theorem os_isnot : OpS X (compareOp .IsNot) gIsNot := by
  refine OpS.scal op_notN fun G ow H d e z l m v u Q h1 h2 e3 q => ?_
  cases e with
  | non =>
    refine ⟨rep_non h2, ?_⟩
    cases d with
    | any => cases e3
    | _ => cases e3; rw [rep_isnon h1 (fun z => nomatch z)]; exact q _ fun _ _ => rfl
  | _ => cases e3

def flatD : D → Bool
  | .non => true
  | .bl _ => true
  | .int _ => true
  | .str _ => true
  | _ => false
theorem toPys_map : ∀ xs : List D, toPys xs = xs.map toPy
  | [] => by simp [toPys]
  | d :: ds => by simp [toPys, toPys_map ds]
theorem flat_rep {d : D} {l : Loc} {v : V} (f : flatD d = true) (h : Rep G ow H d l v) : flatV v = true ∧ atom d = true := by
  cases d with
  | non => have e := rep_non h; subst e; exact ⟨rfl, rfl⟩
  | bl b => have e := rep_bl h; subst e; exact ⟨rfl, rfl⟩
  | int b => have e := rep_int h; subst e; exact ⟨rfl, rfl⟩
  | str b => have e := rep_str h; subst e; exact ⟨rfl, rfl⟩
  | _ => cases f
theorem flat_eq {d e : D} {l m : Loc} {v u : V} (f : flatD d = true) (g : flatD e = true) (h : Rep G ow H d l v) (h' : Rep G ow H e m u) : eqV v u = PyData.eqv (toPy d) (toPy e) := by
  cases d with
  | non =>
    have e1 := rep_non h; subst e1
    cases e with
    | non => have e2 := rep_non h'; subst e2; simp [eqV, toPy, PyData.eqv]
    | bl b => have e2 := rep_bl h'; subst e2; simp [eqV, toPy, PyData.eqv]
    | int b => have e2 := rep_int h'; subst e2; simp [eqV, toPy, PyData.eqv]
    | str b => have e2 := rep_str h'; subst e2; simp [eqV, toPy, PyData.eqv]
    | _ => cases g
  | bl b =>
    have e1 := rep_bl h; subst e1
    cases e with
    | non => have e2 := rep_non h'; subst e2; simp [eqV, toPy, PyData.eqv]
    | bl b => have e2 := rep_bl h'; subst e2; simp [eqV, toPy, PyData.eqv]
    | int b => have e2 := rep_int h'; subst e2; simp [eqV, toPy, PyData.eqv]
    | str b => have e2 := rep_str h'; subst e2; simp [eqV, toPy, PyData.eqv]
    | _ => cases g
  | int b =>
    have e1 := rep_int h; subst e1
    cases e with
    | non => have e2 := rep_non h'; subst e2; simp [eqV, toPy, PyData.eqv]
    | bl b => have e2 := rep_bl h'; subst e2; simp [eqV, toPy, PyData.eqv]
    | int b => have e2 := rep_int h'; subst e2; simp [eqV, toPy, PyData.eqv]
    | str b => have e2 := rep_str h'; subst e2; simp [eqV, toPy, PyData.eqv]
    | _ => cases g
  | str b =>
    have e1 := rep_str h; subst e1
    cases e with
    | non => have e2 := rep_non h'; subst e2; simp [eqV, toPy, PyData.eqv]
    | bl b => have e2 := rep_bl h'; subst e2; simp [eqV, toPy, PyData.eqv]
    | int b => have e2 := rep_int h'; subst e2; simp [eqV, toPy, PyData.eqv]
    | str b => have e2 := rep_str h'; subst e2; simp [eqV, toPy, PyData.eqv]
    | _ => cases g
  | _ => cases f
theorem flat_all : ∀ {xs : List D} {l : Loc} {i : Nat} {vs : List V}, xs.all flatD = true → Reps G ow H xs l i vs → vs.all flatV = true
  | [], _, _, vs, _, h => by
    have e : vs = [] := h
    subst e; rfl
  | d :: ds, l, i, vs, f, h => by
    obtain ⟨v, ws, e, h1, h2⟩ := h
    subst e
    rw [List.all_cons, Bool.and_eq_true] at f ⊢
    exact ⟨(flat_rep f.1 h1).1, flat_all f.2 h2⟩
theorem flat_any {d : D} {m : Loc} {v : V} (g : flatD d = true) (h' : Rep G ow H d m v) : ∀ {xs : List D} {l : Loc} {i : Nat} {vs : List V}, xs.all flatD = true → Reps G ow H xs l i vs → inV v vs = xs.any fun e => PyData.eqv (toPy e) (toPy d)
  | [], _, _, vs, _, h => by
    have e : vs = [] := h
    subst e; rfl
  | d' :: ds, l, i, vs, f, h => by
    obtain ⟨v', ws, e, h1, h2⟩ := h
    subst e
    rw [List.all_cons, Bool.and_eq_true] at f
    have z := flat_any g h' f.2 h2
    unfold inV at z ⊢
    rw [List.any_cons, List.any_cons, z, flat_eq f.1 g h1 h']
def inD (d e : D) : Option Bool := match e with
  | .node .lst _ xs => if (eqOk d && eqOk e) = true then some (xs.any fun z => PyData.eqv (toPy z) (toPy d)) else none
  | .node .tup _ xs => if (flatD d && xs.all flatD) = true then some (xs.any fun z => PyData.eqv (toPy z) (toPy d)) else none
  | .str b => (match d with
    | .str a => some (!(Builtin.Str.occurrences b a 0 b.length 1).isEmpty)
    | _ => none)
  | _ => none
def rInAll (K : PySem.W.Frag) (neg : Bool) : R2 := fun x y H Q => (if neg = true then rNotInD K x y H Q else rInD K x y H Q) ∨ rIn K neg x y H Q ∨ (∃ i j, x = .str i ∧ y = .str j ∧ Q (.bl (if neg then !(!(Builtin.Str.occurrences j i 0 j.length 1).isEmpty) else !(Builtin.Str.occurrences j i 0 j.length 1).isEmpty)) H)
theorem inD_ok {K : PySem.W.Frag} {d e : D} {l m : Loc} {v u : V} {b neg : Bool} {Q : VK} (h1 : Rep G ow H d l v) (h2 : Rep G ow H e m u) (e3 : inD d e = some b) (q : Q (.bl (if neg then !b else b)) H) : rInAll K neg v u H Q := by
  have deep : ∀ xs, e = .node .lst false xs ∨ e = .node .lst true xs → (eqOk d && eqOk e) = true → b = (xs.any fun z => PyData.eqv (toPy z) (toPy d)) → rInAll K neg v u H Q := fun xs he c eb => by
    rw [Bool.and_eq_true] at c
    have ep : toPy e = .list (toPys xs) := by rcases he with he | he <;> rw [he] <;> simp [toPy]
    have k1 := dp_of (K := K) d (SeqAt.canLay_of_shaped c.1) h1
    have k2 := dp_of (K := K) e (SeqAt.canLay_of_shaped c.2) h2
    have c2 : SeqAt.shaped (.list (toPys xs)) = true := by rw [← ep]; exact c.2
    rw [ep] at k2
    have ea : (toPys xs).any (fun z => PyData.eqv z (toPy d)) = b := by rw [toPys_map, List.any_map, eb]; rfl
    refine .inl ?_
    cases neg with
    | true => exact ⟨_, _, k1, k2, c.1, c2, by rw [ea]; exact q⟩
    | false => exact ⟨_, _, k1, k2, c.1, c2, by rw [ea]; exact q⟩
  unfold inD at e3
  split at e3
  · rename_i o xs
    split at e3
    · rename_i c
      cases e3
      exact deep xs (by cases o <;> simp) c rfl
    · cases e3
  · rename_i o xs
    split at e3
    · rename_i c
      rw [Bool.and_eq_true] at c
      cases e3
      obtain ⟨a, vs, eu, k1, _, k3⟩ := h2
      subst eu
      refine .inr (.inl ⟨a, vs, rfl, .inr (SqT.of k1), (flat_rep c.1 h1).1, flat_all c.2 k3, ?_⟩)
      rw [flat_any c.1 h1 c.2 k3]
      exact q
    · cases e3
  · rename_i z
    split at e3
    · rename_i a
      cases e3
      exact .inr (.inr ⟨a, z, rep_str h1, rep_str h2, q⟩)
    · cases e3
  · cases e3
def gIn : G2 := g2 fun d e => (inD d e).map .bl
def gNotIn : G2 := g2 fun d e => (inD d e).map fun b => .bl (!b)
theorem os_notin (hu : X.A.units + 65 < cLine) : OpS X (compareOp .NotIn) gNotIn := by
  have R : OpR X (compareOp .NotIn) (rInAll X.K true) := (op_notInD hu).or (op_notIn_seq.or op_notin_str)
  refine OpS.scal R fun G ow H d e z l m v u Q h1 h2 e3 q => ?_
  cases e4 : inD d e with
  | none => rw [e4] at e3; cases e3
  | some b =>
    rw [e4] at e3
    cases e3
    exact inD_ok (neg := true) h1 h2 e4 (q _ fun _ _ => rfl)

def tVT (G : GX) (C : Fc) (W : WX) (f : Ev) : TT := fun s H Q => ∃ r T, StOk G C r T s H ∧ match f r with
  | .ok (.val (.bl b)) r' => ∀ H', StOk G C r' T s H' → Q b H'
  | .exc c r' => ∀ H', StOk G C r' T s H' → W (.ref (G c)) none s H'
  | _ => False
abbrev VT (X : Cx) (G : GX) (C : Fc) (W : WX) (e : Expr) (f : Ev) : Prop := PT X e (tVT G C W f)
theorem PT.imp {e : Expr} {t t' : TT} (h : PT X e t) (i : ∀ s H Q, t' s H Q → t s H Q) : PT X e t' := ⟨fun pins s σ H Q I w => h.run pins s σ H Q I (i _ _ _ w)⟩
theorem PW.imp {e : Expr} {t t' : TT} (h : PW X e t) (i : ∀ s H Q, t' s H Q → t s H Q) : PW X e t' := ⟨fun wh pins s σ H Q I w => h.run wh pins s σ H Q I (i _ _ _ w)⟩
theorem tV_bl {f : Ev} {Q : Bool → Hp → Prop} (h : tVT G C W f s H Q) : tV G C W f s H fun v H' => ∃ k, v = .bl k ∧ Q k H' := by
  obtain ⟨r, T, S, h⟩ := h
  refine ⟨r, T, S, ?_⟩
  split at h
  · rename_i b r' e
    rw [e]
    exact fun v H' P => ⟨b, by
      obtain ⟨ow, S'⟩ := P.1
      exact S'.last, h H' P.any⟩
  · rename_i c r' e
    rw [e]
    exact h
  · exact h.elim
theorem vt_cmp {op : CmpOp} {g : G2} {a b : Expr} {pos : Pos} (ho : OpS X (compareOp op) g) (ha : VE X G C W a fa) (hb : VE X G C W b fb) (hm : behindInMarks op b = false) : VT X G C W (.Compare a [op] [b] pos) (cBin g fa fb) := by
  obtain ⟨rr, h1, h2⟩ := ho
  refine PT.imp (pt_cmpR h1 ha hb hm) fun s H Q h => ?_
  have z := tV_bl h
  obtain ⟨r, T, S, gg⟩ := z
  exact two S gg fun x y v u r2 H2 S2 lx ly g2 => h2 G C W r2 T s H2 x y v u _ S2 lx ly g2
def truthD : D → Option Bool
  | .non => some false
  | .bl b => some b
  | .int i => some (i != 0)
  | .str x => if x.length ≤ 16777216 then some ((x.length : Int) != 0) else none
  | .node .lst _ xs => some (!xs.isEmpty)
  | .node .tup _ xs => some (!xs.isEmpty)
  | .node (.dK _) _ xs => some (!xs.isEmpty)
  | _ => none
def cTru (fa : Ev) : Ev := fun r => (fa r).bd fun x r1 => match opd r1 x with
  | some d => (match truthD d with
    | some b => .ok (.val (.bl b)) r1
    | none => .bad)
  | none => .bad
theorem empty_reps {xs : List D} {l : Loc} {i : Nat} {vs : List V} (h : Reps G ow H xs l i vs) : (!xs.isEmpty) = !vs.isEmpty := by
  have := h.length
  cases xs <;> cases vs <;> simp at this ⊢
theorem truth_ok {K : PySem.W.Frag} {d : D} {l : Loc} {v : V} {b : Bool} (h : Rep G ow H d l v) (e : truthD d = some b) : TruV K v H b := by
  cases d with
  | non => have e1 := rep_non h; subst e1; cases e; rfl
  | bl k => have e1 := rep_bl h; subst e1; cases e; rfl
  | int k => have e1 := rep_int h; subst e1; cases e; rfl
  | str k =>
    have e1 := rep_str h; subst e1
    simp only [truthD] at e
    split at e
    · cases e; exact ⟨by rw [sizeLine_eq]; assumption, rfl⟩
    · cases e
  | any => cases e
  | exc c => cases e
  | ty c => cases e
  | cls c => cases e
  | node k o xs =>
    obtain ⟨a, vs, ev, h1, h2, h3⟩ := h
    subst ev
    cases k with
    | lst => cases e; exact .inl ⟨vs, SqL.of h1, empty_reps h3⟩
    | rd => cases e
    | tup => cases e; exact .inr (.inl ⟨vs, SqT.of h1, empty_reps h3⟩)
    | dK ks =>
      cases e
      refine .inr (.inr ⟨_, h1.1, ?_⟩)
      rw [empty_reps h3]
      have z := h1.2
      cases ks with
      | nil => cases vs with
        | nil => rfl
        | cons _ _ => cases z
      | cons _ _ => cases vs with
        | nil => cases z
        | cons _ _ => rfl
    | _ => cases e
theorem vt_truth {a : Expr} (ha : VE X G C W a fa) (he : ∀ whole, isTrue a X.env whole = (do let v ← whole; standAt a.pos; holding [v] (truthy v))) : VT X G C W a (cTru fa) := by
  refine PT.imp (pt_truth ha he) fun s H Q h => ?_
  obtain ⟨r, T, S, g⟩ := h
  refine ⟨r, T, S, ?_⟩
  unfold cTru at g
  cases e : fa r with
  | ok x r1 =>
    rw [e] at g
    simp only [bd_ok] at g
    intro v H' P
    cases e1 : opd r1 x with
    | none => rw [e1] at g; exact g.elim
    | some d =>
      rw [e1] at g
      cases e2 : truthD d with
      | none => simp only [e2] at g
      | some b =>
        simp only [e2] at g
        obtain ⟨ow, S'⟩ := P.1
        exact ⟨b, truth_ok (opd_rep (T2 := []) (by rw [List.append_nil]; exact S') P.2 e1) e2, g H' P.any⟩
  | exc c r1 => rw [e] at g; exact g
  | bad => rw [e] at g; exact g
theorem vt_val {a : Expr} (ha : VE X G C W a fa) (he : ∀ whole, isTrue a X.env whole = (do let v ← whole; standAt a.pos; holding [v] (truthy v))) : VT X G C W a fa := by
  refine PT.imp (pt_truth ha he) fun s H Q h => ?_
  have z := tV_bl h
  obtain ⟨r, T, S, g⟩ := z
  refine ⟨r, T, S, ?_⟩
  cases e : fa r with
  | ok x r1 =>
    rw [e] at g
    exact fun v H' P => by
      obtain ⟨k, ev, q⟩ := g v H' P
      subst ev
      exact ⟨k, rfl, q⟩
  | exc c r1 => rw [e] at g; exact g
  | bad => rw [e] at g; exact g
def cAnd (fa fb : Ev) : Ev := fun r => (fa r).bd fun x r1 => match x with
  | .val (.bl true) => fb r1
  | .val (.bl false) => .ok (.val (.bl false)) r1
  | _ => .bad
def cOr (fa fb : Ev) : Ev := fun r => (fa r).bd fun x r1 => match x with
  | .val (.bl true) => .ok (.val (.bl true)) r1
  | .val (.bl false) => fb r1
  | _ => .bad
def cNot (fa : Ev) : Ev := fun r => (fa r).bd fun x r1 => match x with
  | .val (.bl b) => .ok (.val (.bl (!b))) r1
  | _ => .bad
abbrev VW (X : Cx) (G : GX) (C : Fc) (W : WX) (e : Expr) (f : Ev) : Prop := PW X e (tVT G C W f)
theorem tVT_and {Q : Bool → Hp → Prop} (h : tVT G C W (cAnd fa fb) s H Q) : tAnd (tVT G C W fa) (tVT G C W fb) s H Q := by
  obtain ⟨r, T, S, g⟩ := h
  refine ⟨r, T, S, ?_⟩
  unfold cAnd at g
  cases e : fa r with
  | ok x r1 =>
    rw [e] at g
    simp only [bd_ok] at g
    split at g
    · rename_i b r' e'
      split at e'
      · exact fun H' S' => (if_pos rfl).mpr ⟨r1, T, S', by rw [e']; exact g⟩
      · cases e'
        exact fun H' S' => (if_neg Bool.false_ne_true).mpr (g H' S')
      · cases e'
    · rename_i c r' e'
      split at e'
      · exact fun H' S' => (if_pos rfl).mpr ⟨r1, T, S', by rw [e']; exact g⟩
      · cases e'
      · cases e'
    · exact g.elim
  | exc c r1 => rw [e] at g; exact g
  | bad => rw [e] at g; exact g
theorem tVT_or {Q : Bool → Hp → Prop} (h : tVT G C W (cOr fa fb) s H Q) : tOr (tVT G C W fa) (tVT G C W fb) s H Q := by
  obtain ⟨r, T, S, g⟩ := h
  refine ⟨r, T, S, ?_⟩
  unfold cOr at g
  cases e : fa r with
  | ok x r1 =>
    rw [e] at g
    simp only [bd_ok] at g
    split at g
    · rename_i b r' e'
      split at e'
      · cases e'
        exact fun H' S' => (if_pos rfl).mpr (g H' S')
      · exact fun H' S' => (if_neg Bool.false_ne_true).mpr ⟨r1, T, S', by rw [e']; exact g⟩
      · cases e'
    · rename_i c r' e'
      split at e'
      · cases e'
      · exact fun H' S' => (if_neg Bool.false_ne_true).mpr ⟨r1, T, S', by rw [e']; exact g⟩
      · cases e'
    · exact g.elim
  | exc c r1 => rw [e] at g; exact g
  | bad => rw [e] at g; exact g
theorem vw_and1 {a : Expr} {pos : Pos} (ha : VT X G C W a fa) : VW X G C W (.BoolOp .And [a] pos) fa := pw_and1 ha
theorem vw_or1 {a : Expr} {pos : Pos} (ha : VT X G C W a fa) : VW X G C W (.BoolOp .Or [a] pos) fa := pw_or1 ha
theorem vw_and {a b : Expr} {rest : List Expr} {pos : Pos} (ha : VT X G C W a fa) (hb : VW X G C W (.BoolOp .And (b :: rest) pos) fb) : VW X G C W (.BoolOp .And (a :: b :: rest) pos) (cAnd fa fb) :=
  PW.imp (pw_and ha hb) fun _ _ _ h => tVT_and h
theorem vw_or {a b : Expr} {rest : List Expr} {pos : Pos} (ha : VT X G C W a fa) (hb : VW X G C W (.BoolOp .Or (b :: rest) pos) fb) : VW X G C W (.BoolOp .Or (a :: b :: rest) pos) (cOr fa fb) :=
  PW.imp (pw_or ha hb) fun _ _ _ h => tVT_or h
theorem VW.pt {e : Expr} {f : Ev} (h : VW X G C W e f) : VT X G C W e f := L2.PW.pt h
theorem vt_not {a : Expr} {pos : Pos} (ha : VT X G C W a fa) : VT X G C W (.UnaryOp .Not a pos) (cNot fa) := by
  refine PT.imp (pt_not ha) fun s H Q h => ?_
  obtain ⟨r, T, S, g⟩ := h
  refine ⟨r, T, S, ?_⟩
  unfold cNot at g
  cases e : fa r with
  | ok x r1 =>
    rw [e] at g
    simp only [bd_ok] at g
    split at g
    · rename_i b r' e'
      split at e'
      · rename_i k
        cases e'
        exact g
      · cases e'
    · rename_i c r' e'
      split at e' <;> cases e'
    · exact g.elim
  | exc c r1 => rw [e] at g; exact g
  | bad => rw [e] at g; exact g
theorem ve_one {op : BoolOp} {a : Expr} {pos : Pos} (ha : VE X G C W a fa) : VE X G C W (.BoolOp op [a] pos) fa := pe_one ha
theorem ve_and {a b : Expr} {rest : List Expr} {pos : Pos} (ha : VE X G C W a fa) (hb : VE X G C W (.BoolOp .And (b :: rest) pos) fb) : VE X G C W (.BoolOp .And (a :: b :: rest) pos) (cAnd fa fb) := by
  refine PE.imp (pe_and ha hb) fun s H Q h => ?_
  obtain ⟨r, T, S, g⟩ := h
  refine one S g fun x v r1 H1 P g1 => ?_
  split at g1
  · obtain ⟨ow, S'⟩ := P.1
    have e := rep_bl S'.last
    subst e
    exact ⟨true, rfl, (if_pos rfl).mpr ⟨r1, T, P.any, g1⟩⟩
  · obtain ⟨ow, S'⟩ := P.1
    have e := rep_bl S'.last
    subst e
    exact ⟨false, rfl, (if_neg Bool.false_ne_true).mpr (g1 _ _ ⟨P.any.pushB false, trivial⟩)⟩
  · exact g1.elim
theorem ve_or {a b : Expr} {rest : List Expr} {pos : Pos} (ha : VE X G C W a fa) (hb : VE X G C W (.BoolOp .Or (b :: rest) pos) fb) : VE X G C W (.BoolOp .Or (a :: b :: rest) pos) (cOr fa fb) := by
  refine PE.imp (pe_or ha hb) fun s H Q h => ?_
  obtain ⟨r, T, S, g⟩ := h
  refine one S g fun x v r1 H1 P g1 => ?_
  split at g1
  · obtain ⟨ow, S'⟩ := P.1
    have e := rep_bl S'.last
    subst e
    exact ⟨true, rfl, (if_pos rfl).mpr (g1 _ _ ⟨P.any.pushB true, trivial⟩)⟩
  · obtain ⟨ow, S'⟩ := P.1
    have e := rep_bl S'.last
    subst e
    exact ⟨false, rfl, (if_neg Bool.false_ne_true).mpr ⟨r1, T, P.any, g1⟩⟩
  · exact g1.elim
def cNeg (fa : Ev) : Ev := fun r => (fa r).bd fun x r1 => match x with
  | .val (.int i) => .ok (.val (.int (-i))) r1
  | _ => .bad
end
end VL

namespace VL
open PySem PySem.Spec PyProof.Rows L2
section
variable {X : Cx} {G : GX} {C : Fc} {W : WX} {ow ow' : Ow} {r : Rho} {T T1 T2 : List (D × V)} {s : L2.St} {H H' : Hp} {fa fb fc : Ev}
theorem oneX {k : R → Rho → EO} {Q : VK} {K : V → Hp → Prop} (S : StOk G C r (T ++ T2) s H) (h : Goes G C W T s Q ((fa r).bd k))
    (hk : ∀ x v r1 H1, Post G C r1 (T ++ T2) s H1 x v → Goes G C W T s Q (k x r1) → K v H1) : tV G C W fa s H K := by
  refine ⟨r, T ++ T2, S, ?_⟩
  cases e : fa r with
  | ok x r1 =>
    rw [e] at h
    exact fun v H1 P => hk x v r1 H1 P h
  | exc c r1 => rw [e] at h; exact fun H' S' => h H' S'.drop
  | bad => rw [e] at h; exact h
def cSet (fa : Ev) : Ev := fun r => (fa r).bd fun x r1 => match x with
  | .val d => .ok (.val d) r1
  | .loc i => (match opd r1 (.loc i) with
    | some d => .ok (.val (frz d)) (settle r1 (.loc i))
    | none => .bad)
theorem ve_set {e : Expr} (h : VE X G C W e fa) : VE X G C W e (cSet fa) := by
  refine PE.imp h fun s H Q h => ?_
  obtain ⟨r, T, S, g⟩ := h
  refine ⟨r, T, S, ?_⟩
  unfold cSet at g
  cases e : fa r with
  | ok x r1 =>
    rw [e] at g
    simp only [bd_ok] at g
    intro v H' P
    cases x with
    | val d => exact g v H' P
    | loc i =>
      cases e1 : opd r1 (.loc i) with
      | none => simp only [e1] at g
      | some d =>
        simp only [e1] at g
        have q := opd_loc e1
        rw [settle_loc q] at g
        obtain ⟨⟨ow, S'⟩, l⟩ := P
        have S' : StW G C ow r1 T s H' := by simpa [pushR] using S'
        have hlt : i < r1.length := (List.getElem?_eq_some_iff.mp q).1
        have S2 := S'.frzSl q
        exact g v H' ⟨⟨_, S2.copy (j := i) (d := frz d) (by rw [List.getElem?_set_self hlt]) (frz_frz d) l⟩, trivial⟩
  | exc c r1 => rw [e] at g; exact g
  | bad => rw [e] at g; exact g

def pick (r : Rho) (x : R) (d : D) : EO := if atom d = true then .ok (.val d) r else .ok (.val (frz d)) (touch r x)
def gIx : G2 := fun x y r => match opd r x, opd r y with
  | some (.node .lst _ xs), some (.int i) => (match atI xs i with | some d => pick r x d | none => .bad)
  | some (.node .rd _ xs), some (.int i) => (match atI xs i with | some d => pick r x d | none => .bad)
  | some (.node .tup _ xs), some (.int i) => (match atI xs i with | some d => pick r x d | none => .bad)
  | some (.str z), some (.int i) => if z.length ≤ 16777216 then (match atI z.cps.toList i with | some c => .ok (.val (.str ⟨#[c]⟩)) r | none => .bad) else .bad
  | _, _ => .bad
theorem atI_len {α β : Type} {xs : List α} {ys : List β} {i : Int} {d : α} (hl : xs.length = ys.length) (h : atI xs i = some d) : ∃ j : Nat, xs[j]? = some d ∧ ∀ y, ys[j]? = some y → atI ys i = some y := by
  unfold atI at h ⊢
  rw [← hl]
  cases e : ixN xs.length i with
  | none => rw [e] at h; cases h
  | some j =>
    rw [e] at h
    exact ⟨j, h, fun y hy => hy⟩
theorem frzs_get {xs : List D} {j : Nat} {d : D} (h : xs[j]? = some d) : (frzs xs)[j]? = some (frz d) := by
  rw [frzs_map, List.getElem?_map, h]; rfl
theorem pick_ok {x y : R} {v u : V} {k : Kd} {o : Bool} {xs : List D} {i : Int} {d : D} {Q : VK} (S : StW G C ow r (T ++ (pushR x v ++ pushR y u)) s H) (lx : LocOk s v x) (e1 : opd r x = some (.node k o xs)) (ei : atI xs i = some d) (q : Goes G C W T s Q (pick r x d)) :
    ∃ a vs w, v = .ref a ∧ Holds G H a k vs ∧ atI vs i = some w ∧ Q w H := by
  by_cases a : atom d = true
  · obtain ⟨p, vs, ev, h1, h2, h3⟩ := opd_rep S lx e1
    obtain ⟨j, ej, hj⟩ := atI_len h3.length ei
    obtain ⟨w, ew, rw'⟩ := h3.get j d ej
    unfold pick at q
    rw [if_pos a] at q
    exact ⟨p, vs, w, ev, h1, hj w ew, goes_val q ⟨ow, S.drop⟩ a fun _ _ => rw'.of_atom a⟩
  · obtain ⟨ow', p, vs, S', ev, h1, rx, _⟩ := StW.parts (T := T) (StW.drop (T := T ++ pushR x v) (T2 := pushR y u) (by rw [List.append_assoc]; exact S)) lx e1
    have l1 := (rx ⟨.fo, []⟩).length
    rw [frzs_length] at l1
    obtain ⟨j, ej, hj⟩ := atI_len l1 ei
    obtain ⟨w, ew, rw'⟩ := (rx ⟨.fo, []⟩).get j (frz d) (frzs_get ej)
    unfold pick at q
    rw [if_neg a] at q
    exact ⟨p, vs, w, ev, h1, hj w ew, q w H ⟨⟨ow', S'.push (Rep.moveF _ (frz_frz d) (fun a o z q => ⟨z, q⟩) (fun _ _ z _ => z) rw')⟩, trivial⟩⟩
theorem ve_ix {a b : Expr} {pos : Pos} (hK : G.K = X.K) (ha : VE X G C W a fa) (hb : VE X G C W b fb) (hs : PlainIx b) : VE X G C W (.Subscript a b pos) (cBin gIx fa fb) := by
  refine PE.imp (pe_ix ix_seq ha hb hs) fun s H Q h => ?_
  obtain ⟨r, T, S, g⟩ := h
  refine two S g fun x y v u r2 H2 S2 lx ly q => ?_
  obtain ⟨ow, S2⟩ := S2
  have i2 : ∀ i, opd r2 y = some (.int i) → u = .int i := fun i e2 => opd_rep (T := T ++ pushR x v) (T2 := []) (by rw [List.append_nil, List.append_assoc]; exact S2) ly e2
  unfold gIx at q
  split at q
  · rename_i o xs i e1 e2
    split at q
    · rename_i d ei
      obtain ⟨p, vs, w, ev, h1, h2, h3⟩ := pick_ok S2 lx e1 ei q
      subst ev
      exact .inl ⟨p, vs, i, w, rfl, i2 i e2, SqL.of h1, h2, h3⟩
    · exact q.elim
  · rename_i o xs i e1 e2
    split at q
    · rename_i d ei
      obtain ⟨p, vs, w, ev, h1, h2, h3⟩ := pick_ok S2 lx e1 ei q
      subst ev
      exact .inl ⟨p, vs, i, w, rfl, i2 i e2, hK ▸ h1.seq, h2, h3⟩
    · exact q.elim
  · rename_i o xs i e1 e2
    split at q
    · rename_i d ei
      obtain ⟨p, vs, w, ev, h1, h2, h3⟩ := pick_ok S2 lx e1 ei q
      subst ev
      exact .inr (.inl ⟨p, vs, i, w, rfl, i2 i e2, SqT.of h1, h2, h3⟩)
    · exact q.elim
  · rename_i z i e1 e2
    split at q
    · rename_i hz
      split at q
      · rename_i c ec
        have a1 := opd_rep S2 lx e1
        exact .inr (.inr ⟨z, i, c, a1, i2 i e2, by rw [sizeLine_eq]; exact hz, ec, goes_val q ⟨ow, S2.drop⟩ rfl fun _ _ => rfl⟩)
      · exact q.elim
    · exact q.elim
  · exact q.elim

def part (f : Option Ev) (r : Rho) (k : Option Int → Rho → EO) : EO := match f with
  | none => k none r
  | some f => (f r).bd fun y r' => match y with
    | .val (.int i) => k (some i) r'
    | _ => .bad
abbrev VO (X : Cx) (G : GX) (C : Fc) (W : WX) (e : Option Expr) (f : Option Ev) : Prop := ∃ t, PO X e t ∧ ∀ (r : Rho) (T T2 : List (D × V)) (s : L2.St) (H : Hp) (Q : VK) (K : Option Int → Hp → Prop) (k : Option Int → Rho → EO),
  StOk G C r (T ++ T2) s H → Goes G C W T s Q (part f r k) → (∀ i r1 H1, StOk G C r1 (T ++ T2) s H1 → Goes G C W T s Q (k i r1) → K i H1) → t s H K
theorem vo_none : VO X G C W none none := ⟨_, po_none, fun r T T2 s H Q K k S g h => h none r H S g⟩
theorem vo_some {e : Expr} (h : VE X G C W e fa) : VO X G C W (some e) (some fa) := by
  refine ⟨_, po_some h, fun r T T2 s H Q K k S g hk => ?_⟩
  refine oneX (k := fun y r' => match y with | .val (.int i) => k (some i) r' | _ => .bad) S g fun x v r1 H1 P g1 => ?_
  cases x with
  | loc i => exact g1.elim
  | val d =>
    cases d with
    | int i =>
      obtain ⟨ow, S'⟩ := P.1
      exact ⟨i, rep_int S'.last, hk (some i) r1 H1 P.any g1⟩
    | _ => exact g1.elim
def cutD (xs : List D) (lo hi : Option Int) : List D := (xs.drop (HT.sIx xs.length 0 lo)).take (HT.sIx xs.length xs.length hi - HT.sIx xs.length 0 lo)
def gSl (x : R) (lo hi : Option Int) (r : Rho) : EO := match opd r x with
  | some (.node .lst _ xs) => .ok (.val (.node .lst true (cutD (frzs xs) lo hi))) (touch r x)
  | some (.node .rd _ xs) => .ok (.val (.node .lst true (cutD (frzs xs) lo hi))) (touch r x)
  | some (.node .tup _ xs) => .ok (.val (.node .tup false (cutD (frzs xs) lo hi))) (touch r x)
  | _ => .bad
def cSl (fa : Ev) (lo hi : Option Ev) : Ev := fun r => (fa r).bd fun x r1 => part lo r1 fun l r2 => part hi r2 fun h r3 => gSl x l h r3
theorem frzs_take (xs : List D) (n : Nat) : frzs (xs.take n) = (frzs xs).take n := by rw [frzs_map, frzs_map, List.map_take]
theorem frzs_drop (xs : List D) (n : Nat) : frzs (xs.drop n) = (frzs xs).drop n := by rw [frzs_map, frzs_map, List.map_drop]
theorem Reps.cut {ds : List D} {l : Loc} {vs : List V} (e : VL.frzs ds = ds) (h : Reps G ow H ds l 0 vs) (lo hi : Option Int) : Reps G ow H (cutD ds lo hi) l 0 (cutV vs lo hi) ∧ VL.frzs (cutD ds lo hi) = cutD ds lo hi := by
  have hl := h.length
  unfold cutD cutV
  rw [← hl]
  generalize HT.sIx ds.length 0 lo = a
  generalize HT.sIx ds.length ds.length hi - a = b
  refine ⟨Reps.of_get (by simp [hl]) fun j d v q1 q2 => ?_, by rw [frzs_take, frzs_drop, e]⟩
  have hj : j < b := by
    have := (List.getElem?_eq_some_iff.mp q1).1
    simp at this; omega
  rw [List.getElem?_take_of_lt hj, List.getElem?_drop] at q1 q2
  obtain ⟨v', z1, z2⟩ := h.get (a + j) d q1
  rw [q2] at z1
  cases z1
  have f : VL.frz d = d := by
    have := congrArg (·[a + j]?) e
    simp only [frzs_map, List.getElem?_map, q1, Option.map_some] at this
    exact Option.some.inj this
  exact Rep.moveF d f (fun a o z q => ⟨z, q⟩) (fun _ _ z _ => z) z2
theorem StW.madeT {ds : List D} {vs : List V} {l : Loc} {i : Nat} {Q : VK} (S : StW G C ow r T s H) (e : frzs ds = ds) (h : Reps G ow H ds l i vs) (hq : ∀ v H', Post G C r T s H' (.val (.node .tup false ds)) v → Q v H') :
    ∀ p, H p = none → Q (.ref p) (upd H p (.tup vs)) := fun p hp =>
  hq _ _ ⟨StOk.alloc false ⟨ow, S.pushFs e h⟩ h.length hp holds_tup (fun z => nomatch z), trivial⟩
theorem ve_slice {a : Expr} {lo hi : Option Expr} {flo fhi : Option Ev} {p2 pos : Pos} (hK : G.K = X.K) (ha : VE X G C W a fa) (hl : VO X G C W lo flo) (hh : VO X G C W hi fhi) : VE X G C W (.Subscript a (.Slice lo hi none p2) pos) (cSl fa flo fhi) := by
  obtain ⟨tl, l1, l2⟩ := hl
  obtain ⟨th, h1, h2⟩ := hh
  refine PE.imp (pe_slice (sl_list.or sl_tupA) ha l1 h1) fun s H Q h => ?_
  obtain ⟨r, T, S, g⟩ := h
  refine one S g fun x v r1 H1 P g1 => ?_
  refine l2 r1 T (pushR x v) s H1 _ _ _ P.1 g1 fun lo' r2 H2 S2 g2 => ?_
  refine h2 r2 T (pushR x v) s H2 _ _ _ S2 g2 fun hi' r3 H3 S3 g3 => ?_
  obtain ⟨ow, S3⟩ := S3
  unfold gSl at g3
  split at g3
  · rename_i o xs e1
    obtain ⟨ow', p, vs, S', ev, h1, rx, _⟩ := S3.parts P.2 e1
    subst ev
    obtain ⟨c1, c2⟩ := (rx ⟨.fo, []⟩).cut (frzs_frzs xs) lo' hi'
    exact .inl ⟨p, vs, rfl, SqL.of h1, S'.made c2 c1 g3⟩
  · rename_i o xs e1
    obtain ⟨ow', p, vs, S', ev, h1, rx, _⟩ := S3.parts P.2 e1
    subst ev
    obtain ⟨c1, c2⟩ := (rx ⟨.fo, []⟩).cut (frzs_frzs xs) lo' hi'
    exact .inl ⟨p, vs, rfl, hK ▸ h1.seq, S'.made c2 c1 g3⟩
  · rename_i o xs e1
    obtain ⟨ow', p, vs, S', ev, h1, rx, _⟩ := S3.parts P.2 e1
    subst ev
    obtain ⟨c1, c2⟩ := (rx ⟨.fo, []⟩).cut (frzs_frzs xs) lo' hi'
    have l1 := (rx ⟨.fo, []⟩).length
    refine .inr ⟨p, vs, rfl, SqT.of h1, fun hw => ?_, fun _ => S'.madeT c2 c1 g3⟩
    have ec : cutD (frzs xs) lo' hi' = frzs xs := by
      unfold cutD
      rw [l1, hw.1, hw.2, List.drop_zero, Nat.sub_zero, ← l1, List.take_length]
    rw [ec] at g3
    have n : ow' p = none := by
      cases e : ow' p with
      | none => rfl
      | some l =>
        have m := S'.mu p l e
        rw [show H3 p = some (.tup vs) from h1] at m
        exact m.elim
    exact g3 _ _ ⟨⟨ow', S'.push ⟨p, vs, rfl, h1, n, rx _⟩⟩, trivial⟩
  · exact g3.elim
end
end VL

namespace VL
open PySem PySem.Spec PyProof.Rows L2

inductive AO where
  | ok (xs : List R) (r : Rho) | exc (c : Nat) (r : Rho) | bad
abbrev Av := Rho → AO
def pushs : List R → List V → List (D × V)
  | x :: xs, v :: vs => pushR x v ++ pushs xs vs
  | _, _ => []
def LocsOk (s : L2.St) : List R → List V → Prop
  | [], [] => True
  | x :: xs, v :: vs => LocOk s v x ∧ LocsOk s xs vs
  | _, _ => False
def AO.bd (x : AO) (k : List R → Rho → EO) : EO := match x with
  | .ok y r => k y r
  | .exc c r => .exc c r
  | .bad => .bad
@[simp] theorem abd_ok (y : List R) (r : Rho) (k : List R → Rho → EO) : (AO.ok y r).bd k = k y r := rfl
@[simp] theorem abd_exc (c : Nat) (r : Rho) (k : List R → Rho → EO) : (AO.exc c r).bd k = .exc c r := rfl
@[simp] theorem abd_bad (k : List R → Rho → EO) : AO.bad.bd k = .bad := rfl
def cNil : Av := fun r => .ok [] r
def cCons (fa : Ev) (fs : Av) : Av := fun r => match fa r with
  | .ok x r1 => (match fs r1 with
    | .ok xs r2 => .ok (x :: xs) r2
    | .exc c r2 => .exc c r2
    | .bad => .bad)
  | .exc c r1 => .exc c r1
  | .bad => .bad
def opds (r : Rho) : List R → Option (List D)
  | [] => some []
  | x :: xs => match opd r x, opds r xs with
    | some d, some ds => some (d :: ds)
    | _, _ => none
def settles (r : Rho) : List R → Rho
  | [] => r
  | x :: xs => settles (settle r x) xs
section
variable {X : Cx} {G : GX} {C : Fc} {W : WX} {ow ow' : Ow} {r : Rho} {T T1 T2 : List (D × V)} {s : L2.St} {H H' : Hp} {fa fb fc : Ev} {fs : Av}
def tVA (G : GX) (C : Fc) (W : WX) (f : Av) : TA := fun s H Q => ∃ r T, StOk G C r T s H ∧ match f r with
  | .ok xs r' => ∀ vs H', StOk G C r' (T ++ pushs xs vs) s H' → LocsOk s xs vs → Q vs H'
  | .exc c r' => ∀ H', StOk G C r' T s H' → W (.ref (G c)) none s H'
  | .bad => False
abbrev VA (X : Cx) (G : GX) (C : Fc) (W : WX) (es : List Expr) (f : Av) : Prop := PA X es (tVA G C W f)
theorem PA.imp {es : List Expr} {t t' : TA} (h : PA X es t) (i : ∀ s H Q, t' s H Q → t s H Q) : PA X es t' := ⟨fun pos pins s σ H Q I w => h.run pos pins s σ H Q I (i _ _ _ w)⟩
theorem va_nil : VA X G C W [] cNil := by
  refine PA.imp pa_nil fun s H Q h => ?_
  obtain ⟨r, T, S, g⟩ := h
  exact g [] H (by simpa [pushs] using S) trivial
theorem va_cons {e : Expr} {es : List Expr} (he : VE X G C W e fa) (hr : VA X G C W es fs) (hs : starEach (e :: es) X.env = (false, eval e X.env) :: starEach es X.env := by rfl) : VA X G C W (e :: es) (cCons fa fs) := by
  refine PA.imp (pa_cons he hr hs) fun s H Q h => ?_
  obtain ⟨r, T, S, g⟩ := h
  refine ⟨r, T, S, ?_⟩
  unfold cCons at g
  cases e1 : fa r with
  | ok x r1 =>
    rw [e1] at g
    intro v H1 P
    refine ⟨r1, T ++ pushR x v, P.1, ?_⟩
    cases e2 : fs r1 with
    | ok xs r2 =>
      simp only [e2] at g
      intro vs H2 S2 l2
      exact g (v :: vs) H2 (by show StOk G C r2 (T ++ (pushR x v ++ pushs xs vs)) s H2; rw [← List.append_assoc]; exact S2) ⟨P.2, l2⟩
    | exc c r2 => simp only [e2] at g; exact fun H' S' => g H' S'.drop
    | bad => simp only [e2] at g
  | exc c r1 => rw [e1] at g; exact g
  | bad => rw [e1] at g; exact g
theorem many {k : List R → Rho → EO} {Q : VK} {K : List V → Hp → Prop} (S : StOk G C r (T ++ T2) s H) (h : Goes G C W T s Q ((fs r).bd k))
    (hk : ∀ xs vs r1 H1, StOk G C r1 (T ++ T2 ++ pushs xs vs) s H1 → LocsOk s xs vs → Goes G C W T s Q (k xs r1) → K vs H1) : tVA G C W fs s H K := by
  refine ⟨r, T ++ T2, S, ?_⟩
  cases e : fs r with
  | ok xs r1 =>
    rw [e] at h
    exact fun vs H1 S1 l1 => hk xs vs r1 H1 S1 l1 h
  | exc c r1 => rw [e] at h; exact fun H' S' => h H' S'.drop
  | bad => rw [e] at h; exact h

theorem frz_opd_settle {x y : R} {d : D} (e : opd r y = some d) : ∃ d', opd (settle r x) y = some d' ∧ frz d' = frz d := by
  cases y with
  | val z => exact ⟨d, e, rfl⟩
  | loc j =>
    have q := opd_loc e
    cases x with
    | val z => exact ⟨d, e, rfl⟩
    | loc i =>
      by_cases hij : i = j
      · subst hij
        rw [settle_loc q]
        refine ⟨frz d, ?_, frz_frz d⟩
        show (match (r.set i (some (frz d)))[i]? with | some (some d) => some d | _ => none) = _
        rw [List.getElem?_set_self (List.getElem?_eq_some_iff.mp q).1]
      · refine ⟨d, ?_, rfl⟩
        cases q' : r[i]? with
        | none =>
          have z : settle r (.loc i) = r := by show (match r[i]? with | some (some d) => r.set i (some (frz d)) | _ => r) = _; rw [q']
          rw [z]; exact e
        | some o' =>
          cases o' with
          | none =>
            have z : settle r (.loc i) = r := by show (match r[i]? with | some (some d) => r.set i (some (frz d)) | _ => r) = _; rw [q']
            rw [z]; exact e
          | some d' =>
            rw [settle_loc q']
            show (match (r.set i (some (frz d')))[j]? with | some (some d) => some d | _ => none) = _
            rw [List.getElem?_set_ne hij, q]
theorem frzs_opds_settle {x : R} : ∀ {ys : List R} {ds : List D}, opds r ys = some ds → ∃ ds', opds (settle r x) ys = some ds' ∧ frzs ds' = frzs ds
  | [], ds, e => ⟨ds, e, rfl⟩
  | y :: ys, ds, e => by
    unfold opds at e
    cases e1 : opd r y with
    | none => rw [e1] at e; cases e
    | some d =>
      cases e2 : opds r ys with
      | none => rw [e1, e2] at e; cases e
      | some ds' =>
        rw [e1, e2] at e
        cases e
        obtain ⟨d1, h1, h2⟩ := frz_opd_settle (x := x) e1
        obtain ⟨ds1, h3, h4⟩ := frzs_opds_settle (x := x) e2
        refine ⟨d1 :: ds1, by unfold opds; rw [h1, h3], ?_⟩
        show frz d1 :: frzs ds1 = frz d :: frzs ds'
        rw [h2, h4]
theorem StW.settles : ∀ {xs : List R} {vs : List V} {ow : Ow} {r : Rho} {T : List (D × V)} {ds : List D}, StW G C ow r (T ++ pushs xs vs) s H → LocsOk s xs vs → opds r xs = some ds →
    ∃ ow', StW G C ow' (VL.settles r xs) T s H ∧ (∀ l i, Reps G ow' H (frzs ds) l i vs) ∧ (∀ a, ow a = none → ow' a = none) ∧ ∀ a l, ow' a = some l → ow a = some l
  | [], [], ow, r, T, ds, S, _, e => by
    cases e
    exact ⟨ow, by have z : StW G C ow r T s H := by (simpa [pushs] using S)
                  exact z, fun l i => rfl, fun _ h => h, fun _ _ h => h⟩
  | [], _ :: _, _, _, _, _, _, l, _ => l.elim
  | _ :: _, [], _, _, _, _, _, l, _ => l.elim
  | x :: xs, v :: vs, ow, r, T, ds, S, l, e => by
    unfold opds at e
    cases e1 : opd r x with
    | none => rw [e1] at e; cases e
    | some d =>
      cases e2 : opds r xs with
      | none => rw [e1, e2] at e; cases e
      | some ds' =>
        rw [e1, e2] at e
        cases e
        cases x with
        | val d0 =>
          cases e1
          have S1 := StW.frzTm (T1 := T) (T2 := pushs xs vs) (d := d) (v := v) S
          have S2 : StW G C (VL.free ow (.tm T.length)) r ((T ++ [(frz d, v)]) ++ pushs xs vs) s H := by simpa using S1
          obtain ⟨ow', S3, h1, h2, h3⟩ := StW.settles S2 l.2 e2
          refine ⟨ow', S3.drop, fun l' i => ⟨v, vs, rfl, ?_, h1 _ _⟩, fun a q => h2 a (free_none q), fun a m q => (of_free (h3 a m q)).1⟩
          have z := S3.tm T.length (frz d) v (by simp)
          exact Rep.moveF _ (frz_frz d) (fun a o z q => ⟨z, q⟩) (fun _ _ z _ => z) z
        | loc i =>
          have q := opd_loc e1
          have S1 : StW G C ow r (T ++ pushs xs vs) s H := by simpa [pushs, pushR] using S
          have S2 := S1.frzSl q
          have hs : settle r (.loc i) = r.set i (some (frz d)) := settle_loc q
          obtain ⟨ds1, g1, g2⟩ := frzs_opds_settle (x := .loc i) e2
          rw [hs] at g1
          obtain ⟨ow', S3, h1, h2, h3⟩ := StW.settles S2 l.2 g1
          refine ⟨ow', by show StW G C ow' (VL.settles (settle r (.loc i)) xs) T s H; rw [hs]; exact S3, fun l' j => ⟨v, vs, rfl, ?_, ?_⟩, fun a q => h2 a (free_none q), fun a m q => (of_free (h3 a m q)).1⟩
          · obtain ⟨v', z1, z2⟩ := S2.sl i (frz d) (by rw [List.getElem?_set_self (List.getElem?_eq_some_iff.mp q).1])
            have h' : s[i]? = some (some v) := l.1
            rw [h'] at z1
            cases z1
            exact Rep.moveF _ (frz_frz d) (fun a o z q => ⟨z, h2 a q⟩) (fun _ _ z _ => z) z2
          · rw [g2] at h1
            exact h1 _ _
theorem LocsOk.length {s : L2.St} : ∀ {xs : List R} {vs : List V}, LocsOk s xs vs → xs.length = vs.length
  | [], [], _ => rfl
  | [], _ :: _, l => l.elim
  | _ :: _, [], l => l.elim
  | _ :: xs, _ :: vs, l => by simp [LocsOk.length l.2]

def valsR : List R → Option (List D)
  | [] => some []
  | .val d :: xs => (match valsR xs with
    | some ds => some (d :: ds)
    | none => none)
  | .loc _ :: _ => none
theorem pushs_vals : ∀ {xs : List R} {vs : List V} {ds : List D}, LocsOk s xs vs → valsR xs = some ds → pushs xs vs = ds.zip vs ∧ ds.length = vs.length
  | [], [], _, _, e => by cases e; exact ⟨rfl, rfl⟩
  | [], _ :: _, _, l, _ => l.elim
  | _ :: _, [], _, l, _ => l.elim
  | .val d :: xs, v :: vs, ds, l, e => by
    unfold valsR at e
    cases e2 : valsR xs with
    | none => rw [e2] at e; cases e
    | some ds' =>
      rw [e2] at e
      cases e
      obtain ⟨h1, h2⟩ := pushs_vals l.2 e2
      refine ⟨?_, by simp [h2]⟩
      show [(d, v)] ++ pushs xs vs = _
      rw [h1]
      rfl
  | .loc _ :: _, _ :: _, _, _, e => by cases e
def cLst (fs : Av) : Ev := fun r => (fs r).bd fun xs r1 => match valsR xs with
  | some ds => if ds.length ≤ 16777216 then .ok (.val (.node .lst true ds)) r1 else .bad
  | none => .bad
def cTup (fs : Av) : Ev := fun r => (fs r).bd fun xs r1 => match valsR xs with
  | some ds => if ds.length ≤ 16777216 then .ok (.val (.node .tup false ds)) r1 else .bad
  | none => .bad
theorem ve_lst {es : List Expr} {pos : Pos} (h : VA X G C W es fs) : VE X G C W (.List es pos) (cLst fs) := by
  refine PE.imp (pe_lst h) fun s H Q h => ?_
  obtain ⟨r, T, S, g⟩ := h
  refine many (T2 := []) (by simpa using S) g fun xs vs r1 H1 S1 l1 g1 => ?_
  cases e : valsR xs with
  | none => simp only [e] at g1; exact g1.elim
  | some ds =>
    simp only [e] at g1
    split at g1
    · rename_i hz
      obtain ⟨p1, p2⟩ := pushs_vals l1 e
      rw [p1, List.append_nil] at S1
      exact ⟨by rw [← p2, sizeLine_eq]; exact hz, fun p hp => g1 _ _ ⟨StOk.alloc true S1 p2 hp holds_lst (fun _ => trivial), trivial⟩⟩
    · exact g1.elim
theorem ve_tup {es : List Expr} {k : Nat} {pos : Pos} (h : VA X G C W es fs) : VE X G C W (.Tuple es k pos) (cTup fs) := by
  refine PE.imp (pe_tup h) fun s H Q h => ?_
  obtain ⟨r, T, S, g⟩ := h
  refine many (T2 := []) (by simpa using S) g fun xs vs r1 H1 S1 l1 g1 => ?_
  cases e : valsR xs with
  | none => simp only [e] at g1; exact g1.elim
  | some ds =>
    simp only [e] at g1
    split at g1
    · rename_i hz
      obtain ⟨p1, p2⟩ := pushs_vals l1 e
      rw [p1, List.append_nil] at S1
      exact ⟨by rw [← p2, sizeLine_eq]; exact hz, fun p hp => g1 _ _ ⟨StOk.alloc false S1 p2 hp holds_tup (fun z => nomatch z), trivial⟩⟩
    · exact g1.elim

def CallS (X : Cx) (f : Value) (g : List R → Rho → EO) : Prop := ∃ rr, CallR X f rr ∧ ∀ (G : GX) (hG : G.K = X.K) (C : Fc) (W : WX) (r : Rho) (T : List (D × V)) (s : L2.St) (H : Hp) (xs : List R) (vs : List V) (Q : VK),
  StOk G C r (T ++ pushs xs vs) s H → LocsOk s xs vs → Goes G C W T s Q (g xs r) → rr vs H Q
def cB (g : List R → Rho → EO) (fs : Av) : Ev := fun r => (fs r).bd g
section
variable {x : Str} {p pos : Pos} {e : Expr} {es : List Expr} {id TT : String}
theorem ve_callB {g : List R → Rho → EO} (hK : G.K = X.K) (hc : CallS X (.builtin id) g) (hg : Gl X x) (hm : X.mg x = none) (hv : bootBuiltins x = some (.builtin id)) (ha : VA X G C W (e :: es) fs) (hn : x ≠ "__name__" := by decide) (hdb : (x == ("__debug__" : Str)) = false := by decide)
    (he : starEach (e :: es) X.env = (false, eval e X.env) :: starEach es X.env := by rfl) (hpl : (backTo pos (starEach es X.env)).any (·.1) = false := by rfl) : VE X G C W (.Call (.Name x p) (e :: es) [] pos) (cB g fs) := by
  obtain ⟨rr, h1, h2⟩ := hc
  refine PE.imp (pe_callB h1 hg hm hv ha hn hdb he hpl) fun s H Q h => ?_
  obtain ⟨r, T, S, g⟩ := h
  exact many (T2 := []) (by simpa using S) g fun xs vs r1 H1 S1 l1 g1 => h2 G hK C W r1 T s H1 xs vs Q (by simpa using S1) l1 g1
theorem ve_callTy {g : List R → Rho → EO} (hK : G.K = X.K) (hc : CallS X (.type TT) g) (hg : Gl X x) (hm : X.mg x = none) (hv : bootBuiltins x = some (.type TT)) (ha : VA X G C W (e :: es) fs) (hn : x ≠ "__name__" := by decide) (hdb : (x == ("__debug__" : Str)) = false := by decide)
    (he : starEach (e :: es) X.env = (false, eval e X.env) :: starEach es X.env := by rfl) (hpl : (backTo pos (starEach es X.env)).any (·.1) = false := by rfl) : VE X G C W (.Call (.Name x p) (e :: es) [] pos) (cB g fs) := by
  obtain ⟨rr, h1, h2⟩ := hc
  refine PE.imp (pe_callTy h1 hg hm hv ha hn hdb he hpl) fun s H Q h => ?_
  obtain ⟨r, T, S, g⟩ := h
  exact many (T2 := []) (by simpa using S) g fun xs vs r1 H1 S1 l1 g1 => h2 G hK C W r1 T s H1 xs vs Q (by simpa using S1) l1 g1
end
def b1 (f : D → Option D) : List R → Rho → EO := fun xs r => match xs with
  | [x] => (match opd r x with
    | some d => (match f d with
      | some z => if atom z = true then .ok (.val z) r else .bad
      | none => .bad)
    | none => .bad)
  | _ => .bad
theorem one_arg {x : R} {vs : List V} (l : LocsOk s [x] vs) : ∃ v, vs = [v] ∧ LocOk s v x ∧ pushs [x] vs = pushR x v := by
  cases vs with
  | nil => exact l.elim
  | cons v vs =>
    cases vs with
    | nil => exact ⟨v, rfl, l.1, by simp [pushs]⟩
    | cons _ _ => exact l.2.elim
theorem CallS.scal {f : Value} {rr : List V → Hp → VK → Prop} {g : D → Option D} (h : CallR X f rr)
    (hr : ∀ (G : GX) (hG : G.K = X.K) (ow : Ow) (H : Hp) (d z : D) (l : Loc) (v : V) (Q : VK), Rep G ow H d l v → g d = some z → (∀ w, (∀ ow l, Rep G ow H z l w) → Q w H) → rr [v] H Q) : CallS X f (b1 g) := by
  refine ⟨rr, h, fun G hG C W r T s H xs vs Q S l q => ?_⟩
  unfold b1 at q
  split at q
  · rename_i x
    obtain ⟨v, ev, lx, ep⟩ := one_arg l
    rw [ep] at S
    subst ev
    obtain ⟨ow, S⟩ := S
    cases e1 : opd r x with
    | none => simp only [e1] at q; exact q.elim
    | some d =>
      simp only [e1] at q
      cases e2 : g d with
      | none => simp only [e2] at q; exact q.elim
      | some z =>
        simp only [e2] at q
        split at q
        · rename_i a
          refine hr G hG ow H d z _ v Q (opd_rep (T2 := []) (by rw [List.append_nil]; exact S) lx e1) e2 fun w hw => ?_
          exact q w H ⟨StOk.pushA ⟨ow, S.drop⟩ a hw, trivial⟩
        · exact q.elim
  · exact q.elim
def lenD : D → Option D
  | .node .lst _ xs => some (.int xs.length)
  | .node .rd _ xs => some (.int xs.length)
  | .node .tup _ xs => some (.int xs.length)
  | .str z => if z.length ≤ 16777216 then some (.int z.length) else none
  | _ => none
theorem cs_len : CallS X (.builtin "len") (b1 lenD) := by
  refine CallS.scal call_len fun G hG ow H d z l v Q h e q => ?_
  cases d with
  | node k o xs =>
    obtain ⟨a, vs, ev, h1, h2, h3⟩ := h
    subst ev
    have hl := h3.length
    cases k with
    | lst => cases e; exact ⟨_, vs.length, rfl, .inl ⟨vs, SqL.of h1, rfl⟩, by rw [← hl]; exact q _ fun _ _ => rfl⟩
    | rd => cases e; exact ⟨_, vs.length, rfl, .inl ⟨vs, hG ▸ h1.seq, rfl⟩, by rw [← hl]; exact q _ fun _ _ => rfl⟩
    | tup => cases e; exact ⟨_, vs.length, rfl, .inr ⟨vs, SqT.of h1, rfl⟩, by rw [← hl]; exact q _ fun _ _ => rfl⟩
    | _ => cases e
  | str x =>
    have ev := rep_str h
    subst ev
    simp only [lenD] at e
    split at e
    · cases e; exact ⟨_, x.length, rfl, ⟨by rw [sizeLine_eq]; assumption, rfl⟩, q _ fun _ _ => rfl⟩
    · cases e
  | _ => cases e
def gListOf : List R → Rho → EO := fun xs r => match xs with
  | [x] => (match opd r x with
    | some (.node .lst _ xs) => .ok (.val (.node .lst true (frzs xs))) (touch r x)
    | some (.node .rd _ xs) => .ok (.val (.node .lst true (frzs xs))) (touch r x)
    | some (.node .tup _ xs) => .ok (.val (.node .lst true (frzs xs))) (touch r x)
    | _ => .bad)
  | _ => .bad
theorem cs_list : CallS X (.type "list") gListOf := by
  refine ⟨_, call_list_of, fun G hG C W r T s H xs vs Q S l q => ?_⟩
  unfold gListOf at q
  split at q
  · rename_i x
    obtain ⟨v, ev, lx, ep⟩ := one_arg l
    rw [ep] at S
    subst ev
    obtain ⟨ow, S⟩ := S
    split at q
    · rename_i o xs e1
      obtain ⟨ow', p, vs, S', ev, h1, rx, _⟩ := S.parts lx e1
      subst ev
      exact ⟨p, vs, rfl, .inl (SqL.of h1), S'.made (frzs_frzs xs) (rx ⟨.fo, []⟩) q⟩
    · rename_i o xs e1
      obtain ⟨ow', p, vs, S', ev, h1, rx, _⟩ := S.parts lx e1
      subst ev
      exact ⟨p, vs, rfl, .inl (hG ▸ h1.seq), S'.made (frzs_frzs xs) (rx ⟨.fo, []⟩) q⟩
    · rename_i o xs e1
      obtain ⟨ow', p, vs, S', ev, h1, rx, _⟩ := S.parts lx e1
      subst ev
      exact ⟨p, vs, rfl, .inr (SqT.of h1), S'.made (frzs_frzs xs) (rx ⟨.fo, []⟩) q⟩
    · exact q.elim
  · exact q.elim
def b2 (f : Int → Int → Int) : List R → Rho → EO := fun xs r => match xs with
  | [x, y] => (match opd r x, opd r y with
    | some (.int i), some (.int j) => .ok (.val (.int (f i j))) r
    | _, _ => .bad)
  | _ => .bad
theorem cs_int2 {f : Value} {g : Int → Int → Int} (h : CallR X f (fun xs H Q => ∃ i j, xs = [.int i, .int j] ∧ Q (.int (g i j)) H)) : CallS X f (b2 g) := by
  refine ⟨_, h, fun G hG C W r T s H xs vs Q S l q => ?_⟩
  unfold b2 at q
  split at q
  · rename_i x y
    cases vs with
    | nil => exact l.elim
    | cons v vs =>
      cases vs with
      | nil => exact l.2.elim
      | cons u vs =>
        cases vs with
        | cons _ _ => exact l.2.2.elim
        | nil =>
          obtain ⟨ow, S⟩ := S
          have S' : StW G C ow r (T ++ (pushR x v ++ pushR y u)) s H := by simpa [pushs] using S
          split at q
          · rename_i i j e1 e2
            have a1 := opd_rep S' l.1 e1
            have a2 := opd_rep (T := T ++ pushR x v) (T2 := []) (by rw [List.append_nil, List.append_assoc]; exact S') l.2.1 e2
            exact ⟨i, j, by rw [show v = .int i from a1, show u = .int j from a2], goes_val q ⟨ow, S.drop⟩ rfl fun _ _ => rfl⟩
          · exact q.elim
  · exact q.elim
def gMax2 := b2 fun i j => if j > i then j else i
def gMin2 := b2 fun i j => if j < i then j else i
theorem cs_min2 (hc : X.calm = true) : CallS X (.builtin "min") gMin2 := cs_int2 (call_min2 hc)
def intD : D → Option D
  | .int i => some (.int i)
  | .bl k => some (.int (if k then 1 else 0))
  | _ => none
def intsOf : List D → Option (List Int)
  | [] => some []
  | .int i :: ds => (match intsOf ds with
    | some ns => some (i :: ns)
    | none => none)
  | _ :: _ => none
theorem intsOf_map (ns : List Int) : intsOf (ns.map D.int) = some ns := by
  induction ns with
  | nil => rfl
  | cons n ns ih => show (match intsOf (ns.map D.int) with | some ms => some (n :: ms) | none => none) = _; rw [ih]
def sumD : D → Option D
  | .node .lst _ xs => (intsOf xs).map fun ns => .int ns.sum
  | .node .rd _ xs => (intsOf xs).map fun ns => .int ns.sum
  | _ => none
end
end VL

namespace VL
open PySem PySem.Spec PyProof.Rows L2

inductive SO where
  | nx (r : Rho) | rt (x : R) (r : Rho) | bk (r : Rho) | ct (r : Rho) | exc (c : Nat) (r : Rho) | bad
abbrev Sv := Rho → SO
def EO.st (x : EO) (k : R → Rho → SO) : SO := match x with
  | .ok y r => k y r
  | .exc c r => .exc c r
  | .bad => .bad
@[simp] theorem st_ok (y : R) (r : Rho) (k : R → Rho → SO) : (EO.ok y r).st k = k y r := rfl
@[simp] theorem st_exc (c : Nat) (r : Rho) (k : R → Rho → SO) : (EO.exc c r).st k = .exc c r := rfl
@[simp] theorem st_bad (k : R → Rho → SO) : EO.bad.st k = .bad := rfl
def GoesS (G : GX) (C : Fc) (W : WX) (T : List (D × V)) (D : Ends) (o : SO) : Prop := match o with
  | .nx r' => ∀ s' H', StOk G C r' T s' H' → D.nx s' H'
  | .rt x r' => ∀ s' v H', Post G C r' T s' H' x v → D.rt v H'
  | .bk r' => ∀ s' H', StOk G C r' T s' H' → D.bk s' H'
  | .ct r' => ∀ s' H', StOk G C r' T s' H' → D.ct s' H'
  | .exc c r' => ∀ s' H', StOk G C r' T s' H' → W (.ref (G c)) none s' H'
  | .bad => False
def tVS (G : GX) (C : Fc) (W : WX) (f : Sv) : TS := fun D s H => ∃ r T, StOk G C r T s H ∧ GoesS G C W T D (f r)
abbrev VS (X : Cx) (G : GX) (C : Fc) (W : WX) (st : Stmt) (f : Sv) : Prop := PS X st (tVS G C W f)
abbrev VSs (X : Cx) (G : GX) (C : Fc) (W : WX) (st : List Stmt) (f : Sv) : Prop := PSs X st (tVS G C W f)
section
variable {X : Cx} {G : GX} {C : Fc} {W : WX} {ow ow' : Ow} {r : Rho} {T T1 T2 : List (D × V)} {s : L2.St} {H H' : Hp} {fa fb fc : Ev} {f g : Sv}
theorem PS.imp {st : Stmt} {t t' : TS} (h : PS X st t) (i : ∀ D s H, t' D s H → t D s H) : PS X st t' := ⟨fun pins s σ H D I w => h.run pins s σ H D I (i _ _ _ w)⟩
theorem PSs.imp {st : List Stmt} {t t' : TS} (h : PSs X st t) (i : ∀ D s H, t' D s H → t D s H) : PSs X st t' := ⟨fun pins s σ H D I w => h.run pins s σ H D I (i _ _ _ w)⟩
theorem oneS {k : R → Rho → SO} {D : Ends} {K : V → Hp → Prop} (S : StOk G C r T s H) (h : GoesS G C W T D ((fa r).st k))
    (hk : ∀ x v r1 H1, Post G C r1 T s H1 x v → GoesS G C W T D (k x r1) → K v H1) : tV G C W fa s H K := by
  refine ⟨r, T, S, ?_⟩
  cases e : fa r with
  | ok x r1 => rw [e] at h; exact fun v H1 P => hk x v r1 H1 P h
  | exc c r1 => rw [e] at h; exact fun H' S' => h s H' S'
  | bad => rw [e] at h; exact h

def cSkip : Sv := fun r => .nx r
def SO.sq (x : SO) (g : Sv) : SO := match x with
  | .nx r => g r
  | o => o
@[simp] theorem sq_nx (r : Rho) (g : Sv) : (SO.nx r).sq g = g r := rfl
@[simp] theorem sq_rt (x : R) (r : Rho) (g : Sv) : (SO.rt x r).sq g = .rt x r := rfl
@[simp] theorem sq_bk (r : Rho) (g : Sv) : (SO.bk r).sq g = .bk r := rfl
@[simp] theorem sq_ct (r : Rho) (g : Sv) : (SO.ct r).sq g = .ct r := rfl
@[simp] theorem sq_exc (c : Nat) (r : Rho) (g : Sv) : (SO.exc c r).sq g = .exc c r := rfl
@[simp] theorem sq_bad (g : Sv) : SO.bad.sq g = .bad := rfl
def cSeq (f g : Sv) : Sv := fun r => (f r).sq g
theorem vss_nil : VSs X G C W [] cSkip := PSs.imp pss_nil fun D s H ⟨r, T, S, h⟩ => h s H S
theorem vss_cons {st : Stmt} {rest : List Stmt} (h1 : VS X G C W st f) (h2 : VSs X G C W rest g) : VSs X G C W (st :: rest) (cSeq f g) := by
  refine PSs.imp (pss_cons h1 h2) fun D s H h => ?_
  obtain ⟨r, T, S, h⟩ := h
  refine ⟨r, T, S, ?_⟩
  unfold cSeq at h
  cases e : f r with
  | nx r1 => rw [e] at h; exact fun s' H' S' => ⟨r1, T, S', h⟩
  | rt x r1 => rw [e] at h; exact h
  | bk r1 => rw [e] at h; exact h
  | ct r1 => rw [e] at h; exact h
  | exc c r1 => rw [e] at h; exact h
  | bad => rw [e] at h; exact h
theorem vss_one {st : Stmt} (h1 : VS X G C W st f) : VSs X G C W [st] f := pss_one h1
def cBrk : Sv := fun r => .bk r
def cCnt : Sv := fun r => .ct r
def cExpr (fa : Ev) : Sv := fun r => (fa r).st fun _ r1 => .nx r1
theorem vs_expr {e : Expr} {pos : Pos} (he : VE X G C W e fa) (hs : swapsWith e none pos.line X.env = pure false := by rfl) : VS X G C W (.Expr e pos) (cExpr fa) := by
  refine PS.imp (ps_expr he hs) fun D s H h => ?_
  obtain ⟨r, T, S, h⟩ := h
  exact oneS S h fun x v r1 H1 P h1 => h1 s H1 P.any
def cRet (fa : Ev) : Sv := fun r => (fa r).st fun x r1 => .rt x r1
theorem vs_ret {e : Expr} {pos : Pos} (he : VE X G C W e fa) : VS X G C W (.Return (some e) pos) (cRet fa) := by
  refine PS.imp (ps_ret he) fun D s H h => ?_
  obtain ⟨r, T, S, h⟩ := h
  exact oneS S h fun x v r1 H1 P h1 => h1 s v H1 P
def cIfS (ft : Ev) (f g : Sv) : Sv := fun r => (ft r).st fun x r1 => match x with
  | .val (.bl true) => f r1
  | .val (.bl false) => g r1
  | _ => .bad
theorem vs_if {c : Expr} {a b : List Stmt} {pos : Pos} (hc : VT X G C W c fc) (ha : VSs X G C W a f) (hb : VSs X G C W b g) : VS X G C W (.If c a b pos) (cIfS fc f g) := by
  refine PS.imp (ps_if hc ha hb) fun D s H h => ?_
  obtain ⟨r, T, S, h⟩ := h
  refine ⟨r, T, S, ?_⟩
  unfold cIfS at h
  cases e : fc r with
  | ok x r1 =>
    rw [e] at h
    simp only [st_ok] at h
    cases x with
    | loc i => exact h.elim
    | val d =>
      cases d with
      | bl b =>
        cases b with
        | true => exact fun H' S' => (if_pos rfl).mpr ⟨r1, T, S', h⟩
        | false => exact fun H' S' => (if_neg Bool.false_ne_true).mpr ⟨r1, T, S', h⟩
      | _ => exact h.elim
  | exc c r1 => rw [e] at h; exact fun H' S' => h s H' S'
  | bad => rw [e] at h; exact h

def movedM (ow : Ow) (n i : Nat) : Ow := fun a => match ow a with
  | some ⟨.tm j, p⟩ => if j = n then some ⟨.sl i, p⟩ else if n < j then some ⟨.tm (j - 1), p⟩ else some ⟨.tm j, p⟩
  | some ⟨.sl j, p⟩ => if j = i then none else some ⟨.sl j, p⟩
  | x => x
theorem StW.setM {i : Nat} {d : D} {v : V} (S : StW G C ow r (T ++ (d, v) :: T2) s H) (hp : ∀ p ∈ C.pin, p.1 ≠ i) : StW G C (movedM ow T.length i) (r.set i (some d)) (T ++ T2) (s.set i (some v)) H where
  len := by simpa using S.len
  sl := fun j d' q => by
    by_cases hj : j = i
    · subst hj
      have hlt : j < r.length := by
        have := (List.getElem?_eq_some_iff.mp q).1
        simpa using this
      rw [List.getElem?_set_self hlt] at q
      cases q
      refine ⟨v, by rw [List.getElem?_set_self (by rw [← S.len]; exact hlt)], ?_⟩
      have z := S.tm T.length d v (by simp)
      refine Rep.mono (l := ⟨.tm T.length, []⟩) d (fun _ _ z _ => z) (fun _ _ z _ => z) (fun a o _ n => by unfold movedM; rw [n]) (fun a o q _ n => ?_) z
      have n' : ow a = some ⟨.tm T.length, [] ++ q⟩ := n
      unfold movedM
      rw [n']
      simp [Loc.app]
    · rw [List.getElem?_set_ne (Ne.symm hj)] at q
      obtain ⟨v', h1, h2⟩ := S.sl j d' q
      refine ⟨v', by rw [List.getElem?_set_ne (Ne.symm hj)]; exact h1, ?_⟩
      refine Rep.mono (l := ⟨.sl j, []⟩) d' (fun _ _ z _ => z) (fun _ _ z _ => z) (fun a o _ n => by unfold movedM; rw [n]) (fun a o q _ n => ?_) h2
      have n' : ow a = some ⟨.sl j, [] ++ q⟩ := n
      unfold movedM
      rw [n']
      simp [Loc.app, hj]
  tm := fun k d' v' q => by
    by_cases hk : k < T.length
    · rw [List.getElem?_append_left hk] at q
      have z := S.tm k d' v' (by rw [List.getElem?_append_left hk]; exact q)
      refine Rep.mono (l := ⟨.tm k, []⟩) d' (fun _ _ z _ => z) (fun _ _ z _ => z) (fun a o _ n => by unfold movedM; rw [n]) (fun a o q _ n => ?_) z
      have n' : ow a = some ⟨.tm k, [] ++ q⟩ := n
      unfold movedM
      rw [n']
      have h1 : ¬ k = T.length := by omega
      have h2 : ¬ T.length < k := by omega
      simp [Loc.app, h1, h2]
    · rw [List.getElem?_append_right (by omega)] at q
      have z := S.tm (k + 1) d' v' (by
        rw [List.getElem?_append_right (by omega), show k + 1 - T.length = (k - T.length) + 1 by omega]
        simpa using q)
      refine Rep.mono (l := ⟨.tm (k + 1), []⟩) d' (fun _ _ z _ => z) (fun _ _ z _ => z) (fun a o _ n => by unfold movedM; rw [n]) (fun a o q _ n => ?_) z
      have n' : ow a = some ⟨.tm (k + 1), [] ++ q⟩ := n
      unfold movedM
      rw [n']
      have h1 : ¬ k + 1 = T.length := by omega
      have h2 : T.length < k + 1 := by omega
      simp [Loc.app, h1, h2]
  old := S.old
  own := fun a l q => by
    cases e : ow a with
    | none => unfold movedM at q; rw [e] at q; cases q
    | some m =>
      obtain ⟨mb, mp⟩ := m
      cases mb with
      | fo =>
        unfold movedM at q; rw [e] at q; cases q
        exact .inl rfl
      | sl j => exact (S.own a _ e).elim (fun z => nomatch z) .inr
      | tm j => exact (S.own a _ e).elim (fun z => nomatch z) .inr
  fo := fun a q => by
    have z := S.fo a q
    unfold movedM; rw [z]
  mu := fun a l q => by
    cases e : ow a with
    | none => unfold movedM at q; rw [e] at q; cases q
    | some m => exact S.mu a m e
  pin := fun p hm => by
    rw [List.getElem?_set_ne (Ne.symm (hp p hm))]
    exact S.pin p hm
  tabs := S.tabs
def spread (ow : Ow) (n : Nat) : Ow := fun a => match ow a with
  | some ⟨.tm j, p⟩ => if j < n then some ⟨.tm j, p⟩ else if j = n then (match p with
    | k :: p' => some ⟨.tm (n + k), p'⟩
    | [] => none) else none
  | x => x
theorem StW.spread {k : Kd} {o : Bool} {ds : List D} {v : V} (S : StW G C ow r (T ++ [(.node k o ds, v)]) s H) : ∃ a vs, v = .ref a ∧ Holds G H a k vs ∧ ds.length = vs.length ∧ StW G C (VL.spread ow T.length) r (T ++ ds.zip vs) s H := by
  obtain ⟨a, vs, ev, h1, h2, h3⟩ := S.last
  refine ⟨a, vs, ev, h1, h3.length, S.len, fun i d q => ?_, fun j d v q => ?_, S.old, fun b l q => ?_, fun b q => ?_, fun b l q => ?_, S.pin, S.tabs⟩
  · obtain ⟨v', z1, z2⟩ := S.sl i d q
    refine ⟨v', z1, Rep.mono (l := ⟨.sl i, []⟩) d (fun _ _ z _ => z) (fun _ _ z _ => z) (fun a o _ n => by unfold VL.spread; rw [n]) (fun a o q _ n => ?_) z2⟩
    have n' : ow a = some ⟨.sl i, [] ++ q⟩ := n
    unfold VL.spread
    rw [n']
    rfl
  · by_cases hj : j < T.length
    · rw [List.getElem?_append_left hj] at q
      have z := S.tm j d v (by rw [List.getElem?_append_left hj]; exact q)
      refine Rep.mono (l := ⟨.tm j, []⟩) d (fun _ _ z _ => z) (fun _ _ z _ => z) (fun a o _ n => by unfold VL.spread; rw [n]) (fun a o q _ n => ?_) z
      have n' : ow a = some ⟨.tm j, [] ++ q⟩ := n
      unfold VL.spread
      rw [n']
      simp [Loc.app, hj]
    · rw [List.getElem?_append_right (by omega)] at q
      obtain ⟨q1, q2⟩ := List.getElem?_zip_eq_some.mp q
      obtain ⟨v', z1, z2⟩ := h3.get (j - T.length) d q1
      rw [q2] at z1
      cases z1
      refine Rep.mono (l := Loc.sub ⟨.tm T.length, []⟩ (0 + (j - T.length))) d (fun _ _ z _ => z) (fun _ _ z _ => z) (fun a o _ n => by unfold VL.spread; rw [n]) (fun a o q _ n => ?_) z2
      have n' : ow a = some ⟨.tm T.length, (j - T.length) :: q⟩ := by
        rw [n]; simp [Loc.sub, Loc.app]
      unfold VL.spread
      rw [n']
      simp [Loc.app]
      omega
  · cases e : ow b with
    | none => unfold VL.spread at q; rw [e] at q; cases q
    | some m =>
      obtain ⟨mb, mp⟩ := m
      cases mb with
      | fo =>
        unfold VL.spread at q; rw [e] at q; cases q
        exact .inl rfl
      | sl j => exact (S.own b _ e).elim (fun z => nomatch z) .inr
      | tm j => exact (S.own b _ e).elim (fun z => nomatch z) .inr
  · have z := S.fo b q
    unfold VL.spread; rw [z]
  · cases e : ow b with
    | none => unfold VL.spread at q; rw [e] at q; cases q
    | some m => exact S.mu b m e

inductive Tg where
  | nm (i : Nat) | tp (is : List Nat) | tl (is : List Nat) | tn (i : Nat) (js : List Nat)
def setAll (r : Rho) : List Nat → List D → Rho
  | i :: is, d :: ds => setAll (r.set i (some d)) is ds
  | _, _ => r
def tgt : Tg → D → Rho → Option Rho
  | .nm i, d, r => some (r.set i (some d))
  | .tp is, .node .tup _ ds, r => if is.length = ds.length then some (setAll r is ds) else none
  | .tl is, .node .lst _ ds, r => if is.length = ds.length then some (setAll r is ds) else none
  | .tn i js, .node .tup _ [d, .node .tup _ ds], r => if js.length = ds.length then some (setAll (r.set i (some d)) js ds) else none
  | _, _, _ => none
def Tg.slots : Tg → List Nat
  | .nm i => [i]
  | .tp is => is
  | .tl is => is
  | .tn i js => i :: js
def But (is : List Nat) (s s' : L2.St) : Prop := s'.length = s.length ∧ ∀ j, j ∉ is → s'[j]? = s[j]?
theorem But.refl {is : List Nat} {s : L2.St} : But is s s := ⟨rfl, fun _ _ => rfl⟩
theorem But.set {i : Nat} {x : Option V} {s : L2.St} : But [i] s (s.set i x) := ⟨by simp, fun j h => List.getElem?_set_ne (fun e => h (by simp [e]))⟩
theorem But.cons {i : Nat} {is : List Nat} {x : Option V} {s s' : L2.St} (h : But is (s.set i x) s') : But (i :: is) s s' :=
  ⟨h.1.trans (by simp), fun j n => (h.2 j (fun z => n (List.mem_cons_of_mem _ z))).trans (List.getElem?_set_ne (fun e => n (by simp [e])))⟩
def tVG (G : GX) (C : Fc) (t : Tg) : TG := fun v s H Q => ∃ r T d, StOk G C r (T ++ [(d, v)]) s H ∧ match tgt t d r with
  | some r' => ∀ s' H', StOk G C r' T s' H' → But t.slots s s' → Q s' H'
  | none => False
abbrev VG (X : Cx) (G : GX) (C : Fc) (e : Expr) (t : Tg) : Prop := PG X e (tVG G C t)
theorem PG.imp {e : Expr} {t t' : TG} (h : PG X e t) (i : ∀ v s H Q, t' v s H Q → t v s H Q) : PG X e t' := ⟨fun pins s σ H v u Q I rr w => h.run pins s σ H v u Q I rr (i _ _ _ _ w)⟩
theorem vg_name {i : Nat} {x : Str} {pos : Pos} (hN : X.N.Nodup) (hi : X.N[i]? = some x) (hx : L2.Loc X.env.scope x) (hp : ∀ p ∈ C.pin, p.1 ≠ i) (hf : X.fn x = true ∨ X.env.scope.names.lookup x = some .local := by first | exact .inl rfl | exact .inr rfl | assumption) : VG X G C (.Name x pos) (.nm i) := by
  refine PG.imp (pg_name hN hi hx hf) fun v s H Q h => ?_
  obtain ⟨r, T, d, S, h⟩ := h
  exact h _ _ (S.set hp) But.set
def tVGs (G : GX) (C : Fc) (is : List Nat) : TGs := fun vs s H Q => ∃ r T ds, ds.length = vs.length ∧ is.length = ds.length ∧ StOk G C r (T ++ ds.zip vs) s H ∧ ∀ s' H', StOk G C (setAll r is ds) T s' H' → But is s s' → Q s' H'
abbrev VGs (X : Cx) (G : GX) (C : Fc) (es : List Expr) (is : List Nat) : Prop := PGs X es (tVGs G C is)
theorem vgs_nil : VGs X G C [] [] := by
  refine ⟨fun pins s σ H vs us Q I rr h => pgs_nil.run pins s σ H vs us Q I rr ?_⟩
  obtain ⟨r, T, ds, h1, h2, S, h⟩ := h
  have e1 : ds = [] := List.eq_nil_of_length_eq_zero h2.symm
  subst e1
  have e2 : vs = [] := List.eq_nil_of_length_eq_zero h1.symm
  subst e2
  have S' : StOk G C r T σ H := by simpa using S
  exact ⟨rfl, h _ _ S' But.refl⟩
theorem vgs_cons {i : Nat} {x : Str} {pos : Pos} {es : List Expr} {is : List Nat} (hN : X.N.Nodup) (hi : X.N[i]? = some x) (hx : L2.Loc X.env.scope x) (hp : ∀ p ∈ C.pin, p.1 ≠ i) (h2 : VGs X G C es is)
    (hf : X.fn x = true ∨ X.env.scope.names.lookup x = some .local := by first | exact .inl rfl | exact .inr rfl | assumption)
    (hs : (assignEach (.Name x pos :: es) X.env).map (·.2) = assign (.Name x pos) X.env :: (assignEach es X.env).map (·.2) := by rfl) : VGs X G C (.Name x pos :: es) (i :: is) := by
  refine ⟨fun pins s σ H vs us Q I rr h => (pgs_cons (pg_name hN hi hx hf) h2 hs).run pins s σ H vs us Q I rr ?_⟩
  obtain ⟨r, T, ds, h1, h2, S, h⟩ := h
  cases ds with
  | nil => cases h2
  | cons d ds =>
    cases vs with
    | nil => cases h1
    | cons v vs =>
      refine ⟨v, vs, rfl, r.set i (some d), T, ds, by simpa using h1, by simpa using h2, ?_, fun s' H' S' b => h s' H' S' b.cons⟩
      obtain ⟨ow, S⟩ := S
      exact ⟨_, StW.setM (T := T) (T2 := ds.zip vs) S hp⟩
theorem vg_tup {es : List Expr} {is : List Nat} {k : Nat} {pos : Pos} (hc : X.calm = true) (h : VGs X G C es is)
    (hn : (assignEach es X.env).length = is.length := by rfl) (hst : (assignEach es X.env).findIdx? (·.1) = none := by rfl) : VG X G C (.Tuple es k pos) (.tp is) := by
  refine PG.imp (pg_tup hc h hn hst) fun v s H Q h => ?_
  obtain ⟨r, T, d, S, h⟩ := h
  obtain ⟨ow, S⟩ := S
  cases d with
  | node k o ds =>
    cases k with
    | tup =>
      obtain ⟨a, vs, ev, h1, h2, S'⟩ := S.spread
      by_cases hl : is.length = ds.length
      · have e : tgt (.tp is) (.node .tup o ds) r = some (setAll r is ds) := if_pos hl
        rw [e] at h
        exact ⟨a, vs, ev, SqT.of h1, by rw [← h2]; exact hl.symm, r, T, ds, h2, hl, ⟨_, S'⟩, h⟩
      · have e : tgt (.tp is) (.node .tup o ds) r = none := if_neg hl
        rw [e] at h
        exact h.elim
    | _ => exact h.elim
  | _ => exact h.elim
def asgK (t : Tg) (x : R) (r1 : Rho) : SO := match x with
  | .val d => (match tgt t d r1 with
    | some r2 => .nx r2
    | none => .bad)
  | .loc _ => .bad
@[simp] theorem asgK_nm (i : Nat) (d : D) (r : Rho) : asgK (.nm i) (.val d) r = .nx (r.set i (some d)) := rfl
def cAsg (t : Tg) (fa : Ev) : Sv := fun r => (cSet fa r).st (asgK t)
theorem asg_go {t : Tg} {D : Ends} {v : V} {x : R} {r1 : Rho} {H1 : Hp} (P : Post G C r1 T s H1 x v) (h : GoesS G C W T D (asgK t x r1)) : tVG G C t v s H1 D.nx := by
  cases x with
  | loc i => exact h.elim
  | val d =>
    refine ⟨r1, T, d, P.1, ?_⟩
    unfold asgK at h
    cases e : tgt t d r1 with
    | some r2 => simp only [e] at h ⊢; exact fun s' H' S' _ => h s' H' S'
    | none => simp only [e] at h; exact h.elim
theorem vs_asg {tg e : Expr} {t : Tg} {pos : Pos} (he : VE X G C W e fa) (hg : VG X G C tg t) (hs : swapsWithSole [tg] e pos.line X.env = pure false := by rfl) (hw : swappedStores [tg] e X.env = pure none := by rfl)
    (h1 : (assignEach [tg] X.env).map (·.2) = [assign tg X.env] := by rfl) : VS X G C W (.Assign [tg] e pos) (cAsg t fa) := by
  refine PS.imp (ps_asg (ve_set he) hg hs hw h1) fun D s H h => ?_
  obtain ⟨r, T, S, h⟩ := h
  exact oneS (fa := cSet fa) S h fun x v r1 H1 P g => asg_go P g
theorem vs_set {i : Nat} {x : Str} {e : Expr} {pos pos' : Pos} (hN : X.N.Nodup) (hi : X.N[i]? = some x) (hx : L2.Loc X.env.scope x) (hp : ∀ p ∈ C.pin, p.1 ≠ i) (he : VE X G C W e fa) (hs : swapsWith e (some (.Name x pos')) pos.line X.env = pure false := by rfl)
    (hf : X.fn x = true ∨ X.env.scope.names.lookup x = some .local := by first | exact .inl rfl | exact .inr rfl | assumption) : VS X G C W (.Assign [.Name x pos'] e pos) (cAsg (.nm i) fa) := by
  refine PS.imp (ps_set hN hi hx (ve_set he) hs hf) fun D s H h => ?_
  obtain ⟨r, T, S, h⟩ := h
  refine oneS (fa := cSet fa) S h fun x v r1 H1 P g => ?_
  cases x with
  | loc i => exact g.elim
  | val d => exact g _ _ (P.1.set hp)

def cAug (i : Nat) (g : G2) (fb : Ev) : Sv := fun r => match r[i]? with
  | some (some d) => if atom d = true then (fb r).st fun y r1 => (g (.val d) y r1).st fun z r2 => match z with
    | .val d' => .nx (r2.set i (some d'))
    | .loc _ => .bad else .bad
  | _ => .bad
theorem vs_aug {i : Nat} {x : Str} {e : Expr} {op : Operator} {g : G2} {pos' pos : Pos} (hN : X.N.Nodup) (hi : X.N[i]? = some x) (hx : L2.Loc X.env.scope x) (hp : ∀ p ∈ C.pin, p.1 ≠ i) (ho : OpS X (inplaceOp op) g) (he : VE X G C W e fb)
    (hf : X.fn x = true ∨ X.env.scope.names.lookup x = some .local := by first | exact .inl rfl | exact .inr rfl | assumption) : VS X G C W (.AugAssign (.Name x pos') op e pos) (cAug i g fb) := by
  obtain ⟨rr, h1, h2⟩ := ho
  refine PS.imp (ps_aug (ti := rr) hN hi hx he h1 hf) fun D s H h => ?_
  obtain ⟨r, T, S, h⟩ := h
  unfold cAug at h
  cases q : r[i]? with
  | none => rw [q] at h; exact h.elim
  | some o =>
    cases o with
    | none => rw [q] at h; exact h.elim
    | some d =>
      rw [q] at h
      simp only at h
      split at h
      · rename_i a
        obtain ⟨ow, S⟩ := S
        obtain ⟨v, q1, q2⟩ := S.sl i d q
        refine ⟨v, q1, ?_⟩
        have S1 : StOk G C r (T ++ [(d, v)]) s H := ⟨ow, S.push (q2.of_atom a)⟩
        refine ⟨r, T ++ [(d, v)], S1, ?_⟩
        cases e : fb r with
        | ok y r1 =>
          rw [e] at h
          simp only [st_ok] at h
          intro u H1 P
          refine h2 G C W r1 T s H1 (.val d) y v u _ (by show StOk G C r1 (T ++ ([(d, v)] ++ pushR y u)) s H1; rw [← List.append_assoc]; exact P.1) trivial P.2 ?_
          cases e2 : g (.val d) y r1 with
          | ok z r2 =>
            rw [e2] at h
            simp only [st_ok] at h
            cases z with
            | loc j => exact h.elim
            | val d' => exact fun w H2 P2 => h _ _ (P2.1.set hp)
          | exc c r2 => rw [e2] at h; exact fun H2 S2 => h s H2 S2
          | bad => rw [e2] at h; exact h.elim
        | exc c r1 => rw [e] at h; exact fun H' S' => h s H' S'.drop
        | bad => rw [e] at h; exact h.elim
      · exact h.elim
def iAdd (d e : D) : Option D := match d, e with
  | .int i, .int j => some (.int (i + j))
  | .str a, .str b => if a.length + b.length ≤ 16777216 then some (.str (a ++ b)) else none
  | _, _ => none
theorem os_iadd : OpS X (inplaceOp .Add) (g2 iAdd) := by
  refine OpS.scal (iop_add.or iop_add_str) fun G ow H d e z l m v u Q h1 h2 e3 q => ?_
  unfold iAdd at e3
  split at e3
  · cases e3
    exact .inl ⟨_, _, h1, h2, q _ fun _ _ => rfl⟩
  · split at e3
    · cases e3
      exact .inr ⟨_, _, h1, h2, by rw [sizeLine_eq]; assumption, q _ fun _ _ => rfl⟩
    · cases e3
  · cases e3

def cRaise (c : Nat) : Sv := fun r => .exc c r
theorem vs_raise {c : Nat} {x m : Str} {j : Nat} {p p2 pos pos' : Pos} (hcm : X.calm = true) (tk : Takes X W) (q : PySem.W.excIn X.K (G c) [.type "ValueError", .type "Exception", .type "BaseException", .type "object"] "ValueError.__new__" = true) (gC : X.mg x = some (.ref (G c))) (kC : PySem.W.keepIn X.K (.ref (G c)) = true)
    (rs : Raises X (.ref (G c))) (hg : Gl X x) (hdb : (x == ("__debug__" : Str)) = false := by decide) : VS X G C W (.Raise (some (.Call (.Name x p) [.Constant (.str m) j p2] [] pos)) none pos') (cRaise c) := by
  refine PS.imp (ps_raise hcm tk (pmk_own PySem.F.excBase_ValueError q gC kC rs hg hdb)) fun D s H h => ?_
  obtain ⟨r, T, S, h⟩ := h
  exact h s H S
end
end VL

namespace VL
open PySem PySem.Spec PyProof.Rows L2
section
variable {X : Cx} {G : GX} {C : Fc} {W : WX} {ow ow' : Ow} {r : Rho} {T T1 T2 : List (D × V)} {s : L2.St} {H H' : Hp} {fa fb fc : Ev} {f g : Sv}

def slid (ow : Ow) (n m : Nat) : Ow := fun a => match ow a with
  | some ⟨.tm j, p⟩ => if j < n then some ⟨.tm j, p⟩ else if j = m then some ⟨.tm n, p⟩ else none
  | x => x
theorem StW.slide {d : D} {v : V} (S : StW G C ow r (T ++ T2 ++ [(d, v)]) s H) : StW G C (slid ow T.length (T.length + T2.length)) r (T ++ [(d, v)]) s H where
  len := S.len
  sl := fun i d q => by
    obtain ⟨v', z1, z2⟩ := S.sl i d q
    refine ⟨v', z1, Rep.mono (l := ⟨.sl i, []⟩) d (fun _ _ z _ => z) (fun _ _ z _ => z) (fun a o _ n => by unfold slid; rw [n]) (fun a o q _ n => ?_) z2⟩
    have n' : ow a = some ⟨.sl i, [] ++ q⟩ := n
    unfold slid
    rw [n']
    rfl
  tm := fun j d' v' q => by
    by_cases hj : j < T.length
    · rw [List.getElem?_append_left hj] at q
      have z := S.tm j d' v' (by rw [List.append_assoc, List.getElem?_append_left hj]; exact q)
      refine Rep.mono (l := ⟨.tm j, []⟩) d' (fun _ _ z _ => z) (fun _ _ z _ => z) (fun a o _ n => by unfold slid; rw [n]) (fun a o q _ n => ?_) z
      have n' : ow a = some ⟨.tm j, [] ++ q⟩ := n
      unfold slid
      rw [n']
      simp [Loc.app, hj]
    · rw [List.getElem?_append_right (by omega)] at q
      have e : j = T.length := by
        have := (List.getElem?_eq_some_iff.mp q).1
        simp at this; omega
      subst e
      simp at q
      obtain ⟨e1, e2⟩ := q
      subst e1; subst e2
      have z := S.tm (T.length + T2.length) d v (by
        rw [List.getElem?_append_right (by simp)]
        simp)
      refine Rep.mono (l := ⟨.tm (T.length + T2.length), []⟩) d (fun _ _ z _ => z) (fun _ _ z _ => z) (fun a o _ n => by unfold slid; rw [n]) (fun a o q _ n => ?_) z
      have n' : ow a = some ⟨.tm (T.length + T2.length), [] ++ q⟩ := n
      have h : ¬ T.length + T2.length < T.length := by omega
      unfold slid
      rw [n']
      simp [Loc.app, h]
  old := S.old
  own := fun a l q => by
    cases e : ow a with
    | none => unfold slid at q; rw [e] at q; cases q
    | some m =>
      obtain ⟨mb, mp⟩ := m
      cases mb with
      | fo =>
        unfold slid at q; rw [e] at q; cases q
        exact .inl rfl
      | sl j => exact (S.own a _ e).elim (fun z => nomatch z) .inr
      | tm j => exact (S.own a _ e).elim (fun z => nomatch z) .inr
  fo := fun a q => by
    have z := S.fo a q
    unfold slid; rw [z]
  mu := fun a l q => by
    cases e : ow a with
    | none => unfold slid at q; rw [e] at q; cases q
    | some m => exact S.mu a m e
  pin := S.pin
  tabs := S.tabs
theorem Post.slide {x : R} {v : V} (P : Post G C r (T ++ T2) s H x v) : Post G C r T s H x v := by
  obtain ⟨⟨ow, S⟩, l⟩ := P
  cases x with
  | val d => exact ⟨⟨_, StW.slide S⟩, l⟩
  | loc i =>
    have S' : StW G C ow r (T ++ T2) s H := by simpa [pushR] using S
    refine ⟨⟨ow, ?_⟩, l⟩
    have z : StW G C ow r T s H := S'.drop
    simpa [pushR] using z

def CurOk (G : GX) (C : Fc) (J : It) (items : List D) (tk : Nat → List (D × V)) : Prop :=
  (∀ (i : Nat) d r T s H, items[i]? = some d → StOk G C r (T ++ tk i) s H → J.go i H ∧ ∀ x H', J.yld i H x H' → StOk G C r (T ++ tk (i + 1) ++ [(d, x)]) s H') ∧
    ∀ r T s H, StOk G C r (T ++ tk items.length) s H → J.stop items.length H
inductive IO where
  | ok (ds : List D) (r : Rho) | exc (c : Nat) (r : Rho) | bad
abbrev Iv := Rho → IO
def tVI (G : GX) (C : Fc) (W : WX) (f : Iv) : TI := fun s H R => ∃ r T, StOk G C r T s H ∧ match f r with
  | .ok ds r' => ∀ J H' tk, CurOk G C J ds tk → StOk G C r' (T ++ tk 0) s H' → R J H'
  | .exc c r' => ∀ H', StOk G C r' T s H' → W (.ref (G c)) none s H'
  | .bad => False
abbrev VI (X : Cx) (G : GX) (C : Fc) (W : WX) (tg e : Expr) (f : Iv) : Prop := PI X tg e (tVI G C W f)
theorem PI.imp {tg e : Expr} {t t' : TI} (h : PI X tg e t) (i : ∀ s H Q, t' s H Q → t s H Q) : PI X tg e t' := ⟨fun pins s σ H R I w => h.run pins s σ H R I (i _ _ _ w)⟩

def forL (t : Tg) (f : Sv) : List D → Rho → SO
  | [], r => .nx r
  | d :: ds, r => match tgt t d r with
    | none => .bad
    | some r1 => (match f r1 with
      | .nx r2 => forL t f ds r2
      | .ct r2 => forL t f ds r2
      | .bk r2 => .nx r2
      | o => o)
def cFor (t : Tg) (fi : Iv) (f : Sv) : Sv := fun r => match fi r with
  | .ok ds r1 => forL t f ds r1
  | .exc c r1 => .exc c r1
  | .bad => .bad
theorem vs_for {tg iter : Expr} {body : List Stmt} {fi : Iv} {t : Tg} {pos : Pos} (hp : PassesOwn (model X.prog X.w) X.A X.env X.xe) (hc : X.calm = true) (hi : VI X G C W tg iter fi) (hg : VG X G C tg t) (hb : VSs X G C W body f)
    (hs : ∀ x, foldedSetIterable iter X.env x = pure x := by intro _; rfl) : VS X G C W (.For tg iter body [] pos) (cFor t fi f) := by
  refine PS.imp (ps_for hp hc hi hg hb hs) fun D s H h => ?_
  obtain ⟨r, T, S, h⟩ := h
  refine ⟨r, T, S, ?_⟩
  unfold cFor at h
  cases e : fi r with
  | exc c r1 => rw [e] at h; exact fun H' S' => h s H' S'
  | bad => rw [e] at h; exact h.elim
  | ok ds r1 =>
    rw [e] at h
    simp only at h
    intro J H1 tk hk S1
    refine ⟨fun i m s' H' => m = ds.length - i ∧ i ≤ ds.length ∧ ∃ r', StOk G C r' (T ++ tk i) s' H' ∧ GoesS G C W T D (forL t f (ds.drop i) r'), ⟨ds.length, by simp, Nat.zero_le _, r1, S1, by simpa using h⟩, ?_⟩
    rintro i m s' H' ⟨rfl, hi', r', S', h'⟩
    by_cases hlt : i < ds.length
    · have ed : ds[i]? = some ds[i] := List.getElem?_eq_getElem hlt
      obtain ⟨k1, k2⟩ := hk.1 i ds[i] r' T s' H' ed S'
      rw [List.drop_eq_getElem_cons hlt] at h'
      refine .inr ⟨k1, fun s2 H2 => ∃ r2, StOk G C r2 (T ++ tk (i + 1)) s2 H2 ∧ GoesS G C W T D (forL t f (ds.drop (i + 1)) r2), fun s2 H2 n2 => ⟨ds.length - (i + 1), by omega, rfl, hlt, n2⟩, fun x H2 y => ?_⟩
      have S2 := k2 x H2 y
      refine ⟨r', T ++ tk (i + 1), ds[i], S2, ?_⟩
      unfold forL at h'
      cases e1 : tgt t ds[i] r' with
      | none => simp only [e1] at h'; exact h'.elim
      | some r2 =>
        simp only [e1] at h' ⊢
        intro s3 H3 S3 _
        refine ⟨r2, T ++ tk (i + 1), S3, ?_⟩
        cases e2 : f r2 with
        | nx r3 => simp only [e2] at h'; exact fun s4 H4 S4 => ⟨r3, S4, h'⟩
        | ct r3 => simp only [e2] at h'; exact fun s4 H4 S4 => ⟨r3, S4, h'⟩
        | bk r3 => simp only [e2] at h'; exact fun s4 H4 S4 => h' s4 H4 S4.drop
        | rt x r3 => simp only [e2] at h'; exact fun s4 v H4 P4 => h' s4 v H4 P4.slide
        | exc c r3 => simp only [e2] at h'; exact fun s4 H4 S4 => h' s4 H4 S4.drop
        | bad => simp only [e2] at h'; exact h'.elim
    · have ei : i = ds.length := by omega
      subst ei
      rw [List.drop_length] at h'
      exact .inl ⟨hk.2 r' T s' H' S', h' s' H' S'.drop⟩

def whileL (ft : Ev) (f : Sv) : Nat → Rho → SO
  | 0, _ => .bad
  | n + 1, r => (ft r).st fun x r1 => match x with
    | .val (.bl true) => (match f r1 with
      | .nx r2 => whileL ft f n r2
      | .ct r2 => whileL ft f n r2
      | .bk r2 => .nx r2
      | o => o)
    | .val (.bl false) => .nx r1
    | _ => .bad
theorem vs_while {c : Expr} {body : List Stmt} {pos : Pos} (n : Nat) (hp : PassesOwn (model X.prog X.w) X.A X.env X.xe) (hc : VT X G C W c fc) (hb : VSs X G C W body f) : VS X G C W (.While c body [] pos) (whileL fc f n) := by
  refine PS.imp (ps_while hp hc hb) fun D s H h => ?_
  obtain ⟨r, T, S, h⟩ := h
  refine ⟨fun m s' H' => ∃ r', StOk G C r' T s' H' ∧ GoesS G C W T D (whileL fc f m r'), ⟨n, r, S, h⟩, ?_⟩
  rintro m s' H' ⟨r', S', h'⟩
  cases m with
  | zero => exact h'.elim
  | succ m =>
    unfold whileL at h'
    refine ⟨r', T, S', ?_⟩
    cases e : fc r' with
    | exc c r1 => rw [e] at h'; exact fun H2 S2 => h' s' H2 S2
    | bad => rw [e] at h'; exact h'.elim
    | ok x r1 =>
      rw [e] at h'
      simp only [st_ok] at h'
      cases x with
      | loc i => exact h'.elim
      | val d =>
        cases d with
        | bl b =>
          cases b with
          | false => exact fun H2 S2 => (if_neg Bool.false_ne_true).mpr (h' s' H2 S2)
          | true =>
            refine fun H2 S2 => (if_pos rfl).mpr ⟨fun s3 H3 => ∃ r3, StOk G C r3 T s3 H3 ∧ GoesS G C W T D (whileL fc f m r3), fun s3 H3 n3 => ⟨m, Nat.lt_succ_self m, n3⟩, r1, T, S2, ?_⟩
            simp only at h'
            cases e2 : f r1 with
            | nx r3 => simp only [e2] at h'; exact fun s4 H4 S4 => ⟨r3, S4, h'⟩
            | ct r3 => simp only [e2] at h'; exact fun s4 H4 S4 => ⟨r3, S4, h'⟩
            | bk r3 => simp only [e2] at h'; exact fun s4 H4 S4 => h' s4 H4 S4
            | rt x r3 => simp only [e2] at h'; exact fun s4 v H4 P4 => h' s4 v H4 P4
            | exc c r3 => simp only [e2] at h'; exact fun s4 H4 S4 => h' s4 H4 S4
            | bad => simp only [e2] at h'; exact h'.elim
        | _ => exact h'.elim

def takenAt (ow : Ow) (n i : Nat) : Ow := fun a => match ow a with
  | some ⟨.tm j, p⟩ => if j = n then (match p with
    | k :: p' => if k = i then some ⟨.tm (n + 1), p'⟩ else some ⟨.tm j, p⟩
    | [] => some ⟨.tm j, p⟩) else some ⟨.tm j, p⟩
  | x => x
def leftAt (ds : List D) (i : Nat) : List D := List.replicate i .any ++ ds.drop i
theorem leftAt_get {ds : List D} {i j : Nat} (hi : i ≤ ds.length) : (leftAt ds i)[j]? = if j < i then some .any else ds[j]? := by
  unfold leftAt
  by_cases h : j < i
  · rw [if_pos h, List.getElem?_append_left (by simpa using h)]
    simp [h]
  · rw [if_neg h, List.getElem?_append_right (by simp; omega), List.length_replicate, List.getElem?_drop]
    congr 1; omega
theorem leftAt_length {ds : List D} {i : Nat} (hi : i ≤ ds.length) : (leftAt ds i).length = ds.length := by
  unfold leftAt; simp; omega
theorem StW.take1 {k : Kd} {o : Bool} {ds : List D} {i : Nat} {d : D} {v : V} (S : StW G C ow r (T ++ [(.node k o (leftAt ds i), v)]) s H) (hd : ds[i]? = some d) :
    ∃ a vs x, v = .ref a ∧ Holds G H a k vs ∧ vs[i]? = some x ∧ StW G C (takenAt ow T.length i) r (T ++ [(.node k o (leftAt ds (i + 1)), v)] ++ [(d, x)]) s H := by
  have hi : i < ds.length := (List.getElem?_eq_some_iff.mp hd).1
  obtain ⟨a, vs, ev, h1, h2, h3⟩ := S.last
  have hl := h3.length
  rw [leftAt_length (by omega)] at hl
  obtain ⟨x, x1, x2⟩ := h3.get i d (by rw [leftAt_get (by omega), if_neg (by omega)]; exact hd)
  refine ⟨a, vs, x, ev, h1, x1, S.len, fun i' d q => ?_, fun j d' v' q => ?_, S.old, fun b l q => ?_, fun b q => ?_, fun b l q => ?_, S.pin, S.tabs⟩
  · obtain ⟨v', z1, z2⟩ := S.sl i' d q
    refine ⟨v', z1, Rep.mono (l := ⟨.sl i', []⟩) d (fun _ _ z _ => z) (fun _ _ z _ => z) (fun a o _ n => by unfold takenAt; rw [n]) (fun a o q _ n => ?_) z2⟩
    have n' : ow a = some ⟨.sl i', [] ++ q⟩ := n
    unfold takenAt
    rw [n']
    rfl
  · by_cases hj : j < T.length
    · rw [List.append_assoc, List.getElem?_append_left hj] at q
      have z := S.tm j d' v' (by rw [List.getElem?_append_left hj]; exact q)
      refine Rep.mono (l := ⟨.tm j, []⟩) d' (fun _ _ z _ => z) (fun _ _ z _ => z) (fun a o _ n => by unfold takenAt; rw [n]) (fun a o q _ n => ?_) z
      have n' : ow a = some ⟨.tm j, [] ++ q⟩ := n
      unfold takenAt
      rw [n']
      have : ¬ j = T.length := by omega
      simp [Loc.app, this]
    · rw [List.append_assoc, List.getElem?_append_right (by omega)] at q
      rcases (show j - T.length = 0 ∨ j - T.length = 1 by
        have := (List.getElem?_eq_some_iff.mp q).1
        simp at this; omega) with e | e
      · rw [e] at q
        simp at q
        obtain ⟨e1, e2⟩ := q
        subst e1; subst e2
        have ej : j = T.length := by omega
        subst ej
        refine ⟨a, vs, ev, h1, ?_, Reps.of_get (by rw [leftAt_length (by omega)]; exact hl) fun m dm vm q1 q2 => ?_⟩
        · rcases h2.cases with hk | h2
          · exact .ofR hk
          refine .mk ?_
          cases o with
          | true =>
            have n' : ow a = some ⟨.tm T.length, []⟩ := by simpa using h2
            unfold takenAt; rw [n']; simp
          | false =>
            have n' : ow a = none := by simpa using h2
            unfold takenAt; rw [n']; simp
        · rw [leftAt_get (by omega)] at q1
          by_cases hm : m < i + 1
          · rw [if_pos hm] at q1
            cases q1
            trivial
          · rw [if_neg hm] at q1
            obtain ⟨vm', z1, z2⟩ := h3.get m dm (by rw [leftAt_get (by omega), if_neg (by omega)]; exact q1)
            rw [q2] at z1
            cases z1
            refine Rep.mono (l := Loc.sub ⟨.tm T.length, []⟩ (0 + m)) dm (fun _ _ z _ => z) (fun _ _ z _ => z) (fun a o _ n => by unfold takenAt; rw [n]) (fun a o q _ n => ?_) z2
            have n' : ow a = some ⟨.tm T.length, m :: q⟩ := by rw [n]; simp [Loc.sub, Loc.app]
            unfold takenAt
            rw [n']
            have : ¬ m = i := by omega
            simp [Loc.app, Loc.sub, this]
      · rw [e] at q
        simp at q
        obtain ⟨e1, e2⟩ := q
        subst e1; subst e2
        have ej : j = T.length + 1 := by omega
        subst ej
        refine Rep.mono (l := Loc.sub ⟨.tm T.length, []⟩ (0 + i)) d (fun _ _ z _ => z) (fun _ _ z _ => z) (fun a o _ n => by unfold takenAt; rw [n]) (fun a o q _ n => ?_) x2
        have n' : ow a = some ⟨.tm T.length, i :: q⟩ := by rw [n]; simp [Loc.sub, Loc.app]
        unfold takenAt
        rw [n']
        simp [Loc.app]
  · cases e : ow b with
    | none => unfold takenAt at q; rw [e] at q; cases q
    | some m =>
      obtain ⟨mb, mp⟩ := m
      cases mb with
      | fo =>
        unfold takenAt at q; rw [e] at q; cases q
        exact .inl rfl
      | sl j => exact (S.own b _ e).elim (fun z => nomatch z) .inr
      | tm j => exact (S.own b _ e).elim (fun z => nomatch z) .inr
  · have z := S.fo b q
    unfold takenAt; rw [z]
  · cases e : ow b with
    | none => unfold takenAt at q; rw [e] at q; cases q
    | some m => exact S.mu b m e
theorem leftAt_zero (ds : List D) : leftAt ds 0 = ds := by unfold leftAt; simp
theorem cur_seq {K : PySem.W.Frag} {k : Kd} {o : Bool} {ds : List D} {a : Addr} (hk : ∀ H vs, Holds G H a k vs → SqL K H a vs) : CurOk G C (Itl K a) ds fun i => [(.node k o (leftAt ds i), .ref a)] := by
  refine ⟨fun i d r T s H hd S => ?_, fun r T s H S => ?_⟩
  · obtain ⟨ow, S⟩ := S
    obtain ⟨a', vs, x, ev, h1, hx, S'⟩ := S.take1 hd
    cases ev
    refine ⟨⟨vs, x, hk H vs h1, hx⟩, fun x' H' y => ?_⟩
    obtain ⟨e, y⟩ := y
    subst e
    have e2 := y vs (hk _ vs h1)
    rw [hx] at e2
    cases e2
    exact ⟨_, S'⟩
  · obtain ⟨ow, S⟩ := S
    obtain ⟨a', vs, ev, h1, h2, h3⟩ := S.last
    cases ev
    refine ⟨vs, hk H vs h1, ?_⟩
    rw [← h3.length, leftAt_length (Nat.le_refl _)]
    exact Nat.le_refl _
def iLst (fa : Ev) : Iv := fun r => match cSet fa r with
  | .ok (.val (.node .lst _ ds)) r1 => .ok ds r1
  | .ok (.val (.node .rd _ ds)) r1 => .ok ds r1
  | .exc c r1 => .exc c r1
  | _ => .bad
theorem vi_list {tg e : Expr} (hK : G.K = X.K) (he : VE X G C W e fa) : VI X G C W tg e (iLst fa) := by
  refine PI.imp (pi_list (ve_set he)) fun s H R h => ?_
  obtain ⟨r, T, S, h⟩ := h
  refine ⟨r, T, S, ?_⟩
  unfold iLst at h
  cases e1 : cSet fa r with
  | exc c r1 => rw [e1] at h; exact h
  | bad => rw [e1] at h; exact h
  | ok x r1 =>
    rw [e1] at h
    intro v H' P
    split at h
    · rename_i ds r' e'
      split at e'
      · rename_i o ds' r'' e''
        cases e'; cases e''
        obtain ⟨ow, S'⟩ := P.1
        obtain ⟨a, vs, ev, h1, h2, h3⟩ := S'.last
        subst ev
        refine ⟨a, rfl, ⟨vs, SqL.of h1⟩, h _ _ _ (cur_seq (k := .lst) (o := o) fun _ _ z => SqL.of z) ?_⟩
        rw [leftAt_zero]
        exact ⟨ow, S'⟩
      · rename_i o ds' r'' e''
        cases e'; cases e''
        obtain ⟨ow, S'⟩ := P.1
        obtain ⟨a, vs, ev, h1, h2, h3⟩ := S'.last
        subst ev
        refine ⟨a, rfl, ⟨vs, hK ▸ h1.seq⟩, h _ _ _ (cur_seq (k := .rd) (o := o) fun _ _ z => hK ▸ z.seq) ?_⟩
        rw [leftAt_zero]
        exact ⟨ow, S'⟩
      · rename_i e''; cases e''
      · cases e'
    · rename_i c r' e'
      split at e'
      · cases e'
      · cases e'
      · rename_i e''; cases e''
      · cases e'
    · exact h.elim
end
end VL

namespace VL
open PySem PySem.Spec PyProof.Rows L2
section
variable {X : Cx} {G : GX} {C : Fc} {W : WX} {ow ow' : Ow} {r : Rho} {T T1 T2 : List (D × V)} {s : L2.St} {H H' : Hp} {fa fb fc : Ev} {f g : Sv} {fs : Av}

def rngD (lo c : Int) (n : Nat) : List D := (List.range n).map fun i => .int (lo + (i : Nat) * c)
theorem rngD_get {lo c : Int} {n i : Nat} {d : D} (h : (rngD lo c n)[i]? = some d) : i < n ∧ d = .int (lo + (i : Nat) * c) := by
  unfold rngD at h
  rw [List.getElem?_map] at h
  cases e : (List.range n)[i]? with
  | none => rw [e] at h; cases h
  | some j =>
    rw [e] at h
    cases h
    obtain ⟨h1, h2⟩ := List.getElem?_eq_some_iff.mp e
    simp at h1 h2
    subst h2
    exact ⟨h1, rfl⟩
theorem rngD_length (lo c : Int) (n : Nat) : (rngD lo c n).length = n := by simp [rngD]
theorem cur_rng {lo : Int} {n : Nat} : CurOk G C (Itr lo n) (rngD lo 1 n) fun _ => [] := by
  refine ⟨fun i d r T s H hd S => ?_, fun r T s H S => by rw [rngD_length]; exact Nat.le_refl n⟩
  obtain ⟨h1, h2⟩ := rngD_get hd
  subst h2
  refine ⟨h1, fun x H' y => ?_⟩
  obtain ⟨e, y⟩ := y
  subst e; subst y
  rw [Int.mul_one]
  exact S.pushI _
theorem cur_rngC {lo c : Int} {n : Nat} : CurOk G C (Itc lo c n) (rngD lo c n) fun _ => [] := by
  refine ⟨fun i d r T s H hd S => ?_, fun r T s H S => by rw [rngD_length]; exact Nat.le_refl n⟩
  obtain ⟨h1, h2⟩ := rngD_get hd
  subst h2
  refine ⟨h1, fun x H' y => ?_⟩
  obtain ⟨e, y⟩ := y
  subst e; subst y
  exact S.pushI _
def within (i : Int) : Bool := decide (i.natAbs < 2 ^ 62)
theorem within_of {i : Int} (h : within i = true) : -(2 ^ 62) ≤ i ∧ i < 2 ^ 62 := by
  have h : i.natAbs < 2 ^ 62 := of_decide_eq_true h
  omega
def turns (i j c : Int) : Nat := (Builtin.Range.rangeSize i j c).toNat
def rngI1 (r : Rho) (xs : List R) : IO := match opds r xs with
  | some [.int j] => if within j = true then .ok (rngD 0 1 j.toNat) r else .bad
  | _ => .bad
def rngI2 (r : Rho) (xs : List R) : IO := match opds r xs with
  | some [.int i, .int j] => if (within i && within j) = true then .ok (rngD i 1 (j - i).toNat) r else .bad
  | _ => .bad
def rngI3 (r : Rho) (xs : List R) : IO := match opds r xs with
  | some [.int i, .int j, .int c] => if (decide (c ≠ 0) && decide (c.natAbs < 1073741824) && Builtin.Range.small i j c) = true then .ok (rngD i c (turns i j c)) r else .bad
  | _ => .bad
def iRng (g : Rho → List R → IO) (fs : Av) : Iv := fun r => match fs r with
  | .ok xs r1 => g r1 xs
  | .exc c r1 => .exc c r1
  | .bad => .bad
theorem opds_reps : ∀ {xs : List R} {vs : List V} {T : List (D × V)} {ds : List D}, StW G C ow r (T ++ pushs xs vs) s H → LocsOk s xs vs → opds r xs = some ds → ds.all atom = true → ∀ l i, Reps G ow H ds l i vs
  | [], [], _, ds, _, _, e, _, l, i => by cases e; exact rfl
  | [], _ :: _, _, _, _, l, _, _, _, _ => l.elim
  | _ :: _, [], _, _, _, l, _, _, _, _ => l.elim
  | x :: xs, v :: vs, T, ds, S, l, e, a, l', i => by
    unfold opds at e
    cases e1 : opd r x with
    | none => rw [e1] at e; cases e
    | some d =>
      cases e2 : opds r xs with
      | none => rw [e1, e2] at e; cases e
      | some ds' =>
        rw [e1, e2] at e
        cases e
        rw [List.all_cons, Bool.and_eq_true] at a
        have S' : StW G C ow r (T ++ (pushR x v ++ pushs xs vs)) s H := S
        exact ⟨v, vs, rfl, (opd_rep S' l.1 e1).of_atom a.1, opds_reps (T := T ++ pushR x v) (by rw [List.append_assoc]; exact S') l.2 e2 a.2 l' (i + 1)⟩
def GoesI (G : GX) (C : Fc) (W : WX) (T : List (D × V)) (s : L2.St) (R : It → Hp → Prop) (o : IO) : Prop := match o with
  | .ok ds r' => ∀ J H' tk, CurOk G C J ds tk → StOk G C r' (T ++ tk 0) s H' → R J H'
  | .exc c r' => ∀ H', StOk G C r' T s H' → W (.ref (G c)) none s H'
  | .bad => False
theorem tV_rng {gg : Rho → List R → IO} {R : It → Hp → Prop} {K : List V → Hp → Prop} (S : StOk G C r T s H) (h : GoesI G C W T s R (iRng gg fs r)) (hk : ∀ xs vs r1 H1, StOk G C r1 (T ++ pushs xs vs) s H1 → LocsOk s xs vs → GoesI G C W T s R (gg r1 xs) → K vs H1) : tVA G C W fs s H K := by
  refine ⟨r, T, S, ?_⟩
  unfold iRng at h
  cases e : fs r with
  | ok xs r1 => rw [e] at h; exact fun vs H1 S1 l1 => hk xs vs r1 H1 S1 l1 h
  | exc c r1 => rw [e] at h; exact h
  | bad => rw [e] at h; exact h
theorem vi_range1 {tg a : Expr} {p pos : Pos} (hg : Gl X "range") (hm : X.mg "range" = none) (ha : VA X G C W [a] fs) (hs : starEach [a] X.env = [(false, eval a X.env)] := by rfl) : VI X G C W tg (.Call (.Name "range" p) [a] [] pos) (iRng rngI1 fs) := by
  refine PI.imp (pi_range1 hg hm ha hs) fun s H R h => ?_
  obtain ⟨r, T, S, h⟩ := h
  refine tV_rng S h fun xs vs r1 H1 S1 l1 g => ?_
  obtain ⟨ow, S1⟩ := S1
  unfold rngI1 at g
  split at g
  · rename_i j e1
    split at g
    · rename_i hw
      obtain ⟨v, ws, ev, h1, h2⟩ := opds_reps S1 l1 e1 rfl ⟨.fo, []⟩ 0
      have e2 : ws = [] := h2
      subst e2
      obtain ⟨w1, w2⟩ := within_of hw
      exact ⟨j, by rw [ev, rep_int h1], w1, w2, g _ _ _ cur_rng ⟨ow, by simpa using S1.drop⟩⟩
    · exact g.elim
  · exact g.elim
theorem rangeSize_nonneg (i j c : Int) : 0 ≤ Builtin.Range.rangeSize i j c ∨ c = 0 := by
  by_cases h0 : c = 0
  · exact .inr h0
  · refine .inl ?_
    unfold Builtin.Range.rangeSize
    split
    · split
      · have := Int.ediv_nonneg (show (0 : Int) ≤ j - i - 1 by omega) (show (0 : Int) ≤ c by omega)
        omega
      · omega
    · split
      · have := Int.ediv_nonneg (show (0 : Int) ≤ i - j - 1 by omega) (show (0 : Int) ≤ -c by omega)
        omega
      · omega
theorem vi_range3 {tg a b c : Expr} {p pos : Pos} (hg : Gl X "range") (hm : X.mg "range" = none) (ha : VA X G C W [a, b, c] fs)
    (hs : starEach [a, b, c] X.env = (false, eval a X.env) :: starEach [b, c] X.env := by rfl) (hpl : (backTo pos (starEach [b, c] X.env)).any (·.1) = false := by rfl) : VI X G C W tg (.Call (.Name "range" p) [a, b, c] [] pos) (iRng rngI3 fs) := by
  refine PI.imp (pi_range3 hg hm ha hs hpl) fun s H R h => ?_
  obtain ⟨r, T, S, h⟩ := h
  refine tV_rng S h fun xs vs r1 H1 S1 l1 g => ?_
  obtain ⟨ow, S1⟩ := S1
  unfold rngI3 at g
  split at g
  · rename_i i j c e1
    split at g
    · rename_i hw
      obtain ⟨v, ws, ev, h1, v2, ws2, ev2, h2, v3, ws3, ev3, h3, h4⟩ := opds_reps S1 l1 e1 rfl ⟨.fo, []⟩ 0
      have e2 : ws3 = [] := h4
      subst e2
      simp only [Bool.and_eq_true, decide_eq_true_eq] at hw
      obtain ⟨⟨c0, c1⟩, c2⟩ := hw
      have nn : 0 ≤ Builtin.Range.rangeSize i j c := (rangeSize_nonneg i j c).elim id fun z => absurd z c0
      exact ⟨i, j, c, turns i j c, by rw [ev, ev2, ev3, rep_int h1, rep_int h2, rep_int h3], ⟨c0, c1, c2, by unfold turns; omega⟩, g _ _ _ cur_rngC ⟨ow, by simpa using S1.drop⟩⟩
    · exact g.elim
  · exact g.elim

def W0 : WX := fun _ _ _ _ => False
def wipeR (r : Rho) : List Nat → Rho
  | [] => r
  | v :: vs => (wipeR r vs).set v none
inductive LO where
  | ok (acc : List D) (r : Rho) | bad
def tstR (fc : Option Ev) : Ev := fun r => match fc with
  | none => .ok (.val (.bl true)) r
  | some f => f r
def lcL (t : Tg) (fc : Option Ev) (fe : Ev) (vs : List Nat) : List D → List D → Rho → LO
  | [], acc, r => .ok acc r
  | d :: ds, acc, r => match tgt t d r with
    | none => .bad
    | some r1 => (match tstR fc r1 with
      | .ok (.val (.bl true)) r2 => (match cSet fe r2 with
        | .ok (.val e) r3 => if acc.length < 16777216 then lcL t fc fe vs ds (acc ++ [e]) (wipeR r3 vs) else .bad
        | _ => .bad)
      | .ok (.val (.bl false)) r2 => lcL t fc fe vs ds acc (wipeR r2 vs)
      | _ => .bad)
def backR (r0 r : Rho) : List Nat → Rho
  | [] => r
  | v :: vs => (backR r0 r vs).set v (match r0[v]? with
    | some (some d) => if atom d = true then (match d with
      | .exc _ => none
      | .any => none
      | d => some d) else none
    | _ => none)
def cLc (vs : List Nat) (t : Tg) (fi : Iv) (fc : Option Ev) (fe : Ev) : Ev := fun r => match fi r with
  | .ok ds r1 => (match lcL t fc fe vs ds [] (wipeR r1 vs) with
    | .ok acc r2 => .ok (.val (.node .lst true acc)) (backR r1 r2 vs)
    | .bad => .bad)
  | .exc c r1 => .exc c r1
  | .bad => .bad
theorem StW.wipes (S : StW G C ow r T s H) : ∀ {vs : List Nat}, (∀ p ∈ C.pin, p.1 ∉ vs) → StW G C ow (wipeR r vs) T (wipe s vs) H
  | [], _ => S
  | v :: vs, hp => by
    have S' := S.wipes (vs := vs) fun p hm z => hp p hm (List.mem_cons_of_mem _ z)
    have hv : ∀ p ∈ C.pin, p.1 ≠ v := fun p hm e => hp p hm (by rw [e]; exact List.mem_cons_self)
    show StW G C ow ((wipeR r vs).set v none) T ((wipe s vs).set v none) H
    refine ⟨by simpa using S'.len, fun j d q => ?_, S'.tm, S'.old, S'.own, S'.fo, S'.mu, fun p hm => ?_, S'.tabs⟩
    · by_cases hj : j = v
      · subst hj
        by_cases hlt : j < (wipeR r vs).length
        · rw [List.getElem?_set_self hlt] at q; cases q
        · rw [List.getElem?_eq_none (by simpa using hlt)] at q; cases q
      · rw [List.getElem?_set_ne (Ne.symm hj)] at q
        obtain ⟨v', h1, h2⟩ := S'.sl j d q
        exact ⟨v', by rw [List.getElem?_set_ne (Ne.symm hj)]; exact h1, h2⟩
    · rw [List.getElem?_set_ne (Ne.symm (hv p hm))]
      exact S'.pin p hm
theorem wipe_out' {s : L2.St} {i : Nat} : ∀ {vs : List Nat}, i ∉ vs → (wipe s vs)[i]? = s[i]?
  | [], _ => rfl
  | v :: vs, h => by
    have h1 : v ≠ i := fun e => h (by rw [e]; exact List.mem_cons_self)
    have h2 : i ∉ vs := fun m => h (List.mem_cons_of_mem _ m)
    unfold wipe
    rw [List.getElem?_set_ne h1]
    exact wipe_out' h2
theorem wipe_in {s : L2.St} {i : Nat} (hi : i < s.length) : ∀ {vs : List Nat}, i ∈ vs → (wipe s vs)[i]? = some none
  | v :: vs, h => by
    unfold wipe
    by_cases hv : v = i
    · subst hv
      rw [List.getElem?_set_self (by rw [wipe_length]; exact hi)]
    · rw [List.getElem?_set_ne hv]
      exact wipe_in hi ((List.mem_cons.mp h).resolve_left (fun e => hv e.symm))
theorem wipe_but {is vs : List Nat} {s s' : L2.St} (b : But is (wipe s vs) s') (h : ∀ i ∈ is, i ∈ vs) : wipe s' vs = wipe s vs := by
  apply List.ext_getElem?
  intro j
  by_cases hj : j ∈ vs
  · by_cases hlt : j < s.length
    · rw [wipe_in hlt hj, wipe_in (by rw [b.1, wipe_length]; exact hlt) hj]
    · rw [List.getElem?_eq_none (by rw [wipe_length, b.1, wipe_length]; omega), List.getElem?_eq_none (by rw [wipe_length]; omega)]
  · rw [wipe_out' hj, b.2 j (fun z => hj (h j z))]
theorem StW.back {r0 : Rho} {T0 : List (D × V)} {ow0 : Ow} {H0 : Hp} {vs : List Nat} (S0 : StW G C ow0 r0 T0 s H0) (S : StW G C ow (wipeR r vs) T (wipe s vs) H) : StW G C ow (backR r0 (wipeR r vs) vs) T s H := by
  have blen : ∀ ws : List Nat, (backR r0 (wipeR r vs) ws).length = (wipeR r vs).length := by
    intro ws
    induction ws with
    | nil => rfl
    | cons w ws ih => unfold backR; rw [List.length_set, ih]
  have bget : ∀ (ws : List Nat) (j : Nat) (d : D), (backR r0 (wipeR r vs) ws)[j]? = some (some d) → (wipeR r vs)[j]? = some (some d) ∨ (r0[j]? = some (some d) ∧ atom d = true ∧ (∀ c, d ≠ .exc c) ∧ d ≠ .any) := by
    intro ws
    induction ws with
    | nil => exact fun j d q => .inl q
    | cons w ws ih =>
      intro j d q
      unfold backR at q
      by_cases hj : w = j
      · subst hj
        by_cases hlt : w < (backR r0 (wipeR r vs) ws).length
        · rw [List.getElem?_set_self hlt] at q
          have q := Option.some.inj q
          split at q
          · rename_i d' e
            split at q
            · rename_i a
              split at q
              · cases q
              · cases q
              · rename_i n1 n2
                cases q
                exact .inr ⟨e, a, fun c z => n1 c z, fun z => n2 z⟩
            · cases q
          · cases q
        · rw [List.getElem?_eq_none (by simpa using hlt)] at q; cases q
      · rw [List.getElem?_set_ne hj] at q
        exact ih j d q
  refine ⟨by rw [blen, S.len, wipe_length], fun j d q => ?_, S.tm, S.old, S.own, S.fo, S.mu, fun p hm => ?_, S.tabs⟩
  · rcases bget vs j d q with q | ⟨q, a, n1, n2⟩
    · obtain ⟨v, h1, h2⟩ := S.sl j d q
      exact ⟨v, (wipe_some h1).1, h2⟩
    · obtain ⟨v, h1, h2⟩ := S0.sl j d q
      refine ⟨v, h1, ?_⟩
      cases d with
      | any => exact absurd rfl n2
      | exc c => exact absurd rfl (n1 c)
      | node k o xs => cases a
      | _ => exact h2
  · exact (wipe_some (S.pin p hm)).1
def appAt (ow : Ow) (n k : Nat) : Ow := fun a => match ow a with
  | some ⟨.tm j, p⟩ => if j = n + 1 then some ⟨.tm n, k :: p⟩ else some ⟨.tm j, p⟩
  | x => x
theorem StW.appT {acc : List D} {d : D} {a : Addr} {v : V} (S : StW G C ow r (T ++ [(.node .lst true acc, .ref a), (d, v)]) s H) : ∃ vs, H a = some (.lst vs) ∧ vs.length = acc.length ∧ StW G C (appAt ow T.length acc.length) r (T ++ [(.node .lst true (acc ++ [d]), .ref a)]) s (upd H a (.lst (vs ++ [v]))) := by
  have z0 := S.tm T.length (.node .lst true acc) (.ref a) (by simp)
  obtain ⟨a', vs, ev, h1, h2, h3⟩ := z0
  cases ev
  have h1 : H a = some (.lst vs) := h1
  have h2 : ow a = some ⟨.tm T.length, []⟩ := by simpa [OwnAt] using h2
  have zd := S.tm (T.length + 1) d v (by rw [List.getElem?_append_right (by omega)]; simp)
  have ne : ∀ (b : Addr) (l : Loc) (q : List Nat), ow b = none ∨ (∃ q, ow b = some (l.app q)) → l.b ≠ .tm T.length ∨ l.p ≠ [] → b ≠ a := fun b l _ hb hl e => by
    subst e
    rw [h2] at hb
    rcases hb with hb | ⟨q, hb⟩
    · cases hb
    · have hb := Option.some.inj hb
      unfold Loc.app at hb
      injection hb with e1 e2
      rcases hl with hl | hl
      · exact hl e1.symm
      · exact hl (List.append_eq_nil_iff.mp e2.symm).1
  have exn : ∀ (b : Addr) (o : HO), H b = some o → ¬ OwnO (some o) → upd H a (.lst (vs ++ [v])) b = some o := fun b o z n => by
    rw [upd_ne (fun e => by rw [e, h1] at z; cases z; exact n trivial)]; exact z
  refine ⟨vs, h1, h3.length.symm, S.len, fun i d' q => ?_, fun j d' v' q => ?_, fun b o n q => ?_, fun b l q => ?_, fun b q => ?_, fun b l q => ?_, S.pin, tabs_own S.tabs h1 trivial⟩
  · obtain ⟨v', z1, z2⟩ := S.sl i d' q
    refine ⟨v', z1, Rep.mono (l := ⟨.sl i, []⟩) d' (fun b o z y => by rw [upd_ne (ne b ⟨.sl i, []⟩ [] y (.inl (fun z => nomatch z)))]; exact .inl z) (fun b o z n => exn b o z n) (fun a o _ n => by unfold appAt; rw [n]) (fun a o q _ n => ?_) z2⟩
    have n' : ow a = some ⟨.sl i, [] ++ q⟩ := n
    unfold appAt
    rw [n']
    rfl
  · by_cases hj : j < T.length
    · rw [List.getElem?_append_left hj] at q
      have z := S.tm j d' v' (by rw [List.getElem?_append_left hj]; exact q)
      refine Rep.mono (l := ⟨.tm j, []⟩) d' (fun b o z y => by rw [upd_ne (ne b ⟨.tm j, []⟩ [] y (.inl (fun z => by injection z with z; omega)))]; exact .inl z) (fun b o z n => exn b o z n) (fun a o _ n => by unfold appAt; rw [n]) (fun a o q _ n => ?_) z
      have n' : ow a = some ⟨.tm j, [] ++ q⟩ := n
      unfold appAt
      rw [n']
      have : ¬ j = T.length + 1 := by omega
      simp [Loc.app, this]
    · rw [List.getElem?_append_right (by omega)] at q
      have e : j = T.length := by
        have := (List.getElem?_eq_some_iff.mp q).1
        simp at this; omega
      subst e
      simp at q
      obtain ⟨e1, e2⟩ := q
      subst e1; subst e2
      refine ⟨a, vs ++ [v], rfl, upd_same, .mk ?_, Reps.of_get (by simp [h3.length]) fun m dm vm q1 q2 => ?_⟩
      · unfold appAt; rw [h2]; simp
      · by_cases hm : m < acc.length
        · rw [List.getElem?_append_left hm] at q1
          rw [List.getElem?_append_left (by rw [← h3.length]; exact hm)] at q2
          obtain ⟨vm', y1, y2⟩ := h3.get m dm q1
          rw [q2] at y1
          cases y1
          refine Rep.mono (l := Loc.sub ⟨.tm T.length, []⟩ (0 + m)) dm (fun b o z y => by rw [upd_ne (ne b (Loc.sub ⟨.tm T.length, []⟩ (0 + m)) [] y (.inr (by simp [Loc.sub])))]; exact .inl z) (fun b o z n => exn b o z n) (fun a o _ n => by unfold appAt; rw [n]) (fun a o q _ n => ?_) y2
          have n' : ow a = some ⟨.tm T.length, m :: q⟩ := by rw [n]; simp [Loc.sub, Loc.app]
          unfold appAt
          rw [n']
          simp [Loc.app, Loc.sub]
        · rw [List.getElem?_append_right (by omega)] at q1
          rw [List.getElem?_append_right (by rw [← h3.length]; omega), ← h3.length] at q2
          have em : m = acc.length := by
            have := (List.getElem?_eq_some_iff.mp q1).1
            simp at this; omega
          subst em
          simp at q1 q2
          subst q1; subst q2
          refine Rep.mono (l := ⟨.tm (T.length + 1), []⟩) d (fun b o z y => by rw [upd_ne (ne b ⟨.tm (T.length + 1), []⟩ [] y (.inl (fun z => by injection z with z; omega)))]; exact .inl z) (fun b o z n => exn b o z n) (fun a o _ n => by unfold appAt; rw [n]) (fun a o q _ n => ?_) zd
          have n' : ow a = some ⟨.tm (T.length + 1), [] ++ q⟩ := n
          unfold appAt
          rw [n']
          simp [Loc.app, Loc.sub]
  · by_cases hb : b = a
    · subst hb
      have z := S.old b o n q
      rcases S.own b _ h2 with z2 | z2 | z2
      · cases z2
      · rw [z2] at q; cases q
      · exact absurd z2 n
    · rw [upd_ne hb]; exact S.old b o n q
  · cases e : ow b with
    | none => unfold appAt at q; rw [e] at q; cases q
    | some m =>
      obtain ⟨mb, mp⟩ := m
      cases mb with
      | fo =>
        unfold appAt at q; rw [e] at q; cases q
        exact .inl rfl
      | sl j => exact (S.own b _ e).elim (fun z => nomatch z) .inr
      | tm j => exact (S.own b _ e).elim (fun z => nomatch z) .inr
  · have z := S.fo b q
    unfold appAt; rw [z]
  · by_cases hb : b = a
    · subst hb; rw [upd_same]; trivial
    · rw [upd_ne hb]
      cases e : ow b with
      | none => unfold appAt at q; rw [e] at q; cases q
      | some m => exact S.mu b m e
def permT (ow : Ow) (f : Nat → Nat) : Ow := fun a => match ow a with
  | some ⟨.tm j, p⟩ => some ⟨.tm (f j), p⟩
  | x => x
theorem StW.perm {f : Nat → Nat} (S : StW G C ow r T1 s H) (hf : ∀ (j : Nat) (p : D × V), T2[j]? = some p → ∃ i, T1[i]? = some p ∧ f i = j) : StW G C (permT ow f) r T2 s H where
  len := S.len
  sl := fun i d q => by
    obtain ⟨v', z1, z2⟩ := S.sl i d q
    refine ⟨v', z1, Rep.mono (l := ⟨.sl i, []⟩) d (fun _ _ z _ => z) (fun _ _ z _ => z) (fun a o _ n => by unfold permT; rw [n]) (fun a o q _ n => ?_) z2⟩
    have n' : ow a = some ⟨.sl i, [] ++ q⟩ := n
    unfold permT
    rw [n']
    rfl
  tm := fun j d v q => by
    obtain ⟨i, h1, h2⟩ := hf j (d, v) q
    refine Rep.mono (l := ⟨.tm i, []⟩) d (fun _ _ z _ => z) (fun _ _ z _ => z) (fun a o _ n => by unfold permT; rw [n]) (fun a o q _ n => ?_) (S.tm i d v h1)
    have n' : ow a = some ⟨.tm i, [] ++ q⟩ := n
    unfold permT
    rw [n']
    simp [Loc.app, h2]
  old := S.old
  own := fun a l q => by
    cases e : ow a with
    | none => unfold permT at q; rw [e] at q; cases q
    | some m =>
      obtain ⟨mb, mp⟩ := m
      cases mb with
      | fo =>
        unfold permT at q; rw [e] at q; cases q
        exact .inl rfl
      | sl j => exact (S.own a _ e).elim (fun z => nomatch z) .inr
      | tm j => exact (S.own a _ e).elim (fun z => nomatch z) .inr
  fo := fun a q => by
    have z := S.fo a q
    unfold permT; rw [z]
  mu := fun a l q => by
    cases e : ow a with
    | none => unfold permT at q; rw [e] at q; cases q
    | some m => exact S.mu a m e
  pin := S.pin
  tabs := S.tabs
theorem StOk.swap {A B : List (D × V)} (S : StOk G C r (T ++ (A ++ B)) s H) : StOk G C r (T ++ (B ++ A)) s H := by
  obtain ⟨ow, S⟩ := S
  refine ⟨_, S.perm (f := fun i => if i < T.length then i else if i < T.length + A.length then i + B.length else i - A.length) fun j p q => ?_⟩
  by_cases h1 : j < T.length
  · refine ⟨j, ?_, if_pos h1⟩
    rw [List.getElem?_append_left h1] at q ⊢
    exact q
  · rw [List.getElem?_append_right (by omega)] at q
    by_cases h2 : j < T.length + B.length
    · rw [List.getElem?_append_left (by omega)] at q
      refine ⟨j + A.length, ?_, ?_⟩
      · rw [List.getElem?_append_right (by omega), List.getElem?_append_right (by omega), show j + A.length - T.length - A.length = j - T.length by omega]
        exact q
      · rw [if_neg (by omega), if_neg (by omega)]
        omega
    · rw [List.getElem?_append_right (by omega)] at q
      have hlt := (List.getElem?_eq_some_iff.mp q).1
      refine ⟨j - B.length, ?_, ?_⟩
      · rw [List.getElem?_append_right (by omega), List.getElem?_append_left (by omega), show j - B.length - T.length = j - T.length - B.length by omega]
        exact q
      · show (if j - B.length < T.length then j - B.length else if j - B.length < T.length + A.length then j - B.length + B.length else j - B.length - A.length) = j
        rw [if_neg (by omega), if_pos (by omega)]
        omega
abbrev VTs (X : Cx) (G : GX) (C : Fc) (W : WX) (ifs : List Expr) (fc : Option Ev) : Prop := PTs X ifs (tVT G C W (tstR fc))
theorem vts_nil : VTs X G C W [] none := by
  refine ⟨fun pins s σ H Q I h => pts_nil.run pins s σ H Q I ?_⟩
  obtain ⟨r, T, S, h⟩ := h
  exact h _ S
theorem vts_one {c : Expr} (h : VT X G C W c fc) : VTs X G C W [c] (some fc) := pts_one h
theorem lc_go {vs : List Nat} {t : Tg} {fi : Iv} {fc : Option Ev} {fe : Ev} {Q : VK} (hpin : ∀ p ∈ C.pin, p.1 ∉ vs) (ht : ∀ i ∈ t.slots, i ∈ vs) (h : tV G C W (cLc vs t fi fc fe) s H Q) :
    tLc (tVI G C W fi) (tVG G C t) (tVT G C W0 (tstR fc)) (tV G C W0 (cSet fe)) vs s H Q := by
  obtain ⟨r, T, S, h⟩ := h
  refine ⟨r, T, S, ?_⟩
  have h : Goes G C W T s Q (cLc vs t fi fc fe r) := h
  unfold cLc at h
  cases e : fi r with
  | exc c r1 => simp only [e] at h; exact h
  | bad => simp only [e] at h; exact h.elim
  | ok ds r1 =>
    simp only [e] at h
    intro J H1 tk hk S1 da hD
    have pins : ∀ {r' : Rho} {T' : List (D × V)} {s' : L2.St} {H' : Hp}, StOk G C r' T' s' H' → StOk G C (wipeR r' vs) T' (wipe s' vs) H' := fun {r' T' s' H'} ⟨ow', S'⟩ => ⟨ow', S'.wipes hpin⟩
    cases eL : lcL t fc fe vs ds [] (wipeR r1 vs) with
    | bad => rw [eL] at h; exact h.elim
    | ok acc r2 =>
      simp only [eL] at h
      -- the list is laid ahead of what is walked
      have S2 : StOk G C (wipeR r1 vs) (T ++ ([(.node .lst true [], .ref da)] ++ tk 0)) (wipe s vs) (upd H1 da (.lst [])) := by
        have z : StOk G C r1 ((T ++ tk 0) ++ [(.node .lst true [], .ref da)]) s (upd H1 da (.lst [])) := StOk.alloc (ds := []) (vs := []) true (by simpa using S1) rfl hD holds_lst (fun _ => trivial)
        rw [List.append_assoc] at z
        exact pins z.swap
      refine ⟨fun i m H' => m = ds.length - i ∧ i ≤ ds.length ∧ ∃ ac r', StOk G C (wipeR r' vs) (T ++ ([(.node .lst true ac, .ref da)] ++ tk i)) (wipe s vs) H' ∧ lcL t fc fe vs (ds.drop i) ac (wipeR r' vs) = .ok acc r2,
        ⟨ds.length, by simp, Nat.zero_le _, [], r1, S2, by simpa using eL⟩, ?_⟩
      rintro i m H' ⟨rfl, hi', ac, r', S', h'⟩
      rw [← List.append_assoc] at S'
      by_cases hlt : i < ds.length
      · have ed : ds[i]? = some ds[i] := List.getElem?_eq_getElem hlt
        obtain ⟨k1, k2⟩ := hk.1 i ds[i] _ _ _ H' ed S'
        rw [List.drop_eq_getElem_cons hlt] at h'
        refine .inr ⟨k1, fun H' => i + 1 ≤ ds.length ∧ ∃ ac r', StOk G C (wipeR r' vs) (T ++ ([(.node .lst true ac, .ref da)] ++ tk (i + 1))) (wipe s vs) H' ∧ lcL t fc fe vs (ds.drop (i + 1)) ac (wipeR r' vs) = .ok acc r2,
          fun H2 n2 => ⟨ds.length - (i + 1), by omega, rfl, n2.1, n2.2⟩, fun x H2 y => ?_⟩
        have S3 := k2 x H2 y
        refine ⟨_, _, ds[i], S3, ?_⟩
        unfold lcL at h'
        cases e1 : tgt t ds[i] (wipeR r' vs) with
        | none => simp only [e1] at h'; cases h'
        | some r3 =>
          simp only [e1] at h' ⊢
          intro s4 H4 S4 b4
          have hw : wipe s4 vs = wipe s vs := wipe_but b4 ht
          refine ⟨hw, _, _, S4, ?_⟩
          cases e2 : tstR fc r3 with
          | exc c r4 => simp only [e2] at h'; cases h'
          | bad => simp only [e2] at h'; cases h'
          | ok xb r4 =>
            simp only [e2] at h' ⊢
            cases xb with
            | loc _ => cases h'
            | val db =>
              cases db with
              | bl b =>
                cases b with
                | false =>
                  intro H5 S5
                  rw [if_neg Bool.false_ne_true]
                  have S6 := pins S5
                  rw [hw] at S6
                  rw [List.append_assoc] at S6
                  exact ⟨hlt, ac, r4, S6, h'⟩
                | true =>
                  intro H5 S5
                  rw [if_pos rfl]
                  refine ⟨_, _, S5, ?_⟩
                  simp only at h'
                  cases e3 : cSet fe r4 with
                  | exc c r5 => simp only [e3] at h'; cases h'
                  | bad => simp only [e3] at h'; cases h'
                  | ok xe r5 =>
                    cases xe with
                    | loc _ => simp only [e3] at h'; cases h'
                    | val d =>
                      simp only [e3] at h'
                      split at h'
                      · rename_i hz
                        intro yv H6 P6
                        have S6 : StOk G C r5 (T ++ [(.node .lst true ac, .ref da)] ++ tk (i + 1) ++ [(d, yv)]) s4 H6 := P6.1
                        have S7 : StOk G C r5 (T ++ (([(.node .lst true ac, .ref da)] ++ tk (i + 1)) ++ [(d, yv)])) s4 H6 := by simpa [List.append_assoc] using S6
                        have S8 : StOk G C r5 ((T ++ tk (i + 1)) ++ [(.node .lst true ac, .ref da), (d, yv)]) s4 H6 := by
                          have z : StOk G C r5 (T ++ ([(.node .lst true ac, .ref da)] ++ (tk (i + 1) ++ [(d, yv)]))) s4 H6 := by simpa [List.append_assoc] using S6
                          have z2 : StOk G C r5 ((T ++ tk (i + 1)) ++ ([(d, yv)] ++ [(.node .lst true ac, .ref da)])) s4 H6 := by simpa [List.append_assoc] using z.swap
                          exact z2.swap
                        obtain ⟨ow8, S8⟩ := S8
                        obtain ⟨vs', q1, q2, S9⟩ := S8.appT
                        refine ⟨vs', q1, by rw [q2, sizeLine_eq]; exact hz, hlt, ac ++ [d], r5, ?_, h'⟩
                        have S10 : StOk G C r5 (T ++ (tk (i + 1) ++ [(.node .lst true (ac ++ [d]), .ref da)])) s4 (upd H6 da (.lst (vs' ++ [yv]))) := ⟨_, by rw [← List.append_assoc]; exact S9⟩
                        have S11 := pins S10.swap
                        rw [hw] at S11
                        exact S11
                      · cases h'
              | _ => cases h'
      · have ei : i = ds.length := by omega
        subst ei
        rw [List.drop_length] at h'
        unfold lcL at h'
        injection h' with e1 e2
        subst e1
        subst e2
        refine .inl ⟨hk.2 _ _ _ H' S', ?_⟩
        have S3 : StOk G C (wipeR r' vs) (T ++ [(.node .lst true ac, .ref da)]) (wipe s vs) H' := S'.drop
        obtain ⟨ow0, S0⟩ := S1
        obtain ⟨ow3, S3⟩ := S3
        exact h _ _ ⟨⟨ow3, S0.back S3⟩, trivial⟩
end
end VL

namespace VL
open PySem PySem.Spec PyProof.Rows L2
section
variable {X : Cx} {G : GX} {C : Fc} {W : WX} {ow ow' : Ow} {r : Rho} {T T1 T2 : List (D × V)} {s : L2.St} {H H' : Hp} {fa fb fc : Ev} {f g : Sv} {fs : Av}
theorem ve_lc {elt tg iter : Expr} {ifs : List Expr} {scope : Scope} {own : List (Str × Nat)} {pos : Pos} {fi : Iv} {t : Tg} {ft : Option Ev} {fe : Ev} (hc : X.calm = true) (hN : X.N.Nodup) (hi : VI X G C W tg iter fi) (ok : BlkOk X.N X.env.scope scope own)
    (hpin : ∀ p ∈ C.pin, p.1 ∉ own.map (·.2)) (hts : ∀ i ∈ t.slots, i ∈ own.map (·.2))
    (hg : ∀ (s : Shared) (H : Hp) (ca : Addr) (cl : List (Str × Addr)) (fp : List Addr), VG (X.blk s H scope (compEnvC scope cl ca X.env) fp) G C tg t) (ht : ∀ (s : Shared) (H : Hp) (ca : Addr) (cl : List (Str × Addr)) (fp : List Addr), VTs (X.blk s H scope (compEnvC scope cl ca X.env) fp) G C W0 ifs ft)
    (he : ∀ (s : Shared) (H : Hp) (ca : Addr) (cl : List (Str × Addr)) (fp : List Addr), VE (X.blk s H scope (compEnvC scope cl ca X.env) fp) G C W0 elt fe) (hs : ∀ x, foldedSetIterable iter X.env x = pure x := by intro _; rfl) :
    VE X G C W (.ListComp elt [⟨tg, iter, ifs, 0⟩] scope pos) (cLc (own.map (·.2)) t fi ft fe) :=
  PE.imp (pe_lc hc hN hi ok hg ht (fun s H ca cl fp => ve_set (he s H ca cl fp)) hs) fun s H Q h => lc_go hpin hts h
inductive FO where
  | ok (d : D) | exc (c : Nat) | bad
def Behind (G : GX) (ow0 : Ow) (H H' : Hp) (d : D) (v : V) : Prop :=
  ∃ (ow1 : Ow) (b : Bs), b ≠ .fo ∧ Rep G ow1 H' d ⟨b, []⟩ v ∧ (∀ a l, ow1 a = some l → l.b ≠ .fo → H a = none) ∧ (∀ a, ow0 a ≠ none → ow1 a = some ⟨.fo, []⟩) ∧ ∀ a l, ow1 a = some l → OwnO (H' a)
def spV (G : GX) (n : Nat) (F : List D → FO) : Sp := fun vs H Q E => ∃ (ds : List D) (ow0 : Ow), ds.length = n ∧ frzs ds = ds ∧ (∀ a l, ow0 a = some l → OwnO (H a)) ∧ Reps G ow0 H ds ⟨.fo, []⟩ 0 vs ∧ LamX.Tabs G.T H ∧ match F ds with
  | .ok d => ∀ v H', Ext H H' → LamX.Tabs G.T H' → Behind G ow0 H H' d v → Q v H'
  | .exc c => ∀ H', Ext H H' → LamX.Tabs G.T H' → E (.ref (G c)) none H'
  | .bad => False
theorem spV_len {n : Nat} {F : List D → FO} {vs : List V} {Q : VK} {E : XK} (h : spV G n F vs H Q E) : vs.length = n := by
  obtain ⟨ds, ow0, h1, _, _, h4, _⟩ := h
  rw [← h4.length, h1]
def startR (n : Nat) (ds : List D) : Rho := ds.map some ++ List.replicate (n - ds.length) none
def runF (n : Nat) (f : Sv) (ds : List D) : FO := match f (startR n ds) with
  | .rt x r => (match opd r x with
    | some d => .ok d
    | none => .bad)
  | .nx _ => .ok .non
  | .exc c _ => .exc c
  | _ => .bad
def fcOf (H : Hp) (ow0 : Ow) : Fc := ⟨H, fun _ => False, fun a => ow0 a ≠ none, []⟩
def owOf (ow0 : Ow) : Ow := fun a => match ow0 a with
  | some _ => some ⟨.fo, []⟩
  | none => none
theorem start_get {N : List Str} {vs : List V} {i : Nat} {v : V} (h : vs[i]? = some v) : (L2.start N vs)[i]? = some (some v) := by
  unfold L2.start
  rw [List.getElem?_append_left (by simpa using (List.getElem?_eq_some_iff.mp h).1), List.getElem?_map, h]; rfl
theorem startR_get {n : Nat} {ds : List D} {i : Nat} {d : D} (h : (startR n ds)[i]? = some (some d)) : ds[i]? = some d := by
  unfold startR at h
  by_cases hi : i < ds.length
  · rw [List.getElem?_append_left (by simpa using hi), List.getElem?_map] at h
    cases e : ds[i]? with
    | none => rw [e] at h; cases h
    | some a => rw [e] at h; cases h; rfl
  · rw [List.getElem?_append_right (by simpa using hi), List.getElem?_replicate] at h
    split at h <;> cases h
theorem start_ok {N : List Str} {ds : List D} {vs : List V} {ow0 : Ow} (ht : LamX.Tabs G.T H) (hm : ∀ a l, ow0 a = some l → OwnO (H a)) (e : frzs ds = ds) (h : Reps G ow0 H ds ⟨.fo, []⟩ 0 vs) : StW G (fcOf H ow0) (owOf ow0) (startR N.length ds) [] (L2.start N vs) H where
  len := by
    unfold startR L2.start
    simp [h.length]
  sl := fun i d q => by
    obtain ⟨v, h1, h2⟩ := h.get i d (startR_get q)
    have f : frz d = d := by
      have := congrArg (·[i]?) e
      simp only [frzs_map, List.getElem?_map, startR_get q, Option.map_some] at this
      exact Option.some.inj this
    exact ⟨v, start_get h1, Rep.moveF d f (fun a o z q => ⟨z, by unfold owOf; rw [q]⟩) (fun _ _ z _ => z) h2⟩
  tm := fun j d v q => by simp at q
  old := fun a o _ z => .inl z
  own := fun a l q => by
    unfold owOf at q
    split at q
    · cases q; exact .inl rfl
    · cases q
  fo := fun a q => by
    unfold owOf
    cases e : ow0 a with
    | none => exact absurd e q
    | some l => rfl
  mu := fun a l q => by
    unfold owOf at q
    split at q
    · rename_i m e; exact hm a m e
    · cases q
  pin := fun p hp => by simp [fcOf] at hp
  tabs := ht
theorem behind_of {ow0 : Ow} {d : D} {v : V} {b : Bs} (hb : b ≠ .fo) {r : Rho} {T : List (D × V)} {s : L2.St} (S : StW G (fcOf H ow0) ow r T s H') (h : Rep G ow H' d ⟨b, []⟩ v) : Behind G ow0 H H' d v :=
  ⟨ow, b, hb, h, fun a l q n => (S.own a l q).elim (fun z => absurd z n) fun z => z.elim id False.elim, fun a q => S.fo a q, S.mu⟩
theorem ext_of {ow0 : Ow} {r : Rho} {T : List (D × V)} {s : L2.St} (S : StW G (fcOf H ow0) ow r T s H') : Ext H H' := fun a o q => S.old a o (fun z => z) q
end
section
variable {P : Program} {w : World} {K : PySem.W.Frag} {mg : Str → Option Value} {base : Heap} {G : GX}
end

def isTup : Kd → Bool
  | .tup => true
  | _ => false
mutual
/-- no list, dict or instance in it is shared -/
def noL : D → Bool
  | .node k o xs => (o || isTup k) && noLs xs
  | .any => false
  | _ => true
def noLs : List D → Bool
  | [] => true
  | d :: ds => noL d && noLs ds
end
def callK (F : List D → FO) (xs : List R) (r : Rho) : EO := match opds r xs with
  | some ds => (match F (frzs ds) with
    | .ok d => if noL d = true then .ok (.val d) r else .ok (.val d) (settles r xs)
    | .exc c => .exc c r
    | .bad => .bad)
  | none => .bad
def cCall (n : Nat) (F : List D → FO) (fs : Av) : Ev := fun r => (fs r).bd fun xs r1 => if xs.length = n then callK F xs r1 else .bad
section
variable {X : Cx} {G : GX} {C : Fc} {W : WX} {ow ow' : Ow} {r : Rho} {T T1 T2 : List (D × V)} {s : L2.St} {H H' : Hp} {fs : Av}
def aft (H : Hp) (ow ow1 : Ow) (n : Nat) : Ow := fun a => match H a with
  | none => (match ow1 a with
    | some l => some ⟨.tm n, l.p⟩
    | none => none)
  | some _ => ow a
mutual
theorem Rep.aft : ∀ (d : D) {l l' : Loc} {v : V} {ow1 : Ow} {n : Nat}, (∀ a k vs, isR k ≠ true → Holds G H' a k vs → (isTup k = true ∨ VL.noL d = false) → ow1 a = none → H a ≠ none → ow a = none) → (∀ a m, ow1 a = some m → m.b ≠ .fo → H a = none) → l.b ≠ .fo → l'.b = .tm n → l'.p = l.p → Rep G ow1 H' d l v → Rep G (VL.aft H ow ow1 n) H' d l' v
  | .any, _, _, _, _, _, _, _, _, _, _, _ => trivial
  | .non, _, _, _, _, _, _, _, _, _, _, h => h
  | .bl _, _, _, _, _, _, _, _, _, _, _, h => h
  | .int _, _, _, _, _, _, _, _, _, _, _, h => h
  | .str _, _, _, _, _, _, _, _, _, _, _, h => h
  | .exc _, _, _, _, _, _, _, _, _, _, _, h => h
  | .ty _, _, _, _, _, _, _, _, _, _, _, h => h
  | .cls _, _, _, _, _, _, _, _, _, _, _, h => h
  | .node k o xs, l, l', v, ow1, n, hz, hn, hb, hb', hp, h => by
    obtain ⟨a, vs, ev, h1, h2, h3⟩ := h
    have un : VL.noLs xs = false → VL.noL (.node k o xs) = false := fun z => by
      show ((o || isTup k) && VL.noLs xs) = false
      rw [z, Bool.and_false]
    refine ⟨a, vs, ev, h1, ?_, Reps.aft xs (fun a k' vs' nr z y => hz a k' vs' nr z (y.imp id un)) hn hb hb' hp h3⟩
    by_cases hrd : isR k = true
    · exact .ofR hrd
    have h2 := h2.cases.resolve_left hrd
    refine .mk ?_
    cases o with
    | true =>
      have q : ow1 a = some l := by simpa using h2
      have z := hn a l q hb
      unfold VL.aft
      rw [z, q]
      obtain ⟨lb, lp⟩ := l'
      cases hb'
      cases hp
      rfl
    | false =>
      have q : ow1 a = none := by simpa using h2
      have hk : isTup k = true ∨ VL.noL (.node k false xs) = false := by
        cases e : isTup k with
        | true => exact .inl rfl
        | false =>
          refine .inr ?_
          show ((false || isTup k) && VL.noLs xs) = false
          rw [e]; rfl
      unfold VL.aft
      cases z : H a with
      | none => simp only [q]; rfl
      | some u => exact hz a k vs hrd h1 hk q (by rw [z]; exact fun y => nomatch y)
theorem Reps.aft : ∀ (ds : List D) {l l' : Loc} {i : Nat} {vs : List V} {ow1 : Ow} {n : Nat}, (∀ a k vs, isR k ≠ true → Holds G H' a k vs → (isTup k = true ∨ VL.noLs ds = false) → ow1 a = none → H a ≠ none → ow a = none) → (∀ a m, ow1 a = some m → m.b ≠ .fo → H a = none) → l.b ≠ .fo → l'.b = .tm n → l'.p = l.p → Reps G ow1 H' ds l i vs → Reps G (VL.aft H ow ow1 n) H' ds l' i vs
  | [], _, _, _, _, _, _, _, _, _, _, _, h => h
  | d :: ds, l, l', i, vs, ow1, n, hz, hn, hb, hb', hp, h => by
    obtain ⟨v, ws, ev, h1, h2⟩ := h
    have u1 : VL.noL d = false → VL.noLs (d :: ds) = false := fun z => by show (VL.noL d && VL.noLs ds) = false; rw [z]; rfl
    have u2 : VL.noLs ds = false → VL.noLs (d :: ds) = false := fun z => by show (VL.noL d && VL.noLs ds) = false; rw [z, Bool.and_false]
    exact ⟨v, ws, ev, Rep.aft (l := l.sub i) (l' := l'.sub i) d (fun a k vs nr z y => hz a k vs nr z (y.imp id u1)) hn hb hb' (by show l'.p ++ [i] = l.p ++ [i]; rw [hp]) h1, Reps.aft ds (fun a k vs nr z y => hz a k vs nr z (y.imp id u2)) hn hb hb' hp h2⟩
end
theorem StW.aft {d : D} {v : V} {ow1 : Ow} (S : StW G C ow r T s H) (hx : Ext H H') (et : LamX.Tabs G.T H') (hm : ∀ a m, ow1 a = some m → OwnO (H' a)) (hr : Rep G (VL.aft H ow ow1 T.length) H' d ⟨.tm T.length, []⟩ v) : StW G C (VL.aft H ow ow1 T.length) r (T ++ [(d, v)]) s H' := by
  have keep : ∀ a o, H a = some o → VL.aft H ow ow1 T.length a = ow a := fun a o z => by unfold VL.aft; rw [z]
  have S' : StW G C (VL.aft H ow ow1 T.length) r T s H' := by
    refine ⟨S.len, fun i d q => ?_, fun j d v q => ?_, fun a o n q => (S.old a o n q).bind fun u q => hx a u q, fun a l q => ?_, fun a q => ?_, fun a l q => ?_, S.pin, et⟩
    · obtain ⟨v', z1, z2⟩ := S.sl i d q
      exact ⟨v', z1, Rep.mono (l := ⟨.sl i, []⟩) d (fun a o z _ => hx a o z) (fun a o z _ => hx a o z) (fun a o z n => by rw [keep a o z, n]) (fun a o q z n => by rw [keep a o z, n]) z2⟩
    · exact Rep.mono (l := ⟨.tm j, []⟩) d (fun a o z _ => hx a o z) (fun a o z _ => hx a o z) (fun a o z n => by rw [keep a o z, n]) (fun a o q z n => by rw [keep a o z, n]) (S.tm j d v q)
    · cases z : H a with
      | some o => rw [keep a o z] at q; exact S.own a l q
      | none =>
        refine .inr ?_
        cases e : C.H0 a with
        | none => exact .inl rfl
        | some u =>
          by_cases hi : C.io a
          · exact .inr hi
          · exact ((S.old a u hi e).on z).elim
    · have z := S.fo a q
      have m := S.mu a _ z
      cases y : H a with
      | none => rw [y] at m; exact m.elim
      | some o => rw [keep a o y]; exact z
    · cases z : H a with
      | some o =>
        rw [keep a o z] at q
        have m := S.mu a l q
        rw [z] at m
        rw [(hx a o z).get m.nt]
        exact m
      | none =>
        unfold VL.aft at q
        rw [z] at q
        cases y : ow1 a with
        | none => rw [y] at q; cases q
        | some m => exact hm a m y
  exact S'.push hr
theorem call_go {n : Nat} {F : List D → FO} {Q : VK} {xs : List R} {vs : List V} (S : StOk G C r (T ++ pushs xs vs) s H) (l : LocsOk s xs vs) (h : Goes G C W T s Q (if xs.length = n then callK F xs r else .bad)) : spV G n F vs H Q (WE W s) := by
  split at h
  · rename_i hn
    unfold callK at h
    cases e : opds r xs with
    | none => rw [e] at h; exact h.elim
    | some ds =>
      simp only [e] at h
      obtain ⟨ow, S⟩ := S
      obtain ⟨ow0, S0, h1, h2, h3⟩ := S.settles l e
      refine ⟨frzs ds, ow0, ?_, frzs_frzs ds, S0.mu, h1 _ _, S0.tabs, ?_⟩
      · rw [(h1 ⟨.fo, []⟩ 0).length, ← l.length, hn]
      cases e2 : F (frzs ds) with
      | bad => rw [e2] at h; exact h.elim
      | exc c =>
        simp only [e2] at h
        exact fun H' hx et => h H' ⟨ow, S.drop.ext hx et⟩
      | ok d =>
        simp only [e2] at h
        intro v H' hx et hb
        obtain ⟨ow1, b, b1, b2, b3, b4, b5⟩ := hb
        split at h
        · rename_i hno
          have hr : Rep G (VL.aft H ow ow1 T.length) H' d ⟨.tm T.length, []⟩ v := Rep.aft (l := ⟨b, []⟩) d (fun a k vs _ z y q nz => by
            rcases y with y | y
            · cases k with
              | tup =>
                cases y2 : ow a with
                | none => rfl
                | some m =>
                  have mu := S.mu a m y2
                  cases z2 : H a with
                  | none => exact absurd z2 nz
                  | some u =>
                    rw [z2] at mu
                    have z3 := (hx a u z2).get mu.nt
                    rw [show H' a = some (.tup vs) from z] at z3
                    cases z3
                    exact mu.elim
              | _ => cases y
            · rw [hno] at y; cases y) b3 b1 rfl rfl b2
          exact h v H' ⟨⟨_, StW.aft S.drop hx et b5 hr⟩, trivial⟩
        · have hr : Rep G (VL.aft H ow0 ow1 T.length) H' d ⟨.tm T.length, []⟩ v := Rep.aft (l := ⟨b, []⟩) d (fun a k vs _ z y q nz => by
            cases y2 : ow0 a with
            | none => rfl
            | some m =>
              have := b4 a (by rw [y2]; exact fun z => nomatch z)
              rw [q] at this
              cases this) b3 b1 rfl rfl b2
          exact h v H' ⟨⟨_, StW.aft S0 hx et b5 hr⟩, trivial⟩
  · exact h.elim
theorem ve_call {n k : Nat} {F : List D → FO} {f : Addr} {fd : FuncData} {ps : List Str} {x : Str} {p pos : Pos} {e : Expr} {es : List Expr} (tk : Takes X W) (Fk : FnOk X.prog X.w X.K X.mg X.base (L2.CX X.prog X.w) k f fd ps (spV G n F)) (hr : Room k X.A) (hg : Gl X x) (hm : X.mg x = some (.ref f))
    (hk : PySem.W.keepIn X.K (.ref f) = true) (hb : Binds X.K fd ps []) (ha : VA X G C W (e :: es) fs) (hdb : (x == ("__debug__" : Str)) = false := by decide) (he : starEach (e :: es) X.env = (false, eval e X.env) :: starEach es X.env := by rfl) (hpl : (backTo pos (starEach es X.env)).any (·.1) = false := by rfl) :
    VE X G C W (.Call (.Name x p) (e :: es) [] pos) (cCall n F fs) := by
  refine PE.imp (pe_callS Fk hr hg hm hk hb (fun σ => passAt tk σ) ha hdb he hpl) fun s H Q h => ?_
  obtain ⟨r, T, S, g⟩ := h
  exact many (T2 := []) (by simpa using S) g fun xs vs r1 H1 S1 l1 g1 => call_go (by simpa using S1) l1 g1
end
end VL

namespace VL
open PySem PySem.Spec PyProof.Rows L2
section
variable {X : Cx} {G : GX} {C : Fc} {W : WX} {ow ow' : Ow} {r : Rho} {T T1 T2 : List (D × V)} {s : L2.St} {H H' : Hp} {fa fb fc : Ev} {fs : Av}
theorem apart {i : Nat} {a b : Addr} {l : Loc} (ha : ow a = some ⟨.sl i, []⟩) (hb : ow b = none ∨ ∃ q, ow b = some (l.app q)) (hl : l.b ≠ .sl i ∨ l.p ≠ []) : b ≠ a := fun e => by
  subst e
  rw [ha] at hb
  rcases hb with hb | ⟨q, hb⟩
  · cases hb
  · have hb := Option.some.inj hb
    unfold Loc.app at hb
    injection hb with e1 e2
    rcases hl with hl | hl
    · exact hl e1.symm
    · exact hl (List.append_eq_nil_iff.mp e2.symm).1
theorem StW.write {i : Nat} {k k' : Kd} (hk : isR k ≠ true) {ds ds' : List D} {a : Addr} {vs' : List V} {ho : HO} {T' : List (D × V)} (S : StW G C ow r T s H) (q : r[i]? = some (some (.node k true ds))) (ha : s[i]? = some (some (.ref a)))
    (hm : OwnO (some ho)) (hh : Holds G (upd H a ho) a k' vs')
    (h1 : ∀ b, ow b = none → ow' b = none) (h2 : ∀ b j p, ow b = some ⟨.sl j, p⟩ → j ≠ i → ow' b = some ⟨.sl j, p⟩) (h4 : ∀ b p, ow b = some ⟨.fo, p⟩ → ow' b = some ⟨.fo, p⟩)
    (h5 : ∀ b l, ow' b = some l → ∃ l', ow b = some l' ∧ (l.b = .fo → l'.b = .fo)) (h5' : ∀ b l, ow' b = some l → l.b ≠ .fo → ∀ l', ow b = some l' → l'.b ≠ .fo) (h6 : ow' a = some ⟨.sl i, []⟩)
    (h7 : Reps G ow' (upd H a ho) ds' ⟨.sl i, []⟩ 0 vs') (h8 : ∀ (j : Nat) d v, T'[j]? = some (d, v) → Rep G ow' (upd H a ho) d ⟨.tm j, []⟩ v) :
    StW G C ow' (r.set i (some (.node k' true ds'))) T' s (upd H a ho) := by
  obtain ⟨v, z1, a', vs, ev, z2, z3, z4⟩ := S.sl i _ q
  rw [ha] at z1
  cases z1
  cases ev
  have oa : ow a = some ⟨.sl i, []⟩ := by simpa using z3.cases.resolve_left hk
  have exn : ∀ (b : Addr) (o : HO), H b = some o → ¬ OwnO (some o) → upd H a ho b = some o := fun b o z n => by
    rw [upd_ne (fun e => by have m := S.mu a _ oa; rw [e] at z; rw [z] at m; exact n m)]; exact z
  refine ⟨by simpa using S.len, fun j d' y => ?_, h8, fun b o n y => ?_, fun b l y => ?_, fun b y => h4 b _ (S.fo b y), fun b l y => ?_, S.pin, tabs_upd S.tabs (.inr (S.mu a _ oa))⟩
  · by_cases hj : j = i
    · subst hj
      have hlt : j < r.length := (List.getElem?_eq_some_iff.mp q).1
      rw [List.getElem?_set_self hlt] at y
      cases y
      exact ⟨_, ha, a, vs', rfl, hh, .mk (by simpa using h6), h7⟩
    · rw [List.getElem?_set_ne (Ne.symm hj)] at y
      obtain ⟨v', y1, y2⟩ := S.sl j d' y
      refine ⟨v', y1, Rep.mono (l := ⟨.sl j, []⟩) d' (fun b o z w => by rw [upd_ne (apart oa w (.inl (fun z => hj (by injection z))))]; exact .inl z) (fun b o z n => exn b o z n) (fun b o _ n => h1 b n) (fun b o p _ n => ?_) y2⟩
      exact h2 b j ([] ++ p) n hj
  · by_cases hb : b = a
    · subst hb
      rcases S.own b _ oa with z | z | z
      · cases z
      · rw [z] at y; cases y
      · exact absurd z n
    · rw [upd_ne hb]; exact S.old b o n y
  · obtain ⟨l', y1, y2⟩ := h5 b l y
    by_cases hf : l.b = .fo
    · exact .inl hf
    · rcases S.own b l' y1 with z | z
      · exact absurd z (h5' b l y hf l' y1)
      · exact .inr z
  · by_cases hb : b = a
    · subst hb; rw [upd_same]; exact hm
    · rw [upd_ne hb]
      obtain ⟨l', y1, _⟩ := h5 b l y
      exact S.mu b l' y1
def intoSl (ow : Ow) (n i k : Nat) : Ow := fun a => match ow a with
  | some ⟨.tm j, p⟩ => if j = n then some ⟨.sl i, k :: p⟩ else some ⟨.tm j, p⟩
  | some ⟨.sl j, p⟩ => if j = i ∧ p.head? = some k then none else some ⟨.sl j, p⟩
  | x => x
theorem into_fo {n i k : Nat} {b : Addr} {l : Loc} (h : intoSl ow n i k b = some l) : ∃ l', ow b = some l' ∧ (l.b = .fo ↔ l'.b = .fo) := by
  unfold intoSl at h
  cases e : ow b with
  | none => rw [e] at h; cases h
  | some m =>
    rw [e] at h
    obtain ⟨mb, mp⟩ := m
    refine ⟨_, rfl, ?_⟩
    cases mb with
    | tm j =>
      simp only at h
      split at h <;> (cases h; exact ⟨(fun z => nomatch z), (fun z => nomatch z)⟩)
    | sl j =>
      simp only at h
      split at h
      · cases h
      · cases h; exact ⟨(fun z => nomatch z), (fun z => nomatch z)⟩
    | fo => cases h; exact Iff.rfl
theorem StW.into {i k : Nat} {ds ds' : List D} {d : D} {a : Addr} {v : V} (S : StW G C ow r (T ++ [(d, v)]) s H) (q : r[i]? = some (some (.node .lst true ds))) (ha : s[i]? = some (some (.ref a)))
    (hds : (ds' = ds.set k d ∧ k < ds.length) ∨ (ds' = ds ++ [d] ∧ k = ds.length)) : ∃ vs, H a = some (.lst vs) ∧ vs.length = ds.length ∧
    StW G C (intoSl ow T.length i k) (r.set i (some (.node .lst true ds'))) T s (upd H a (.lst (if k < ds.length then vs.set k v else vs ++ [v]))) := by
  obtain ⟨v', z1, a', vs, ev, z2, z3, z4⟩ := S.sl i _ q
  rw [ha] at z1
  cases z1
  cases ev
  have oa : ow a = some ⟨.sl i, []⟩ := by simpa [OwnAt] using z3
  have hl := z4.length
  have exn : ∀ (b : Addr) (o ho : HO), H b = some o → ¬ OwnO (some o) → upd H a ho b = some o := fun b o ho z n => by
    rw [upd_ne (fun e => by rw [e, show H a = some (.lst vs) from z2] at z; cases z; exact n trivial)]; exact z
  refine ⟨vs, z2, hl.symm, StW.write (k := .lst) (ow' := intoSl ow T.length i k) (fun z => nomatch z) S q ha trivial (vs' := if k < ds.length then vs.set k v else vs ++ [v]) upd_same (fun b n => by unfold intoSl; rw [n]) (fun b j p n hj => ?_) (fun b p n => by unfold intoSl; rw [n]) (fun b l y => ?_) (fun b l y n l' y2 => ?_) ?_ ?_ (fun j d' w y => ?_)⟩
  · unfold intoSl; rw [n]; exact if_neg (fun z => hj z.1)
  · obtain ⟨l', y1, y2⟩ := into_fo y
    exact ⟨l', y1, y2.mp⟩
  · obtain ⟨l2, y1, y3⟩ := into_fo y
    rw [y2] at y1
    cases y1
    exact fun z => n (y3.mpr z)
  · unfold intoSl; rw [oa]; simp
  · -- the parts
    have old : ∀ (m : Nat) dm vm, m ≠ k → ds[m]? = some dm → vs[m]? = some vm → Rep G (intoSl ow T.length i k) (upd H a (.lst (if k < ds.length then vs.set k v else vs ++ [v]))) dm (Loc.sub ⟨.sl i, []⟩ (0 + m)) vm := fun m dm vm hm q1 q2 => by
      obtain ⟨vm', y1, y2⟩ := z4.get m dm q1
      rw [q2] at y1
      cases y1
      refine Rep.mono (l := Loc.sub ⟨.sl i, []⟩ (0 + m)) dm (fun b o z w => by rw [upd_ne (apart oa w (.inr (by simp [Loc.sub])))]; exact .inl z) (fun b o z n => .inl (exn b o _ z n)) (fun b o _ n => by unfold intoSl; rw [n]) (fun b o p _ n => ?_) y2
      have n' : ow b = some ⟨.sl i, m :: p⟩ := by rw [n]; simp [Loc.sub, Loc.app]
      unfold intoSl
      rw [n']
      have : ¬ (i = i ∧ (m :: p).head? = some k) := by simp [hm]
      simp [Loc.sub, Loc.app, hm]
    have new : Rep G (intoSl ow T.length i k) (upd H a (.lst (if k < ds.length then vs.set k v else vs ++ [v]))) d (Loc.sub ⟨.sl i, []⟩ (0 + k)) v := by
      refine Rep.mono (l := ⟨.tm T.length, []⟩) d (fun b o z w => by rw [upd_ne (apart oa w (.inl (fun z => nomatch z)))]; exact .inl z) (fun b o z n => .inl (exn b o _ z n)) (fun b o _ n => by unfold intoSl; rw [n]) (fun b o p _ n => ?_) S.last
      have n' : ow b = some ⟨.tm T.length, [] ++ p⟩ := n
      unfold intoSl
      rw [n']
      simp [Loc.sub, Loc.app]
    rcases hds with ⟨e, hk⟩ | ⟨e, hk⟩
    · subst e
      refine Reps.of_get (by rw [if_pos hk]; simp [hl]) fun m dm vm q1 q2 => ?_
      rw [if_pos hk] at q2
      by_cases hm : m = k
      · subst hm
        rw [List.getElem?_set_self hk] at q1
        rw [List.getElem?_set_self (by omega)] at q2
        cases q1; cases q2
        exact new
      · rw [List.getElem?_set_ne (Ne.symm hm)] at q1 q2
        exact old m dm vm hm q1 q2
    · subst e
      subst hk
      refine Reps.of_get (by rw [if_neg (by omega)]; simp [hl]) fun m dm vm q1 q2 => ?_
      rw [if_neg (by omega)] at q2
      by_cases hm : m < ds.length
      · rw [List.getElem?_append_left hm] at q1
        rw [List.getElem?_append_left (by omega)] at q2
        exact old m dm vm (by omega) q1 q2
      · rw [List.getElem?_append_right (by omega)] at q1
        rw [List.getElem?_append_right (by omega), ← hl] at q2
        have em : m = ds.length := by
          have := (List.getElem?_eq_some_iff.mp q1).1
          simp at this; omega
        subst em
        simp at q1 q2
        subst q1; subst q2
        exact new
  · have hj : j < T.length := (List.getElem?_eq_some_iff.mp y).1
    have z := S.tm j d' w (by rw [List.getElem?_append_left hj]; exact y)
    refine Rep.mono (l := ⟨.tm j, []⟩) d' (fun b o z w => by rw [upd_ne (apart oa w (.inl (fun z => nomatch z)))]; exact .inl z) (fun b o z n => .inl (exn b o _ z n)) (fun b o _ n => by unfold intoSl; rw [n]) (fun b o p _ n => ?_) z
    have n' : ow b = some ⟨.tm j, [] ++ p⟩ := n
    unfold intoSl
    rw [n']
    have : ¬ j = T.length := by omega
    simp [Loc.app, this]

def isLst (r : Rho) (i : Nat) : Bool := match r[i]? with
  | some (some (.node .lst _ _)) => true
  | _ => false
def appK (i : Nat) (x : R) (r1 : Rho) : EO := match x, r1[i]? with
  | .val d, some (some (.node .lst true ds)) => if ds.length < 16777216 then .ok (.val .non) (r1.set i (some (.node .lst true (ds ++ [d])))) else .bad
  | _, _ => .bad
def cApp (i : Nat) (fa : Ev) : Ev := fun r => if isLst r i = true then (cSet fa r).bd (appK i) else .bad
theorem isLst_at {i : Nat} (h : isLst r i = true) : ∃ o ds, r[i]? = some (some (.node .lst o ds)) := by
  unfold isLst at h
  split at h
  · rename_i o ds e; exact ⟨o, ds, e⟩
  · cases h
theorem ve_app {i : Nat} {x : Str} {e : Expr} {p apos cpos : Pos} (hN : X.N[i]? = some x) (hv : Vis X.env.scope x) (hd : (x == ("__debug__" : Str)) = false) (hcd : (x == ("__classdict__" : Str)) = false) (ha : VE X G C W e fa)
    (hbase : attributeBase (.Name x p) "append" X.env (eval (.Name x p) X.env) = eval (.Name x p) X.env := by rfl)
    (hfew : ((backTo cpos (starEach [e] X.env)).all (fun x => !x.1) && (backToKw cpos (keywordEach [] X.env)).all (fun x => x.1.isSome)
      && decide ([e].length + ([] : List Keyword).length + (if ([] : List Keyword).isEmpty then 0 else 1) < 30)) = true := by rfl)
    (hline : (apos.endLine == cpos.line) = true := by rfl) (hs : starEach [e] X.env = (false, eval e X.env) :: starEach [] X.env := by rfl) (hplain : (backTo cpos (starEach [] X.env)).any (·.1) = false := by rfl) :
    VE X G C W (.Call (.Attribute (.Name x p) "append" apos) [e] [] cpos) (cApp i fa) := by
  refine PE.imp (pe_bm PySem.F.plainAttrs_list PySem.F.slot_list_append PySem.F.type_list_append mt_append (pe_var hN hv hd hcd) (pa_cons (ve_set ha) pa_nil hs) hbase hfew hline hs hplain) fun s H Q h => ?_
  obtain ⟨r, T, S, g⟩ := h
  have g : Goes G C W T s Q (cApp i fa r) := g
  unfold cApp at g
  split at g
  · rename_i hi
    obtain ⟨o, ds, hr⟩ := isLst_at hi
    obtain ⟨ow, S0⟩ := S
    obtain ⟨v, v1, a, vs, ev, v2, v3, v4⟩ := S0.sl i _ hr
    subst ev
    refine ⟨_, v1, .inl ⟨rfl, vs, SqL.of v2⟩, ?_⟩
    refine one (fa := cSet fa) ⟨ow, S0⟩ g fun x v' r1 H1 P g1 => ?_
    unfold appK at g1
    split at g1
    · rename_i d ds' q
      split at g1
      · rename_i hz
        obtain ⟨ow1, S1⟩ := P.1
        obtain ⟨vs', w1, w2, S2⟩ := StW.into S1 q v1 (.inr ⟨rfl, rfl⟩)
        rw [if_neg (Nat.lt_irrefl _)] at S2
        exact ⟨a, vs', v', rfl, rfl, w1, by rw [w2, sizeLine_eq]; exact hz, g1 _ _ ⟨StOk.pushN ⟨_, S2⟩, trivial⟩⟩
      · exact g1.elim
    · exact g1.elim
  · exact g.elim

def setIxK (i : Nat) (x y : R) (r1 : Rho) : SO := match x, opd r1 y, r1[i]? with
  | .val d, some (.int k), some (some (.node .lst true ds)) => (match ixN ds.length k with
    | some j => .nx (r1.set i (some (.node .lst true (ds.set j d))))
    | none => .bad)
  | _, _, _ => .bad
def cSetIx (i : Nat) (fk fa : Ev) : Sv := fun r => (cSet fa r).st fun x r1 => if isLst r1 i = true then (fk r1).st (setIxK i x) else .bad
def idxD (ds : List D) (d : D) : Option Nat := ds.findIdx? fun e => PyData.eqv (toPy e) (toPy d)
def gIndex : G2 := fun x y r => match opd r x, opd r y with
  | some (.node .lst _ ds), some d => if (flatD d && ds.all flatD) = true then (match idxD ds d with
    | some j => .ok (.val (.int (j : Nat))) r
    | none => .bad) else .bad
  | _, _ => .bad
end
end VL

namespace VL
open PySem PySem.Spec PyProof.Rows L2
inductive MO where
  | ok (d d0 : D) | bad
def spM (G : GX) (n : Nat) (F : D → List D → MO) : Sp := fun vs H Q E => ∃ (d0 : D) (ds : List D) (v0 : V) (us : List V) (ow0 : Ow), vs = v0 :: us ∧ ds.length = n ∧ frzs ds = ds ∧ Rep G ow0 H d0 ⟨.sl 0, []⟩ v0 ∧ Reps G ow0 H ds ⟨.fo, []⟩ 0 us ∧
  (∀ a l, ow0 a = some l → OwnO (H a) ∧ (l.b = .sl 0 ∨ l = ⟨.fo, []⟩)) ∧ LamX.Tabs G.T H ∧ match F d0 ds with
  | .ok d d0' => ∀ v H' (ow1 : Ow) (b : Bs), (∀ a o, (∀ p, ow0 a ≠ some ⟨.sl 0, p⟩) → H a = some o → Kt (H' a) o) → b ≠ .fo → b ≠ .sl 0 → Rep G ow1 H' d ⟨b, []⟩ v → Rep G ow1 H' d0' ⟨.sl 0, []⟩ v0 →
      (∀ a l, ow1 a = some l → l.b ≠ .fo → H a = none ∨ ∃ p, ow0 a = some ⟨.sl 0, p⟩) → (∀ a, ow0 a = some ⟨.fo, []⟩ → ow1 a = some ⟨.fo, []⟩) → (∀ a l, ow1 a = some l → OwnO (H' a)) → LamX.Tabs G.T H' → Q v H'
  | .bad => False
def runM (n : Nat) (f : Sv) (d0 : D) (ds : List D) : MO := match f (startR n (d0 :: ds)) with
  | .rt (.val d) r => (match r[0]? with
    | some (some d0') => .ok d d0'
    | _ => .bad)
  | .rt (.loc i) r => if i = 0 then .bad else (match opd r (.loc i), r[0]? with
    | some d, some (some d0') => .ok d d0'
    | _, _ => .bad)
  | .nx r => (match r[0]? with
    | some (some d0') => .ok .non d0'
    | _ => .bad)
  | _ => .bad
section
variable {G : GX} {H H' : Hp} {ow ow0 : Ow}
end
section
variable {P : Program} {w : World} {K : PySem.W.Frag} {mg : Str → Option Value} {base : Heap} {G : GX}
end
def callKM (n i : Nat) (F : D → List D → MO) (xs : List R) (r : Rho) : EO := match xs with
  | .loc j :: rest => if j = i ∧ rest.length = n then (match opd r (.loc i), valsR rest with
    | some d0, some ds => (match F d0 (frzs ds) with
      | .ok d d0' => .ok (.val d) (r.set i (some d0'))
      | .bad => .bad)
    | _, _ => .bad) else .bad
  | _ => .bad
def cCallM (n i : Nat) (F : D → List D → MO) (fs : Av) : Ev := fun r => (fs r).bd (callKM n i F)
section
variable {X : Cx} {G : GX} {C : Fc} {W : WX} {ow ow' : Ow} {r : Rho} {T T1 T2 : List (D × V)} {s : L2.St} {H H' : Hp} {fs : Av}
theorem valsR_frz : ∀ {xs : List R} {ds : List D}, valsR xs = some ds → opds r xs = some ds ∧ settles r xs = r ∧ ds.length = xs.length
  | [], ds, e => by cases e; exact ⟨rfl, rfl, rfl⟩
  | .loc _ :: _, _, e => by cases e
  | .val d :: xs, ds, e => by
    unfold valsR at e
    cases e2 : valsR xs with
    | none => rw [e2] at e; cases e
    | some ds' =>
      rw [e2] at e
      cases e
      obtain ⟨h1, h2, h3⟩ := valsR_frz e2
      refine ⟨?_, h2, by simp [h3]⟩
      show (match some d, opds r xs with | some d, some ds => some (d :: ds) | _, _ => none) = _
      rw [h1]
end
end VL

namespace VL
open PySem PySem.Spec PyProof.Rows L2
section
variable {X : Cx} {pins : List (Addr × Obj)} {q : L2.St} {H : Hp} {s sI s' : Shared} {B h4 : Heap} {a : Addr}
theorem trackExc {cls : Value} {oe : Obj} {vs : Array Value} (J : Inv X pins q H sI) (grd : ∀ b o, sI.heap.get? b = some o → b ∉ frs X.stack → B.get? b = some o) (fresh : B.get? a = none) (noex : X.ex = []) (off : a ∉ frs (X.env :: X.outer))
    (J4 : Inv X pins q H { s' with heap := h4 }) (at4 : h4.get? a = some oe) (cl4 : Zc cls none oe) (dt4 : oe.data = .fields vs) (free : H a = none) : Inv X pins q (upd H a (ExT cls a)) { s' with heap := h4 } := by
  have out : a ∉ frs X.stack := by
    intro hm
    rcases J.ok.stk with e | ⟨e, _⟩
    · refine off ?_
      rw [e] at hm
      obtain ⟨x, p1, p2⟩ := List.mem_filterMap.mp hm
      exact List.mem_filterMap.mpr ⟨x, List.mem_cons_of_mem _ p1, p2⟩
    · exact off (e ▸ hm)
  have absent : sI.heap.get? a = none := by
    cases e : sI.heap.get? a with
    | none => rfl
    | some o => exact nomatch fresh.symm.trans (grd a o e out)
  have other : ∀ {b : Addr} {o : Obj}, sI.heap.get? b = some o → b ≠ a := by
    intro b o e z
    rw [z, absent] at e
    exact nomatch e
  have trk : ∀ {b : Addr} {o : HO}, H b = some o → upd H a (ExT cls a) b = some o := by
    intro b o e
    rw [upd_ne (ne_of_none e free)]
    exact e
  have unt : ∀ {b : Addr}, b ≠ a → H b = none → upd H a (ExT cls a) b = none := by
    intro b n e
    rw [upd_ne n]
    exact e
  have base' : Un X.fs X.ex X.H_0 (upd H a (ExT cls a)) X.s_0.heap h4 :=
    { keep := J4.base.keep, slot := J4.base.slot, there := J4.base.there
      free := fun b o e n hx => by
        obtain ⟨o2, e2⟩ := J.base.there b o e hx
        exact unt (other e2) (J4.base.free b o e n hx)
      tups := fun b xs e => trk (J4.base.tups b xs e)
      frzs := fun b o u e => trk (J4.base.frzs b o u e)
      tbls := fun b ps e => let ⟨m, e2⟩ := J4.base.tbls b ps e; ⟨m, trk e2⟩ }
  have own : ObjOk X.prog X.w (upd H a (ExT cls a)) h4 a (ExT cls a) := ⟨⟨oe, vs, at4, cl4, dt4⟩, ⟨oe, at4⟩, fun _ _ ⟨o, w, p1, p2⟩ k => ⟨o, w, k o p1, p2⟩⟩
  have hok' : HOk X.prog X.w (upd H a (ExT cls a)) h4 := fun b u e => by
    rcases Decidable.em (b = a) with rfl | n
    · rw [upd_same] at e
      exact Option.some.inj e ▸ own
    · rw [upd_ne n] at e
      exact ObjOk.stay (J4.hok b u e) (fun _ _ _ k => k) (fun _ k => trk k) (fun _ _ k => trk k)
  have fr' : upd H a (ExT cls a) X.env.locals = none := by
    obtain ⟨_, ⟨o, _, _, e, _⟩, _⟩ := J.loc
    exact unt (other e) J4.free
  exact { ok := J4.ok, os := J4.os, bare := J4.bare, base := base', loc := J4.loc, cell := J4.cell, free := fr', hok := hok', len := J4.len
          freeC := fun x c e => by
            obtain ⟨_, o, e2, _⟩ := J.cell x c e
            exact unt (other e2) (J4.freeC x c e)
          pin := fun p hp => by
            have z := J4.pin p hp
            exact ⟨z.1, unt (other (J.pin p hp).1) z.2.1, z.2.2⟩ }
theorem inSuite (I : Inv X pins q H s) : Inv (X.suite a (X.pn ++ pins)) [] q H s where
  ok := I.ok.suite a _
  os := I.os
  bare := I.bare
  base := I.base
  loc := I.loc
  cell := I.cell
  free := I.free
  freeC := I.freeC
  pin := fun p hp => I.pin p (by simpa using hp)
  hok := I.hok
  len := I.len
theorem outSuite {pn' : List (Addr × Obj)} (I : Inv (X.suite a (X.pn ++ pins)) pn' q H s) (ok : X.Ok) : Inv X pins q H s where
  ok := ok
  os := I.os
  bare := I.bare
  base := I.base
  loc := I.loc
  cell := I.cell
  free := I.free
  freeC := I.freeC
  pin := fun p hp => I.pin p (List.mem_append_left _ hp)
  hok := I.hok
  len := I.len
end
def aft1 (i : Option Nat) (s : L2.St) : L2.St := match i with
  | some i => s.set i none
  | none => s
def bef1 (i : Option Nat) (a : Addr) (s : L2.St) : L2.St := match i with
  | some i => s.set i (some (.ref a))
  | none => s
def endsAt (i : Option Nat) (D : Ends) : Ends := ⟨fun s H => D.nx (aft1 i s) H, D.rt, fun s H => D.bk (aft1 i s) H, fun s H => D.ct (aft1 i s) H⟩
def wTry (K : PySem.W.Frag) (c : Value) (i : Option Nat) (ts : TS) (Wout : WX) (D : Ends) : WX := fun cls d s H =>
  ∃ b, PySem.W.exmOne K cls c = some b ∧ if b = true then d = none ∧ ∀ a, H a = none → ts (endsAt i D) (bef1 i a s) (upd H a (ExT cls a)) else Wout cls d s H
section
variable {X : Cx} {pins : List (Addr × Obj)} {Wout : WX} {D : Ends}
theorem goesOn {a : Addr} {B h3 : Heap} {sI s' : Shared} {pn : List (Addr × Obj)} {q : L2.St} {H : Hp} {cls : Value} {d : Option Addr} (tk : Takes X Wout) (hs : X.stack = X.env :: X.outer) (hf : X.env.frame = some X.env.locals) (J : Inv X pins q H sI)
    (grd : ∀ b o, sI.heap.get? b = some o → b ∉ frs X.stack → B.get? b = some o) (fl : HandSPX.FlyingZ B (X.env :: X.outer) a (Zc cls d) h3) (up : sI.heap.UpToSlots h3) (free : H a = none) (os : s'.os = sI.os) (ag : AllBare s'.gens) (w : Wout cls d q H) :
    wpAny (model X.prog X.w) X.A (handleBy (.ref a) X.env []) (SP X pn D) X.xe { s' with heap := h3 } := by
  obtain ⟨_, _, _, oe, vs, t0, t1, t2, at3, z3, dt3, f1, _⟩ := id fl
  have last : wpAny (model X.prog X.w) X.A (setFlight (.ref a) X.env.frame) (fun _ s4 => wpAny (model X.prog X.w) X.A (throw (.ref a) : Sem Flow) (SP X pn D) X.xe s4) X.xe { s' with heap := h3 } := by
    rw [hf]
    apply HandSPX.setFlight_upZ fl
    intro h5 held5 up5
    apply wpAny_throw
    apply tk
    exact ⟨a, B, sI, pins, q, H, cls, d, rfl, J, grd, up.trans up5, .inr (.inr (hs ▸ held5)), free, os, ag, w⟩
  apply wpAny_handleBy_nil
  show wpAny _ _ (PySem.passOn _ _ _) _ _ _
  unfold PySem.passOn
  apply wpAny_bind
  apply wpAny_field at3 dt3 f1
  rw [if_neg (show ¬ (Value.ref t0 == Value.none) = true from by simp)]
  first
    | exact wpAny_bind last
    | exact wpAny_bind (wpAny_pure (wpAny_bind last))
theorem suiteEnd {a : Addr} {i : Option Nat} {f : Flow} {s6 : Shared} (ok : X.Ok) {Qf : Flow → Shared → Prop} (fin : ∀ {q6 : L2.St} {H6 : Hp} {f : Flow}, Inv X pins q6 H6 s6 → (∀ s7, Inv X pins (aft1 i q6) H6 s7 → SP X pins D f s7) → Qf f s6)
    (h : SP (X.suite a (X.pn ++ pins)) [] (endsAt i D) f s6) : Qf f s6 := by
  cases f with
  | next => obtain ⟨q6, H6, S6, w6⟩ := h; exact fin (outSuite S6 ok) fun s7 J7 => ⟨_, _, J7, w6⟩
  | brk => obtain ⟨q6, H6, S6, w6⟩ := h; exact fin (outSuite S6 ok) fun s7 J7 => ⟨_, _, J7, w6⟩
  | cont => obtain ⟨q6, H6, S6, w6⟩ := h; exact fin (outSuite S6 ok) fun s7 J7 => ⟨_, _, J7, w6⟩
  | ret u => obtain ⟨v6, q6, H6, S6, r6, w6⟩ := h; exact fin (outSuite S6 ok) fun s7 J7 => ⟨_, _, _, J7, r6, w6⟩
theorem tryTrk {x : Str} {c : Value} {i : Option Nat} {nm : Option Str} {body suite : List Stmt} {b0 : Stmt} {np pos pos' : Pos} {tb : WX → TS} {ts : TS} (noex : X.ex = []) (hs : X.stack = X.env :: X.outer) (hf : X.env.frame = some X.env.locals) (hN : X.N.Nodup)
    (hn : (i = none ∧ nm = none) ∨ ∃ j n, i = some j ∧ nm = some n ∧ X.N[j]? = some n ∧ X.env.kindOf n = some .local) (hc : Names X x c) (tk : Takes X Wout)
    (hb : ∀ (W : WX) (pn : List (Addr × Obj)) (xe : Value → Shared → Prop), Takes (X.tr pn xe) W → PassesOwn (model X.prog X.w) X.A X.env xe → PSs (X.tr pn xe) body (tb W))
    (hsu : ∀ (a : Addr) (pn : List (Addr × Obj)), PSs (X.suite a pn) (b0 :: suite) ts) :
    PS X (.Try body [.ExceptHandler (some (.Name x np)) nm (b0 :: suite) pos'] [] [] pos) (fun D q H => tb (wTry X.K c i ts Wout D) D q H) := by
  constructor
  intro pins s q H D I h
  have ok := I.ok
  apply wpAny_Try_except
  have run := (hb (wTry X.K c i ts Wout D) (X.pn ++ pins) (fun e s₁ => wpAny (model X.prog X.w) X.A (noteFrame e X.env) (fun _ s₂ => wpAny (model X.prog X.w) X.A (setFlight e none) (fun _ s₃ =>
    wpAny (model X.prog X.w) X.A (handleBy e X.env [.ExceptHandler (some (.Name x np)) nm (b0 :: suite) pos']) (SP X pins D) X.xe s₃) X.xe s₂) X.xe s₁) ?tk PassesOwn.looking).run [] s q H D (I.toTry _) h
  case tk =>
    rintro u s2 ⟨a, B, sI, pins2, q2, H2, cls, d, rfl, J2, grd, up, sky, free, os, ag, b, eb, w⟩
    have J : Inv X pins q2 H2 sI := J2.ofTry ok
    have fr : X.A.frames = some (X.env :: X.outer) := hs ▸ ok.frames
    show wpAny (model X.prog X.w) X.A (noteFrame (.ref a) X.env) _ _ _
    refine Sky.land Zc.steady fr hf (show Sky B (X.env :: X.outer) a (Zc cls d) X.env.locals s2.heap from hs ▸ sky) fun h3 fl3 up3 => ?_
    obtain ⟨oe3, vs3, at3, z3, dt3⟩ := fl3.there
    have off : a ∉ frs (X.env :: X.outer) := fun hm => by
      obtain ⟨_, o, e, nd⟩ := fl3.2.2.1.mem hm
      exact nd vs3 (Option.some.inj (at3.symm.trans e) ▸ dt3)
    have J3 : Inv X pins q2 H2 { s2 with heap := h3 } := J.landed grd fl3.1 (up.trans up3) os ag
    have S3 : Inv (X.suite a (X.pn ++ pins)) [] q2 H2 { s2 with heap := h3 } := inSuite J3
    have kind : PySem.W.Looks (model X.prog X.w) h3 (excMatches (.ref a) c) b := PySem.W.exm_one J3.kIn (fun A Q E s k q => wpAny_typeOf_ref (k _ _ at3) (z3.1.symm ▸ q)) eb
    refine wpAny_handleBy_cons (codeAny_handlers_test ?_) (fun z => nomatch z)
    have named : ∀ {Q : Value → Shared → Prop} {E : Value → Shared → Prop}, Q c { s2 with heap := h3 } → wpAny (model X.prog X.w) (X.A.mark (some (.ref a))) (eval (.Name x np) X.env) Q E { s2 with heap := h3 } := fun {Q E} k => by
      obtain ⟨g1, g2, g3 | ⟨g3, g4, g5⟩⟩ := hc
      · exact ld_glob (X := X.suite a (X.pn ++ pins)) S3 g1 g3 k g2
      · exact ld_blt (X := X.suite a (X.pn ++ pins)) S3 g1 g3 g4 k g5 g2
    refine named (kind.here ?_)
    cases b with
    | false => exact goesOn tk hs hf J grd fl3 (up.trans up3) free os ag w
    | true =>
      obtain ⟨rfl, w⟩ := w
      have tr : ∀ h4, HandSPX.FlyingZ B (X.env :: X.outer) a (Zc cls none) h4 → h3.UpToSlots h4 → Inv (X.suite a (X.pn ++ pins)) [] q2 (upd H2 a (ExT cls a)) { s2 with heap := h4 } := fun h4 fl4 up4 => by
        obtain ⟨oe4, vs4, at4, z4, dt4⟩ := fl4.there
        exact inSuite (trackExc J grd fl3.2.1 noex off (J.landed grd fl4.1 ((up.trans up3).trans up4) os ag) at4 z4 dt4 free)
      rcases hn with ⟨rfl, rfl⟩ | ⟨j, n, rfl, rfl, hj, hl⟩
      · apply codeAny_handlers_suite
        refine HandSPX.lands_againZ fl3 fun h4 fl4 up4 => ?_
        refine wpAny_mono ((hsu a (X.pn ++ pins)).run [] _ _ _ (endsAt none D) (tr h4 fl4 up4) (w a free)) (fun f s6 k6 => ?_) (fun _ _ z => z.elim)
        exact suiteEnd (i := none) (Qf := fun f s6 => SP X pins D f s6) ok (fun J6 k => k _ J6) k6
      · apply codeAny_handlers_suite_as
        refine HandSPX.lands_againZ fl3 fun h4 fl4 up4 => ?_
        refine store_ok (X := X.suite a (X.pn ++ pins)) (v := .ref a) (tr h4 fl4 up4) hN hj (.inl hl) rfl (fun s5 S5 => ?_) (.inr hl)
        refine wpAny_mono ((hsu a (X.pn ++ pins)).run [] s5 _ _ (endsAt (some j) D) S5 (w a free)) (fun f s6 k6 => ?_) (fun _ _ z => z.elim)
        exact suiteEnd (i := some j) (Qf := fun f s6 => wpAny (model X.prog X.w) X.A (do bindName X.env n .none; unbindBehindTheSuite X.env n pos') (fun _ s7 => SP X pins D f s7) X.xe s6) ok (fun J6 k => gone_ok J6 hN hj hl k) k6
  refine wpAny_mono run (fun f s1 k => ?_) (fun e s1 k => k)
  cases f with
  | next => obtain ⟨q1, H1, J1, w⟩ := k; exact wpAny_execs_nil ⟨q1, H1, J1.ofTry ok, w⟩
  | brk => obtain ⟨q1, H1, J1, w⟩ := k; exact ⟨q1, H1, J1.ofTry ok, w⟩
  | cont => obtain ⟨q1, H1, J1, w⟩ := k; exact ⟨q1, H1, J1.ofTry ok, w⟩
  | ret u => obtain ⟨v, q1, H1, J1, rr, w⟩ := k; exact ⟨v, q1, H1, J1.ofTry ok, rr, w⟩
end
end VL

namespace VL
open PySem PySem.Spec PyProof.Rows L2
def putE (i : Option Nat) (c : Nat) (r : Rho) : Rho := match i with
  | some j => r.set j (some (.exc c))
  | none => r
def remE (i : Option Nat) (r : Rho) : Rho := match i with
  | some j => r.set j none
  | none => r
def inClause (i : Option Nat) (o : SO) : SO := match o with
  | .nx r => .nx (remE i r)
  | .bk r => .bk (remE i r)
  | .ct r => .ct (remE i r)
  | .rt x r => .rt x r
  | _ => .bad
def cTry (tb : Nat → Option Bool) (i : Option Nat) (fb fs : Sv) : Sv := fun r => match fb r with
  | .exc c r1 => (match tb c with
    | some true => inClause i (fs (putE i c r1))
    | some false => .exc c r1
    | none => .bad)
  | o => o
section
variable {X : Cx} {G : GX} {C : Fc} {W : WX} {ow ow' : Ow} {r : Rho} {T T1 T2 : List (D × V)} {s : L2.St} {H H' : Hp}
theorem vs_try {x : Str} {cv : Value} {i : Option Nat} {nm : Option Str} {body suite : List Stmt} {b0 : Stmt} {np pos pos' : Pos} {tb : Nat → Option Bool} {fb fs : Sv} (noex : X.ex = []) (hs : X.stack = X.env :: X.outer) (hf : X.env.frame = some X.env.locals) (hN : X.N.Nodup)
    (hn : (i = none ∧ nm = none) ∨ ∃ j n, i = some j ∧ nm = some n ∧ X.N[j]? = some n ∧ X.env.kindOf n = some .local) (hp : ∀ j, i = some j → ∀ p ∈ C.pin, p.1 ≠ j) (hc : Names X x cv) (tk : Takes X W) (hE : ∀ c b, tb c = some b → PySem.W.exmOne X.K (.ref (G c)) cv = some b)
    (hb : ∀ (W' : WX) (pn : List (Addr × Obj)) (xe : Value → Shared → Prop), Takes (X.tr pn xe) W' → PassesOwn (model X.prog X.w) X.A X.env xe → VSs (X.tr pn xe) G C W' body fb)
    (hsu : ∀ (a : Addr) (pn : List (Addr × Obj)), VSs (X.suite a pn) G C W0 (b0 :: suite) fs) :
    VS X G C W (.Try body [.ExceptHandler (some (.Name x np)) nm (b0 :: suite) pos'] [] [] pos) (cTry tb i fb fs) := by
  refine PS.imp (tryTrk (Wout := W) (tb := fun W' => tVS G C W' fb) (ts := tVS G C W0 fs) noex hs hf hN hn hc tk hb hsu) fun D s H h => ?_
  obtain ⟨r, T, S, g⟩ := h
  refine ⟨r, T, S, ?_⟩
  unfold cTry at g
  cases e : fb r with
  | nx r1 => rw [e] at g; exact g
  | rt x r1 => rw [e] at g; exact g
  | bk r1 => rw [e] at g; exact g
  | ct r1 => rw [e] at g; exact g
  | bad => rw [e] at g; exact g
  | exc c r1 =>
    simp only [e] at g
    intro s' H' S'
    cases e1 : tb c with
    | none => simp only [e1] at g; exact g.elim
    | some b =>
      refine ⟨b, hE c b e1, ?_⟩
      simp only [e1] at g
      cases b with
      | false => rw [if_neg Bool.false_ne_true]; exact g s' H' S'
      | true =>
        rw [if_pos rfl]
        refine ⟨rfl, fun a ha => ?_⟩
        have S1 : StOk G C r1 T s' (upd H' a (ExT (.ref (G c)) a)) := S'.new ha
        have S2 : StOk G C (putE i c r1) T (bef1 i a s') (upd H' a (ExT (.ref (G c)) a)) := by
          cases i with
          | none => exact S1
          | some j => exact StOk.set (d := .exc c) (v := .ref a) (S1.pushA rfl fun ow l => ⟨a, rfl, upd_same⟩) (hp j rfl)
        refine ⟨_, T, S2, ?_⟩
        have rem : ∀ {r2 : Rho} {s2 : L2.St} {H2 : Hp}, StOk G C r2 T s2 H2 → StOk G C (remE i r2) T (aft1 i s2) H2 := fun {r2 s2 H2} S3 => by
          cases i with
          | none => exact S3
          | some j => exact S3.wipe1 (hp j rfl)
        simp only at g
        cases e2 : fs (putE i c r1) with
        | nx r2 => rw [e2] at g; exact fun s2 H2 S3 => g _ _ (rem S3)
        | bk r2 => rw [e2] at g; exact fun s2 H2 S3 => g _ _ (rem S3)
        | ct r2 => rw [e2] at g; exact fun s2 H2 S3 => g _ _ (rem S3)
        | rt x r2 => rw [e2] at g; exact g
        | exc c' r2 => rw [e2] at g; exact g.elim
        | bad => rw [e2] at g; exact g.elim

def tyN : D → Option String
  | .non => some "NoneType"
  | .bl _ => some "bool"
  | .int _ => some "int"
  | .str _ => some "str"
  | .node .lst _ _ => some "list"
  | .node .tup _ _ => some "tuple"
  | .node (.dK _) _ _ => some "dict"
  | .node (.dT _) _ _ => some "dict"
  | _ => none
def tyNames : List String := ["NoneType", "bool", "int", "str", "list", "tuple", "dict"]
def isB (a b : String) : Option Bool := if tyNames.contains a && tyNames.contains b then some (a == b || (a == "bool" && b == "int")) else none
theorem kitB_all : (tyNames.all fun a => tyNames.all fun b => decide (kitB a b = some (a == b || (a == "bool" && b == "int")))) = true := by decide +kernel
theorem isB_ok {K : PySem.W.Frag} {a b : String} {r : Bool} (h : isB a b = some r) : PySem.W.kitOne K (.type a) (.type b) = some r := by
  unfold isB at h
  split at h
  · rename_i c
    rw [Bool.and_eq_true] at c
    cases h
    have z := kitB_all
    rw [List.all_eq_true] at z
    have z2 := z a (by simpa using c.1)
    rw [List.all_eq_true] at z2
    exact kit_ty (of_decide_eq_true (z2 b (by simpa using c.2)))
  · cases h
def clsU (G : GX) : D → Option Value
  | .ty n => some (.type n)
  | .cls c => some (.ref (G c))
  | _ => none
abbrev ETab := Nat → D → Option Bool
def isiB (a : Option String) (c : D) : Option Bool := match a, c with
  | some a, .ty n => isB a n
  | _, _ => none
def isi1 (E : ETab) (d c : D) : Option Bool := match d with
  | .exc k => E k c
  | d => isiB (tyN d) c
def isiAny (E : ETab) (d : D) : List D → Option Bool
  | [] => some false
  | c :: cs => match isi1 E d c with
    | some true => some true
    | some false => isiAny E d cs
    | none => none
def isiD (E : ETab) (d c : D) : Option D := match c with
  | .node .tup _ cs => (isiAny E d cs).map .bl
  | c => (isi1 E d c).map .bl
def ETabOk (K : PySem.W.Frag) (G : GX) (E : ETab) : Prop := ∀ k c b, E k c = some b → ExcC K (G k) ∧ ∃ u, clsU G c = some u ∧ PySem.W.kitOne K (.ref (G k)) u = some b
def rIx (K : PySem.W.Frag) : List V → Hp → VK → Prop := fun xs H Q => ∃ (a A : Addr) (c : V) (u : Value) (b : Bool), xs = [.ref a, c] ∧ H a = some (ExT (.ref A) a) ∧ ExcC K A ∧ ClsV c u ∧ PySem.W.kitOne K (.ref A) u = some b ∧ Q (.bl b) H
def rIxT (K : PySem.W.Frag) : List V → Hp → VK → Prop := fun xs H Q => ∃ (a A tp : Addr) (cs : List V) (us : List Value) (b : Bool), xs = [.ref a, .ref tp] ∧ H a = some (ExT (.ref A) a) ∧ ExcC K A ∧ H tp = some (.tup cs) ∧ Paired ClsV cs us ∧ PySem.W.kitAny K (.ref A) us = some b ∧ Q (.bl b) H
theorem exc_kit {K : PySem.W.Frag} {a A : Addr} (E : ExcC K A) {pins : List (Addr × Obj)} {σ : L2.St} {H : Hp} {s : Shared} (I : Inv X pins σ H s) (h : H a = some (ExT (.ref A) a)) : ∃ oe, PySem.W.InstAt s.heap a oe A none ∧ PySem.W.KitX K (.ref a) (.ref A) (fun h => PySem.W.InstAt h a oe A none) := by
  obtain ⟨⟨oe, vs, e, z, d⟩, _⟩ := I.hok a _ h
  refine ⟨oe, ?_, PySem.W.handS_kitx_exc E.hg E.hk E.hs E.hd E.ha E.hn E.ht E.hm⟩
  obtain ⟨oc, od, oda, osl⟩ := oe
  obtain ⟨z1, z2⟩ := z
  dsimp only at z1 z2 d
  subst z1 z2 d
  exact ⟨e, rfl, rfl, trivial⟩
theorem call_ix : CallR X (.builtin "isinstance") (rIx X.K) := by
  intro pins s σ H xs us Q I r h
  obtain ⟨a, A, c, u, b, rfl, ha, E, k, e, q⟩ := h
  obtain ⟨u1, u2, rfl, r1, r2⟩ := vals2 r
  cases (show u1 = Value.ref a from r1)
  have e2 := k.eq r2
  subst e2
  obtain ⟨oe, J, Z⟩ := exc_kit E I ha
  exact PySem.W.kia_one Z I.kIn J e (fun z => nomatch z) fun tk => ⟨.bl b, H, I.tok tk, rfl, q⟩
theorem call_ixT : CallR X (.builtin "isinstance") (rIxT X.K) := by
  intro pins s σ H xs us Q I r h
  obtain ⟨a, A, tp, cs, ws, b, rfl, ha, E, hT, k, e, q⟩ := h
  obtain ⟨u1, u2, rfl, r1, r2⟩ := vals2 r
  cases (show u1 = Value.ref a from r1)
  cases (show u2 = Value.ref tp from r2)
  obtain ⟨oe, J, Z⟩ := exc_kit E I ha
  obtain ⟨_, its, rv, o, h1, h2, n, h3⟩ := I.hok tp _ hT
  have e3 := ClsV.all k rv
  subst e3
  obtain ⟨oc, od, dt, sl⟩ := o
  dsimp only at h2 h3
  subst h2 h3
  exact PySem.W.kia_tup Z I.kIn J h1 e (fun z => nomatch z) fun tk => ⟨.bl b, H, I.tok tk, rfl, q⟩
theorem tyN_ok {K : PySem.W.Frag} {d : D} {l : Loc} {v : V} {a : String} (h : Rep G ow H d l v) (e : tyN d = some a) : TyX K H v (.type a) := by
  cases d with
  | non => cases e; have z := rep_non h; subst z; exact .base .non
  | bl b => cases e; have z := rep_bl h; subst z; exact .base (.bl b)
  | int b => cases e; have z := rep_int h; subst z; exact .base (.int b)
  | str b => cases e; have z := rep_str h; subst z; exact .base (.str b)
  | node k o xs =>
    obtain ⟨p, vs, ev, h1, h2, h3⟩ := h
    subst ev
    cases k with
    | lst => cases e; exact .base (.lst h1)
    | rd => cases e
    | tup => cases e; exact .base (.tup h1)
    | dK ks => cases e; exact .base (.dK h1.1)
    | dT ks => cases e; exact .base (.dT h1.1)
    | _ => cases e
  | _ => cases e
theorem clsU_ok {d : D} {l : Loc} {v : V} {u : Value} (h : Rep G ow H d l v) (e : clsU G d = some u) : ClsV v u := by
  cases d with
  | ty n => cases e; have z : v = .ty n := h; subst z; exact .ty n
  | cls c => cases e; have z : v = .ref (G c) := h; subst z; exact .own _
  | _ => cases e
theorem isi1_ok {K : PySem.W.Frag} {E : ETab} (hE : ETabOk K G E) {d c : D} {b : Bool} (e : isi1 E d c = some b) : (∃ k u, d = .exc k ∧ ExcC K (G k) ∧ clsU G c = some u ∧ PySem.W.kitOne K (.ref (G k)) u = some b) ∨ ∃ a u, tyN d = some a ∧ clsU G c = some u ∧ PySem.W.kitOne K (.type a) u = some b := by
  have go : ∀ a, tyN d = some a → isiB (some a) c = some b → ∃ a u, tyN d = some a ∧ clsU G c = some u ∧ PySem.W.kitOne K (.type a) u = some b := fun a ha z => by
    cases c with
    | ty n => exact ⟨a, _, ha, rfl, isB_ok z⟩
    | _ => cases z
  cases d with
  | exc k =>
    obtain ⟨h1, u, h2, h3⟩ := hE k c b e
    exact .inl ⟨k, u, rfl, h1, h2, h3⟩
  | non => exact .inr (go _ rfl e)
  | bl _ => exact .inr (go _ rfl e)
  | int _ => exact .inr (go _ rfl e)
  | str _ => exact .inr (go _ rfl e)
  | node k o xs =>
    cases k with
    | ins c fs => cases e
    | rd => cases e
    | _ => exact .inr (go _ rfl e)
  | _ => cases e
theorem kitAny_of {K : PySem.W.Frag} {t : Value} {E : ETab} {d : D} (hd : ∀ c b, isi1 E d c = some b → ∃ u, clsU G c = some u ∧ PySem.W.kitOne K t u = some b) : ∀ {cs : List D} {b : Bool} {l : Loc} {i : Nat} {vs : List V}, isiAny E d cs = some b → (∀ c ∈ cs, ∃ u, clsU G c = some u) → Reps G ow H cs l i vs → ∃ us, Paired ClsV vs us ∧ PySem.W.kitAny K t us = some b
  | [], b, _, _, vs, e, _, h => by
    have z : vs = [] := h
    subst z
    cases e
    exact ⟨[], .nil, rfl⟩
  | c :: cs, b, l, i, vs, e, hu, h => by
    obtain ⟨v, ws, ev, h1, h2⟩ := h
    subst ev
    unfold isiAny at e
    cases e1 : isi1 E d c with
    | none => rw [e1] at e; cases e
    | some b1 =>
      rw [e1] at e
      obtain ⟨u, g1, g2⟩ := hd c b1 e1
      cases b1 with
      | true =>
        cases e
        have rest : ∀ {cs : List D} {l : Loc} {i : Nat} {vs : List V}, (∀ c ∈ cs, ∃ u, clsU G c = some u) → Reps G ow H cs l i vs → ∃ us, Paired ClsV vs us := by
          intro cs
          induction cs with
          | nil => intro l i vs _ h; have z : vs = [] := h; subst z; exact ⟨[], .nil⟩
          | cons c cs ih =>
            intro l i vs hu h
            obtain ⟨v, ws, ev, h1, h2⟩ := h
            subst ev
            obtain ⟨u, hc⟩ := hu c List.mem_cons_self
            obtain ⟨us, p⟩ := ih (fun c hc => hu c (List.mem_cons_of_mem _ hc)) h2
            exact ⟨u :: us, .cons (clsU_ok h1 hc) p⟩
        obtain ⟨us, p⟩ := rest (fun c hc => hu c (List.mem_cons_of_mem _ hc)) h2
        refine ⟨u :: us, .cons (clsU_ok h1 g1) p, ?_⟩
        unfold PySem.W.kitAny
        rw [g2]
      | false =>
        obtain ⟨us, p, k⟩ := kitAny_of hd e (fun c hc => hu c (List.mem_cons_of_mem _ hc)) h2
        refine ⟨u :: us, .cons (clsU_ok h1 g1) p, ?_⟩
        unfold PySem.W.kitAny
        rw [g2]
        exact k
def isCls : D → Bool
  | .ty _ => true
  | .cls _ => true
  | _ => false
def gIsi (E : ETab) : List R → Rho → EO := fun xs r => match xs with
  | [x, .val (.node .tup _ cs)] => (match opd r x with
    | some d => if (cs.all isCls && !cs.isEmpty) = true then (match isiAny E d cs with
      | some b => .ok (.val (.bl b)) r
      | none => .bad) else .bad
    | none => .bad)
  | [x, .val c] => (match opd r x with
    | some d => (match isi1 E d c with
      | some b => .ok (.val (.bl b)) r
      | none => .bad)
    | none => .bad)
  | _ => .bad
theorem isCls_u {c : D} (h : isCls c = true) : ∃ u, clsU G c = some u := by
  cases c with
  | ty n => exact ⟨_, rfl⟩
  | cls n => exact ⟨_, rfl⟩
  | _ => cases h
def rIsiAll (K : PySem.W.Frag) : List V → Hp → VK → Prop := fun vs H Q => rIsi K vs H Q ∨ rIsiT K vs H Q ∨ rIx K vs H Q ∨ rIxT K vs H Q
theorem call_isiAll : CallR X (.builtin "isinstance") (rIsiAll X.K) := call_isi.or (call_isiT.or (call_ix.or call_ixT))
theorem isi_go {E : ETab} (hE : ETabOk X.K G E) {xs : List R} {vs : List V} {Q : VK} (S : StOk G C r (T ++ pushs xs vs) s H) (l : LocsOk s xs vs) (q : Goes G C W T s Q (gIsi E xs r)) : rIsiAll X.K vs H Q := by
  obtain ⟨ow, S⟩ := S
  unfold gIsi at q
  split at q
  · rename_i x o cs
    cases vs with
    | nil => exact l.elim
    | cons v vs =>
      cases vs with
      | nil => exact l.2.elim
      | cons u vs =>
        cases vs with
        | cons _ _ => exact l.2.2.elim
        | nil =>
          have S' : StW G C ow r (T ++ (pushR x v ++ [(.node .tup o cs, u)])) s H := by simpa [pushs, pushR] using S
          split at q
          · rename_i d e1
            split at q
            · rename_i hc
              split at q
              · rename_i b eb
                have hd := opd_rep S' l.1 e1
                have ht := StW.last (T := T ++ pushR x v) (by rw [List.append_assoc]; exact S')
                obtain ⟨tp, ws, eu, h1, h2, h3⟩ := ht
                subst eu
                rw [Bool.and_eq_true] at hc
                have hu : ∀ c ∈ cs, ∃ u, clsU G c = some u := fun c hcm => isCls_u (List.all_eq_true.mp hc.1 c hcm)
                obtain ⟨c0, cs', rfl⟩ : ∃ c0 cs', cs = c0 :: cs' := by
                  cases cs with
                  | nil => exact absurd hc.2 (by simp)
                  | cons c0 cs' => exact ⟨c0, cs', rfl⟩
                obtain ⟨b1, e2⟩ : ∃ b1, isi1 E d c0 = some b1 := by
                  unfold isiAny at eb
                  cases e2 : isi1 E d c0 with
                  | none => rw [e2] at eb; cases eb
                  | some b1 => exact ⟨b1, rfl⟩
                have fin : Q (.bl b) H := goes_val q ⟨ow, S.drop⟩ rfl fun _ _ => rfl
                by_cases hx : ∃ k, d = .exc k
                · obtain ⟨k, rfl⟩ := hx
                  obtain ⟨a, ev, ha⟩ := hd
                  subst ev
                  have hex : ExcC X.K (G k) := (hE k c0 b1 e2).1
                  obtain ⟨us, p, kk⟩ := kitAny_of (E := E) (d := .exc k) (t := .ref (G k)) (fun c b hb => (hE k c b hb).2) eb hu h3
                  exact .inr (.inr (.inr ⟨a, G k, tp, ws, us, b, rfl, ha, hex, h1, p, kk, fin⟩))
                · rcases isi1_ok hE e2 with ⟨k, _, e, _⟩ | ⟨a, _, ht, _⟩
                  · exact absurd ⟨k, e⟩ hx
                  · obtain ⟨us, p, kk⟩ := kitAny_of (K := X.K) (t := .type a) (fun c b hb => by
                      rcases isi1_ok hE hb with ⟨k, _, e, _⟩ | ⟨a', u, g1, g2, g3⟩
                      · exact absurd ⟨k, e⟩ hx
                      · rw [ht] at g1; cases g1; exact ⟨u, g2, g3⟩) eb hu h3
                    exact .inr (.inl ⟨v, tp, ws, _, us, b, rfl, h1, p, tyN_ok hd ht, kk, fin⟩)
              · exact q.elim
            · exact q.elim
          · exact q.elim
  · rename_i x c hnt
    cases vs with
    | nil => exact l.elim
    | cons v vs =>
      cases vs with
      | nil => exact l.2.elim
      | cons u vs =>
        cases vs with
        | cons _ _ => exact l.2.2.elim
        | nil =>
          have S' : StW G C ow r (T ++ (pushR x v ++ [(c, u)])) s H := by simpa [pushs, pushR] using S
          split at q
          · rename_i d e1
            split at q
            · rename_i b eb
              have hd := opd_rep S' l.1 e1
              have hc := StW.last (T := T ++ pushR x v) (by rw [List.append_assoc]; exact S')
              have fin : Q (.bl b) H := goes_val q ⟨ow, S.drop⟩ rfl fun _ _ => rfl
              rcases isi1_ok hE eb with ⟨k, w, rfl, hex, hu, kk⟩ | ⟨a, w, ht, hu, kk⟩
              · obtain ⟨p, ev, hp⟩ := hd
                subst ev
                exact .inr (.inr (.inl ⟨p, G k, u, w, b, rfl, hp, hex, clsU_ok hc hu, kk, fin⟩))
              · exact .inl ⟨v, u, _, w, b, rfl, clsU_ok hc hu, tyN_ok hd ht, kk, fin⟩
            · exact q.elim
          · exact q.elim
  · exact q.elim
theorem ve_isi {E : ETab} {fs : Av} {x : Str} {p pos : Pos} {e : Expr} {es : List Expr} (hE : ETabOk X.K G E) (hg : Gl X x) (hm : X.mg x = none) (hv : bootBuiltins x = some (.builtin "isinstance")) (ha : VA X G C W (e :: es) fs) (hn : x ≠ "__name__" := by decide) (hdb : (x == ("__debug__" : Str)) = false := by decide)
    (he : starEach (e :: es) X.env = (false, eval e X.env) :: starEach es X.env := by rfl) (hpl : (backTo pos (starEach es X.env)).any (·.1) = false := by rfl) : VE X G C W (.Call (.Name x p) (e :: es) [] pos) (cB (gIsi E) fs) := by
  refine PE.imp (pe_callB call_isiAll hg hm hv ha hn hdb he hpl) fun s H Q h => ?_
  obtain ⟨r, T, S, g⟩ := h
  exact many (T2 := []) (by simpa using S) g fun xs vs r1 H1 S1 l1 g1 => isi_go hE (by simpa using S1) l1 g1
theorem ve_gcls {c : Nat} {x : Str} {pos : Pos} (hg : Gl X x) (hm : X.mg x = some (.ref (G c))) (hd : (x == ("__debug__" : Str)) = false := by decide) : VE X G C W (.Name x pos) (cC (.cls c)) :=
  ve_c (pe_glob (v := .ref (G c)) hg hm rfl hd) rfl fun _ _ _ => rfl
theorem ve_gty {n : String} {x : Str} {pos : Pos} (hg : Gl X x) (hm : X.mg x = none) (hv : bootBuiltins x = some (.type n)) (hn : x ≠ "__name__" := by decide) (hd : (x == ("__debug__" : Str)) = false := by decide) : VE X G C W (.Name x pos) (cC (.ty n)) :=
  ve_c (pe_bltn (v := .ty n) hg hm hv rfl hn hd) rfl fun _ _ _ => rfl
end
end VL

namespace VL
open PySem PySem.Spec PyProof.Rows L2
section
variable {P : Program} {w : World} {K : PySem.W.Frag} {mg : Str → Option Value} {base : Heap} {G : GX}
theorem fnV2 {x qual : Str} {st : Stmt} {f : Addr} {fd : FuncData} {N ps : List Str} {k : Nat} {fb : Sv} (F : Fun K x qual st f fd) (S : FnScope N ps (defScope st))
    (hbody : ∀ (cdv : Value) (A : Around) (outer : List Env) (s : Shared) (H : Hp) (E : XK) (C : Fc), Room k (A.deeper (envOfC qual (defScope st) s.heap.objs.size f cdv)) → C.pin = [] → VSs (cxOf (L2.CX P w) P w K mg base N qual (defScope st) f cdv A outer s H E) G C (fun cls d _ H => E cls d H) (defBody st) fb) :
    FnOk P w K mg base (L2.CX P w) (k + 1) f fd ps (spV G ps.length (runF N.length fb)) := by
  refine F.okX S (fun vs H Q E h => spV_len h) (fun cdv A outer s H vs Q E hr h => ?_)
  obtain ⟨ds, ow0, h1, h2, h3, h4, ht, h5⟩ := h
  refine ⟨_, hbody cdv A outer s H E (fcOf H ow0) hr rfl, ?_⟩
  refine ⟨startR N.length ds, [], ⟨_, start_ok (N := N) ht h3 h2 h4⟩, ?_⟩
  unfold runF at h5
  cases e : fb (startR N.length ds) with
  | nx r =>
    rw [e] at h5
    intro s' H' S'
    obtain ⟨ow, S'⟩ := S'
    exact h5 .non H' (ext_of S') S'.tabs (behind_of (b := .tm 0) (fun z => nomatch z) S' rfl)
  | rt x r =>
    simp only [e] at h5
    intro s' v H' P'
    cases e2 : opd r x with
    | none => rw [e2] at h5; exact h5.elim
    | some d =>
      rw [e2] at h5
      obtain ⟨⟨ow, S'⟩, l⟩ := P'
      have z := opd_rep (T := []) (T2 := []) (by simpa using S') l e2
      refine h5 v H' (ext_of S') S'.tabs ?_
      cases x with
      | val d' => exact behind_of (b := .tm 0) (fun z => nomatch z) S' z
      | loc i => exact behind_of (b := .sl i) (fun z => nomatch z) S' z
  | exc c r =>
    simp only [e] at h5
    intro s' H' S'
    obtain ⟨ow, S'⟩ := S'
    exact h5 H' (ext_of S') S'.tabs
  | bk r => rw [e] at h5; exact h5.elim
  | ct r => rw [e] at h5; exact h5.elim
  | bad => rw [e] at h5; exact h5.elim
end
theorem pinV {C : Fc} (h : C.pin = []) (i : Nat) : ∀ p ∈ C.pin, p.1 ≠ i := fun p hp => by rw [h] at hp; simp at hp
theorem pinVo {C : Fc} (h : C.pin = []) (l : List Nat) : ∀ p ∈ C.pin, p.1 ∉ l := fun p hp => by rw [h] at hp; simp at hp
def keyOf : D → Option (Nat ⊕ String)
  | .cls j => some (.inl j)
  | .ty n => some (.inr n)
  | _ => none
abbrev Tab := List (Nat × (Nat ⊕ String) × Bool)
def findT (k : Nat) (q : Nat ⊕ String) : Tab → Option Bool
  | [] => none
  | (i, p, b) :: t => if i = k ∧ p = q then some b else findT k q t
def etab (t : Tab) : ETab := fun k c => match keyOf c with
  | some q => findT k q t
  | none => none
def tbOf (t : Tab) (j : Nat) : Nat → Option Bool := fun k => findT k (.inl j) t
def valOf (G : GX) : Nat ⊕ String → Value
  | .inl j => .ref (G j)
  | .inr n => .type n
structure RowT (K : PySem.W.Frag) (G : GX) (k : Nat) (q : Nat ⊕ String) (b : Bool) : Prop where
  ex : ExcC K (G k)
  base : PySem.W.subIn K (valOf G q) (.type "BaseException") = some true ∨ ∃ n, q = .inr n
  kit : PySem.W.kitCls K (.ref (G k)) (valOf G q) = some b
  self : Value.ref (G k) = valOf G q → b = true
def AllT (K : PySem.W.Frag) (G : GX) : Tab → Prop
  | [] => True
  | (k, q, b) :: t => RowT K G k q b ∧ AllT K G t
theorem AllT.find {K : PySem.W.Frag} {G : GX} {k : Nat} {q : Nat ⊕ String} {b : Bool} : ∀ {t : Tab}, AllT K G t → findT k q t = some b → RowT K G k q b
  | [], _, e => by cases e
  | (i, p, c) :: t, h, e => by
    unfold findT at e
    split at e
    · rename_i z
      obtain ⟨rfl, rfl⟩ := z
      cases e
      exact h.1
    · exact AllT.find h.2 e
theorem AllT.etab {K : PySem.W.Frag} {G : GX} {t : Tab} (h : AllT K G t) : ETabOk K G (VL.etab t) := fun k c b e => by
  unfold VL.etab at e
  cases e2 : keyOf c with
  | none => rw [e2] at e; cases e
  | some q =>
    rw [e2] at e
    have r := h.find e
    refine ⟨r.ex, valOf G q, ?_, ?_⟩
    · cases c with
      | ty n => cases e2; rfl
      | cls j => cases e2; rfl
      | _ => cases e2
    · unfold PySem.W.kitOne
      by_cases z : (Value.ref (G k) == valOf G q) = true
      · rw [if_pos z, r.self (by simpa using z)]
      · rw [if_neg z]; exact r.kit
theorem AllT.exm {K : PySem.W.Frag} {G : GX} {t : Tab} (h : AllT K G t) (j : Nat) : ∀ c b, tbOf t j c = some b → PySem.W.exmOne K (.ref (G c)) (.ref (G j)) = some b := fun c b e => by
  have r := h.find e
  unfold PySem.W.exmOne
  rcases r.base with z | ⟨n, z⟩
  · have z : PySem.W.subIn K (.ref (G j)) (.type "BaseException") = some true := z
    rw [z]
    exact r.kit
  · cases z
theorem kitCls_ref {K : PySem.W.Frag} {S : Addr} {t : Value} {b : Bool} (h2 : PySem.W.isClsIn K S = true) (h3 : PySem.W.typeIn K (.ref S) = some (.type "type")) (h4 : PySem.W.subIn K t (.ref S) = some b) : PySem.W.kitCls K t (.ref S) = some b := by
  have e2 : ((PySem.W.clsIn K S).isSome && PySem.W.typeIn K (.ref S) == some (.type "type")) = true := by
    have h2' : (PySem.W.clsIn K S).isSome = true := h2
    rw [h2', h3] <;> rfl
  show (if ((PySem.W.clsIn K S).isSome && PySem.W.typeIn K (.ref S) == some (.type "type")) = true then PySem.W.subIn K t (.ref S) else none) = some b
  rw [if_pos e2]
  exact h4
structure ClsF (K : PySem.W.Frag) (S : Addr) : Prop where
  ic : PySem.W.isClsIn K S = true
  tc : PySem.W.typeIn K (.ref S) = some (.type "type")
  bc : PySem.W.subIn K (.ref S) (.type "BaseException") = some true
theorem row_cls {K : PySem.W.Frag} {G : GX} {k j : Nat} {b : Bool} (hk : ExcC K (G k)) (hj : ClsF K (G j)) (self : PySem.W.subIn K (.ref (G k)) (.ref (G k)) = some true) (h : PySem.W.subIn K (.ref (G k)) (.ref (G j)) = some b) : RowT K G k (.inl j) b :=
  ⟨hk, .inl hj.bc, kitCls_ref hj.ic hj.tc h, fun e => by
    have e : Value.ref (G k) = Value.ref (G j) := e
    rw [← e, self] at h
    exact (Option.some.inj h).symm⟩
theorem row_ty {K : PySem.W.Frag} {G : GX} {k : Nat} {n : String} {b : Bool} (hk : ExcC K (G k)) (hm : PySem.W.kitMeta n = true) (h : PySem.W.subIn K (.ref (G k)) (.type n) = some b) : RowT K G k (.inr n) b :=
  ⟨hk, .inr ⟨n, rfl⟩, by
    show (if PySem.W.kitMeta n = true then PySem.W.subIn K (.ref (G k)) (.type n) else none) = some b
    rw [if_pos hm]; exact h, fun e => nomatch e⟩

def spLaw (K : PySem.W.Frag) : Sp := fun vs H Q _ => ∃ (a : Addr) (ns : List Int), vs = [.ref a] ∧ Holds ⟨fun _ => a, K, []⟩ H a .rd (ns.map V.int) ∧ ns.length ≤ 63 ∧ ∀ H', Q (.bl true) H'
theorem frzs_ints (ns : List Int) : frzs (ns.map D.int) = ns.map D.int := by
  rw [frzs_map, List.map_map]
  exact List.map_congr_left fun _ _ => rfl
theorem reps_ints {G : GX} {ow : Ow} {H : Hp} : ∀ (ns : List Int) (l : VL.Loc) (i : Nat), Reps G ow H (ns.map D.int) l i (ns.map V.int)
  | [], _, _ => rfl
  | n :: ns, l, i => ⟨_, _, rfl, rfl, reps_ints ns l (i + 1)⟩
def script (ns : List Int) : D := .node .rd false (ns.map D.int)
theorem law_imp {K : PySem.W.Frag} {G : GX} (hG : G.K = K) (hT : G.T = []) {F : List D → FO} (h : ∀ ns : List Int, ns.length ≤ 63 → F [script ns] = .ok (.bl true)) {vs : List V} {H : Hp} {Q : VK} {E : XK} (q : spLaw K vs H Q E) : spV G 1 F vs H Q E := by
  obtain ⟨a, ns, rfl, ha, hl, hq⟩ := q
  refine ⟨[script ns], fun _ => none, rfl, ?_, (fun a l z => nomatch z), ?_, (by rw [hT]; exact fun p hp => nomatch hp), ?_⟩
  · show [D.node .rd false (frzs (ns.map D.int))] = _
    rw [frzs_ints]; rfl
  · refine ⟨_, _, rfl, ⟨a, ns.map V.int, rfl, ?_, trivial, reps_ints ns _ _⟩, rfl⟩
    rcases ha with z | z
    · exact .inl z
    · exact .inr (by rw [hG]; exact z)
  · rw [h ns hl]
    intro v H' _ _ b
    obtain ⟨ow1, b, _, hr, _⟩ := b
    have e : v = .bl true := hr
    subst e
    exact hq H'
theorem law_in {K : PySem.W.Frag} {H : Hp} {a : Addr} {ns : List Int} (hl : ns.length ≤ 63) (hO : Only H) (hS : SqL K H a (ns.map V.int)) : spLaw K [.ref a] H (fun v _ => v = .bl true) fun _ _ _ => False := by
  refine ⟨a, ns, rfl, ?_, hl, fun _ => rfl⟩
  rcases hS with z | z
  · rcases hO a with q | ⟨o, xs, q⟩
    · rcases z with z | ⟨o, z⟩
      · rw [q] at z; cases z
      · exact .inl ⟨o, z⟩
    · rcases z with z | ⟨o, z⟩
      · rw [q] at z; cases z
      · exact .inl ⟨o, z⟩
  · exact .inr z
theorem fuel_ex : ∃ n : Nat, 1000000000 ≤ n := ⟨_, Nat.le_refl _⟩
noncomputable def fuel : Nat := Classical.choose fuel_ex
theorem fuel_ge : 1000000000 ≤ fuel := Classical.choose_spec fuel_ex
end VL

namespace VL
open PySem PySem.Spec PyProof.Rows L2
section
variable {X : Cx} {G : GX} {C : Fc} {W : WX} {ow ow' : Ow} {r : Rho} {T T1 T2 : List (D × V)} {s : L2.St} {H H' : Hp} {fa fb fc : Ev} {f g : Sv} {fs : Av}
theorem units65 {k : Nat} {A : Around} (h : Room k A) : A.units + 65 < cLine := by have := h.un; omega
def gRev (x : R) (r : Rho) : EO := match opd r x with
  | some (.node .lst _ xs) => .ok (.val (.node .lst true (frzs xs).reverse)) (touch r x)
  | some (.node .rd _ xs) => .ok (.val (.node .lst true (frzs xs).reverse)) (touch r x)
  | _ => .bad
def cRev (fa : Ev) : Ev := fun r => (fa r).bd gRev
theorem Reps.rev {ds : List D} {l : Loc} {vs : List V} (e : VL.frzs ds = ds) (h : Reps G ow H ds l 0 vs) : Reps G ow H ds.reverse l 0 vs.reverse ∧ VL.frzs ds.reverse = ds.reverse := by
  have hl := h.length
  refine ⟨Reps.of_get (by simp [hl]) fun j d v q1 q2 => ?_, by rw [frzs_map, List.map_reverse, ← frzs_map, e]⟩
  have hj : j < ds.length := by
    have := (List.getElem?_eq_some_iff.mp q1).1
    simpa using this
  rw [List.getElem?_reverse hj] at q1
  rw [List.getElem?_reverse (by omega), ← hl] at q2
  obtain ⟨v', z1, z2⟩ := h.get _ d q1
  rw [q2] at z1
  cases z1
  have f : VL.frz d = d := by
    have := congrArg (·[ds.length - 1 - j]?) e
    simp only [frzs_map, List.getElem?_map, q1, Option.map_some] at this
    exact Option.some.inj this
  exact Rep.moveF d f (fun a o z q => ⟨z, q⟩) (fun _ _ z _ => z) z2
theorem ve_rev {a : Expr} {k : Nat} {p1 p2 p3 pos : Pos} (hK : G.K = X.K) (ha : VE X G C W a fa) : VE X G C W (.Subscript a (.Slice none none (some (.UnaryOp .USub (.Constant (.int 1) k p1) p2)) p3) pos) (cRev fa) := by
  refine PE.imp (pe_revL ha) fun s H Q h => ?_
  obtain ⟨r, T, S, g⟩ := h
  refine one S g fun x v r1 H1 P g1 => ?_
  obtain ⟨ow, S3⟩ := P.1
  unfold gRev at g1
  split at g1
  · rename_i o xs e1
    obtain ⟨ow', p, vs, S', ev, h1, rx, _⟩ := S3.parts P.2 e1
    subst ev
    obtain ⟨c1, c2⟩ := (rx ⟨.fo, []⟩).rev (frzs_frzs xs)
    exact ⟨p, vs, rfl, SqL.of h1, S'.made c2 c1 g1⟩
  · rename_i o xs e1
    obtain ⟨ow', p, vs, S', ev, h1, rx, _⟩ := S3.parts P.2 e1
    subst ev
    obtain ⟨c1, c2⟩ := (rx ⟨.fo, []⟩).rev (frzs_frzs xs)
    exact ⟨p, vs, rfl, hK ▸ h1.seq, S'.made c2 c1 g1⟩
  · exact g1.elim
def cIdx (i : Nat) (fa : Ev) : Ev := fun r => if isLst r i = true then cBin gIndex (cVar i) fa r else .bad
end
end VL
namespace VL
open PySem PySem.Spec PyProof.Rows L2
theorem look_relabel {env : Env} {x : Str} {k : NameKind} : ∀ {names : List (Str × NameKind)}, names.lookup x = some k →
    (names.map fun (n, k) => if (k == NameKind.free && env.scope.kind == .function && env.kindOf n == some .cell) then (n, NameKind.cell) else (n, k)).lookup x = some k ∨
    (k = .free ∧ (names.map fun (n, k) => if (k == NameKind.free && env.scope.kind == .function && env.kindOf n == some .cell) then (n, NameKind.cell) else (n, k)).lookup x = some .cell)
  | [], h => by simp at h
  | (n, k') :: r, h => by
    have ih := @look_relabel env x k r
    show List.lookup x ((if (k' == NameKind.free && env.scope.kind == .function && env.kindOf n == some .cell) = true then (n, NameKind.cell) else (n, k')) :: _) = _ ∨ (_ ∧ List.lookup x ((if (k' == NameKind.free && env.scope.kind == .function && env.kindOf n == some .cell) = true then (n, NameKind.cell) else (n, k')) :: _) = _)
    cases hx : x == n with
    | true =>
      simp only [List.lookup_cons, hx] at h
      cases h
      by_cases hc : (k == NameKind.free && env.scope.kind == .function && env.kindOf n == some .cell) = true
      · rw [if_pos hc]
        refine .inr ⟨?_, by simp only [List.lookup_cons, hx]⟩
        simp only [Bool.and_eq_true] at hc
        exact of_decide_eq_true (by simpa using hc.1.1)
      · rw [if_neg hc]
        exact .inl (by simp only [List.lookup_cons, hx])
    | false =>
      simp only [List.lookup_cons, hx] at h
      by_cases hc : (k' == NameKind.free && env.scope.kind == .function && env.kindOf n == some .cell) = true
      · rw [if_pos hc]; simp only [List.lookup_cons, hx]; exact ih h
      · rw [if_neg hc]; simp only [List.lookup_cons, hx]; exact ih h
theorem cv_free {env : Env} {scope : Scope} {x : Str} (h : scope.names.lookup x = some .free) : Vis (relabel scope env) x := (look_relabel h).elim (fun z => .inr (.inr z)) fun z => .inr (.inl z.2)
theorem cv_own {env : Env} {scope : Scope} {x : Str} (h : scope.names.lookup x = some .local) : (relabel scope env).names.lookup x = some .local := (look_relabel h).elim id fun z => nomatch z.1
theorem cv_gl {env : Env} {scope : Scope} {x : Str} (h : scope.names.lookup x = some .globalImplicit) : (relabel scope env).names.lookup x = some .globalImplicit := (look_relabel h).elim id fun z => nomatch z.1
end VL
namespace VL
open PySem PySem.Spec PyProof.Rows L2
theorem no_exc {P : Program} {w : World} {H : Hp} {s : Shared} {e : Value} {s' : Shared} (z : L2.CX P w [] H s (fun _ _ _ => False) e s') : False := by
  obtain ⟨_, _, _, _, _, _, _, _, _, _, _, _, _, _, _, _, z⟩ := z
theorem walk_lawV {k : Nat} {l : PySem.W.OpenLaw} {q : Program} {loose : List Str} {XP : (Str → Option Value) → Heap → Prop} {YP : World → Heap → Prop} {d : DefRec} {K : Params → PySem.W.Frag} (hn : l.most = some 63) (hdf : d.params.defaults = []) (hr : Room k callerA)
    (hY : ∀ (w : World) (h : Heap), YP w h → (K w.params).In h)
    (F : ∀ (w : World) (mg : Str → Option Value) (fa : Addr) (h : Heap), (K w.params).In h → h.Ns mainGlobals mg → mg d.name = some (.ref fa) →
      ∃ fd : FuncData, (∀ (s : Shared) (u : Value), BindsTo s fd ⟨[u], []⟩ [("script", u)]) ∧ ∀ base : Heap, (K w.params).In base → base.Ns mainGlobals mg → FnOk l.prog w (K w.params) mg base (L2.CX l.prog w) k fa fd ["script"] (VL.spLaw (K w.params))) :
    PySem.W.WalkO q loose XP YP l.row.toRowW d [] (fun f vs => PySem.call f vs) :=
  L2.walk_of (n := 63) (k := k) (x := "script") (CX := fun w => L2.CX l.prog w) (sp := fun w => VL.spLaw (K w.params)) hn (by decide) hdf hr hY F (fun w H a ns hl hO hS => law_in hl hO hS) fun w H s e s' z => no_exc z
end VL

namespace VL
open PySem PySem.Spec PyProof.Rows L2
section
variable {r r1 : Rho} {k : R → Rho → SO} {kE : R → Rho → EO} {g : Sv} {fa fb fc : Ev} {fs : Av} {x y : R} {d e : D} {i j : Nat} {n m : Int} {b : Bool}
@[simp] theorem q_sq1 : (SO.nx r).sq g = g r := rfl
@[simp] theorem q_sq2 : (SO.rt x r).sq g = .rt x r := rfl
@[simp] theorem q_sq3 {c : Nat} : (SO.exc c r).sq g = .exc c r := rfl
@[simp] theorem q_sq4 : (SO.bk r).sq g = .bk r := rfl
@[simp] theorem q_sq5 : (SO.ct r).sq g = .ct r := rfl
@[simp] theorem q_sq6 : SO.bad.sq g = .bad := rfl
@[simp] theorem q_st1 : (EO.ok y r).st k = k y r := rfl
@[simp] theorem q_st2 {c : Nat} : (EO.exc c r).st k = .exc c r := rfl
@[simp] theorem q_st3 : EO.bad.st k = .bad := rfl
@[simp] theorem q_abd1 {xs : List R} {kA : List R → Rho → EO} : (AO.ok xs r).bd kA = kA xs r := rfl
@[simp] theorem q_abd2 {c : Nat} {kA : List R → Rho → EO} : (AO.exc c r).bd kA = .exc c r := rfl
@[simp] theorem q_seq {f : Sv} : cSeq f g r = (f r).sq g := rfl
@[simp] theorem q_skip : cSkip r = .nx r := rfl
@[simp] theorem q_ret : cRet fa r = (fa r).st fun x r1 => .rt x r1 := rfl
@[simp] theorem q_raise {c : Nat} : cRaise c r = .exc c r := rfl
@[simp] theorem q_brk : cBrk r = .bk r := rfl
@[simp] theorem q_cnt : cCnt r = .ct r := rfl
@[simp] theorem q_expr : cExpr fa r = (fa r).st fun _ r1 => .nx r1 := rfl
@[simp] theorem q_ifs {f : Sv} : cIfS fa f g r = (fa r).st fun x r1 => match x with
  | .val (.bl true) => f r1
  | .val (.bl false) => g r1
  | _ => .bad := rfl
@[simp] theorem q_var : cVar i r = match r[i]? with
  | some (some d) => if atom d = true then .ok (.val d) r else .ok (.loc i) r
  | _ => .bad := rfl
@[simp] theorem q_c : cC d r = .ok (.val d) r := rfl
@[simp] theorem q_bin {gg : G2} : cBin gg fa fb r = (fa r).bd fun x r1 => (fb r1).bd fun y r2 => gg x y r2 := rfl
@[simp] theorem q_set : cSet fa r = (fa r).bd fun x r1 => match x with
  | .val d => .ok (.val d) r1
  | .loc i => (match opd r1 (.loc i) with
    | some d => .ok (.val (frz d)) (settle r1 (.loc i))
    | none => .bad) := rfl
@[simp] theorem q_asg {t : Tg} : cAsg t fa r = (cSet fa r).st (asgK t) := rfl
@[simp] theorem q_asgK {t : Tg} : asgK t (.val d) r = match tgt t d r with
    | some r2 => .nx r2
    | none => .bad := rfl
@[simp] theorem q_tgt : tgt (.nm i) d r = some (r.set i (some d)) := rfl
@[simp] theorem q_opd1 : opd r (.val d) = some d := rfl
@[simp] theorem q_opd2 : opd r (.loc i) = match r[i]? with
    | some (some d) => some d
    | _ => none := rfl
@[simp] theorem q_touch1 : touch r (.val d) = r := rfl
@[simp] theorem q_touch2 : touch r (.loc i) = match r[i]? with
    | some (some d) => r.set i (some (frzB d))
    | _ => r := rfl
@[simp] theorem q_settle2 : settle r (.loc i) = match r[i]? with
    | some (some d) => r.set i (some (frz d))
    | _ => r := rfl
@[simp] theorem q_settle1 : settle r (.val d) = r := rfl
@[simp] theorem q_at1 : atom (.int n) = true := rfl
@[simp] theorem q_at2 : atom (.bl b) = true := rfl
@[simp] theorem q_at3 : atom .non = true := rfl
@[simp] theorem q_at4 {s : Str} : atom (.str s) = true := rfl
@[simp] theorem q_at5 {c : Nat} : atom (.exc c) = true := rfl
@[simp] theorem q_at6 {c : Nat} : atom (.cls c) = true := rfl
@[simp] theorem q_at7 {s : String} : atom (.ty s) = true := rfl
@[simp] theorem q_at8 {k : Kd} {o : Bool} {xs : List D} : atom (.node k o xs) = false := rfl
@[simp] theorem q_g2 {f : D → D → Option D} : g2 f x y r = match opd r x, opd r y with
  | some d, some e => (match f d e with
    | some z => if atom z = true then .ok (.val z) r else .bad
    | none => .bad)
  | _, _ => .bad := rfl
@[simp] theorem q_fI {ok : Int → Int → Bool} {gg : Int → Int → D} : fI ok gg (.int n) (.int m) = if ok n m = true then some (gg n m) else none := rfl
@[simp] theorem q_yes : yes2 n m = true := rfl
@[simp] theorem q_lt : gLt x y r = g2 (fI yes2 fun i j => .bl (decide (i < j))) x y r := rfl
@[simp] theorem q_le : gLe x y r = g2 (fI yes2 fun i j => .bl (decide (i ≤ j))) x y r := rfl
@[simp] theorem q_gt : gGt x y r = g2 (fI yes2 fun i j => .bl (decide (j < i))) x y r := rfl
@[simp] theorem q_ge : gGe x y r = g2 (fI yes2 fun i j => .bl (decide (j ≤ i))) x y r := rfl
@[simp] theorem q_sub : gSub x y r = g2 (fI yes2 fun i j => .int (i - j)) x y r := rfl
@[simp] theorem q_div : gDiv x y r = g2 (fI divOk fun i j => .int (i / j)) x y r := rfl
@[simp] theorem q_mod : gMod x y r = g2 (fI posOk fun i j => .int (i % j)) x y r := rfl
@[simp] theorem q_eq : gEq x y r = g2 eqD x y r := rfl
@[simp] theorem q_ne : gNe x y r = g2 neD x y r := rfl
@[simp] theorem q_in : gIn x y r = g2 (fun d e => (inD d e).map .bl) x y r := rfl
@[simp] theorem q_eqI : eqD (.int n) (.int m) = some (.bl (decide (n = m))) := by
  have e : PyData.eqv (.int n) (.int m) = decide (n = m) := by
    show (n == m) = _
    by_cases h : n = m <;> simp [h]
  show (if (true && true) = true then some (D.bl (PyData.eqv (.int n) (.int m))) else none) = _
  rw [e]; rfl
@[simp] theorem q_neI : neD (.int n) (.int m) = some (.bl (!decide (n = m))) := by
  have e : PyData.eqv (.int n) (.int m) = decide (n = m) := by
    show (n == m) = _
    by_cases h : n = m <;> simp [h]
  show (if (true && true) = true then some (D.bl (!PyData.eqv (.int n) (.int m))) else none) = _
  rw [e]; rfl
@[simp] theorem q_addI : gAdd (.val (.int n)) (.val (.int m)) r = .ok (.val (.int (n + m))) r := by unfold gAdd; rfl
theorem q_add : gAdd x y r = match opd r x, opd r y with
  | some (.int i), some (.int j) => .ok (.val (.int (i + j))) r
  | some (.int i), some (.bl k) => .ok (.val (.int (i + b2i k))) r
  | some (.str a), some (.str b) => if a.length + b.length ≤ 16777216 then .ok (.val (.str (a ++ b))) r else .bad
  | some (.node .lst _ xs), some (.node .lst _ ys) => if xs.length + ys.length ≤ 16777216 then .ok (.val (.node .lst true (frzs xs ++ frzs ys))) (touch (touch r y) x) else .bad
  | _, _ => .bad := by unfold gAdd; rfl
@[simp] theorem q_mulI : gMul (.val (.int n)) (.val (.int m)) r = if mulOk n m = true then .ok (.val (.int (n * m))) r else .bad := by unfold gMul; rfl
theorem q_mulL {o : Bool} {xs : List D} (h : 0 ≤ n ∧ n < 9000000000000000000 ∧ xs.length * n.toNat ≤ 16777216) : gMul (.val (.node .lst o xs)) (.val (.int n)) r = .ok (.val (.node .lst true (List.replicate n.toNat (frzs xs)).flatten)) r := by
  unfold gMul
  show (if n.natAbs < 2 ^ 63 ∧ xs.length * n.toNat ≤ 16777216 then _ else _) = _
  rw [if_pos ⟨by omega, h.2.2⟩]; rfl
theorem q_mul : gMul x y r = match opd r x, opd r y with
  | some (.int i), some (.int j) => if mulOk i j = true then .ok (.val (.int (i * j))) r else .bad
  | some (.node .lst _ xs), some (.int k) => if k.natAbs < 2 ^ 63 ∧ xs.length * k.toNat ≤ 16777216 then .ok (.val (.node .lst true (List.replicate k.toNat (frzs xs)).flatten)) (touch r x) else .bad
  | _, _ => .bad := by unfold gMul; rfl
@[simp] theorem q_ix : gIx x y r = match opd r x, opd r y with
  | some (.node .lst _ xs), some (.int i) => (match atI xs i with | some d => pick r x d | none => .bad)
  | some (.node .rd _ xs), some (.int i) => (match atI xs i with | some d => pick r x d | none => .bad)
  | some (.node .tup _ xs), some (.int i) => (match atI xs i with | some d => pick r x d | none => .bad)
  | some (.str z), some (.int i) => if z.length ≤ 16777216 then (match atI z.cps.toList i with | some c => .ok (.val (.str ⟨#[c]⟩)) r | none => .bad) else .bad
  | _, _ => .bad := rfl
@[simp] theorem q_pick : pick r x d = if atom d = true then .ok (.val d) r else .ok (.val (frz d)) (touch r x) := rfl
@[simp] theorem q_and : cAnd fa fb r = (fa r).bd fun x r1 => match x with
  | .val (.bl true) => fb r1
  | .val (.bl false) => .ok (.val (.bl false)) r1
  | _ => .bad := rfl
@[simp] theorem q_or : cOr fa fb r = (fa r).bd fun x r1 => match x with
  | .val (.bl true) => .ok (.val (.bl true)) r1
  | .val (.bl false) => fb r1
  | _ => .bad := rfl
@[simp] theorem q_not : cNot fa r = (fa r).bd fun x r1 => match x with
  | .val (.bl b) => .ok (.val (.bl (!b))) r1
  | _ => .bad := rfl
@[simp] theorem q_neg : cNeg fa r = (fa r).bd fun x r1 => match x with
  | .val (.int i) => .ok (.val (.int (-i))) r1
  | _ => .bad := rfl
@[simp] theorem q_nil : cNil r = .ok [] r := rfl
@[simp] theorem q_cons : cCons fa fs r = match fa r with
  | .ok x r1 => (match fs r1 with
    | .ok xs r2 => .ok (x :: xs) r2
    | .exc c r2 => .exc c r2
    | .bad => .bad)
  | .exc c r1 => .exc c r1
  | .bad => .bad := rfl
@[simp] theorem q_opds0 : opds r [] = some [] := rfl
@[simp] theorem q_opds1 {xs : List R} : opds r (x :: xs) = match opd r x, opds r xs with
    | some d, some ds => some (d :: ds)
    | _, _ => none := rfl
@[simp] theorem q_settles0 : settles r [] = r := rfl
@[simp] theorem q_settles1 {xs : List R} : settles r (x :: xs) = settles (settle r x) xs := rfl
@[simp] theorem q_valsR0 : valsR [] = some [] := rfl
@[simp] theorem q_valsR1 {xs : List R} : valsR (.val d :: xs) = match valsR xs with
    | some ds => some (d :: ds)
    | none => none := rfl
@[simp] theorem q_lst : cLst fs r = (fs r).bd fun xs r1 => match valsR xs with
  | some ds => if ds.length ≤ 16777216 then .ok (.val (.node .lst true ds)) r1 else .bad
  | none => .bad := rfl
@[simp] theorem q_tup : cTup fs r = (fs r).bd fun xs r1 => match valsR xs with
  | some ds => if ds.length ≤ 16777216 then .ok (.val (.node .tup false ds)) r1 else .bad
  | none => .bad := rfl
@[simp] theorem q_B {gg : List R → Rho → EO} : cB gg fs r = (fs r).bd gg := rfl
@[simp] theorem q_b1 {f : D → Option D} : b1 f [x] r = match opd r x with
    | some d => (match f d with
      | some z => if atom z = true then .ok (.val z) r else .bad
      | none => .bad)
    | none => .bad := rfl
@[simp] theorem q_len1 {o : Bool} {xs : List D} : lenD (.node .lst o xs) = some (.int xs.length) := rfl
@[simp] theorem q_len2 {o : Bool} {xs : List D} : lenD (.node .rd o xs) = some (.int xs.length) := rfl
@[simp] theorem q_len3 {o : Bool} {xs : List D} : lenD (.node .tup o xs) = some (.int xs.length) := rfl
@[simp] theorem q_listOf : gListOf [x] r = match opd r x with
    | some (.node .lst _ xs) => .ok (.val (.node .lst true (frzs xs))) (touch r x)
    | some (.node .rd _ xs) => .ok (.val (.node .lst true (frzs xs))) (touch r x)
    | some (.node .tup _ xs) => .ok (.val (.node .lst true (frzs xs))) (touch r x)
    | _ => .bad := rfl
@[simp] theorem q_max2 : gMax2 [.val (.int n), .val (.int m)] r = .ok (.val (.int (if m > n then m else n))) r := rfl
@[simp] theorem q_min2 : gMin2 [.val (.int n), .val (.int m)] r = .ok (.val (.int (if m < n then m else n))) r := rfl
@[simp] theorem q_call {nn : Nat} {F : List D → FO} : cCall nn F fs r = (fs r).bd fun xs r1 => if xs.length = nn then callK F xs r1 else .bad := rfl
@[simp] theorem q_callK {F : List D → FO} {xs : List R} : callK F xs r = match opds r xs with
  | some ds => (match F (frzs ds) with
    | .ok d => if noL d = true then .ok (.val d) r else .ok (.val d) (settles r xs)
    | .exc c => .exc c r
    | .bad => .bad)
  | none => .bad := rfl
@[simp] theorem q_callM {nn : Nat} {F : D → List D → MO} : cCallM nn i F fs r = (fs r).bd (callKM nn i F) := rfl
@[simp] theorem q_callKM {nn : Nat} {F : D → List D → MO} {rest : List R} : callKM nn i F (.loc j :: rest) r = if j = i ∧ rest.length = nn then (match opd r (.loc i), valsR rest with
    | some d0, some ds => (match F d0 (frzs ds) with
      | .ok d d0' => .ok (.val d) (r.set i (some d0'))
      | .bad => .bad)
    | _, _ => .bad) else .bad := rfl
@[simp] theorem q_for {t : Tg} {fi : Iv} {f : Sv} : cFor t fi f r = match fi r with
  | .ok ds r1 => forL t f ds r1
  | .exc c r1 => .exc c r1
  | .bad => .bad := rfl
@[simp] theorem q_iLst : iLst fa r = match cSet fa r with
  | .ok (.val (.node .lst _ ds)) r1 => .ok ds r1
  | .ok (.val (.node .rd _ ds)) r1 => .ok ds r1
  | .exc c r1 => .exc c r1
  | _ => .bad := rfl
@[simp] theorem q_iRng {gg : Rho → List R → IO} : iRng gg fs r = match fs r with
  | .ok xs r1 => gg r1 xs
  | .exc c r1 => .exc c r1
  | .bad => .bad := rfl
@[simp] theorem q_rng1 : rngI1 r [.val (.int n)] = if within n = true then .ok (rngD 0 1 n.toNat) r else .bad := rfl
@[simp] theorem q_rng2 : rngI2 r [.val (.int n), .val (.int m)] = if (within n && within m) = true then .ok (rngD n 1 (m - n).toNat) r else .bad := rfl
@[simp] theorem q_lc {vs : List Nat} {t : Tg} {fi : Iv} {fc : Option Ev} {fe : Ev} : cLc vs t fi fc fe r = match fi r with
  | .ok ds r1 => (match lcL t fc fe vs ds [] (wipeR r1 vs) with
    | .ok acc r2 => .ok (.val (.node .lst true acc)) (backR r1 r2 vs)
    | .bad => .bad)
  | .exc c r1 => .exc c r1
  | .bad => .bad := rfl
@[simp] theorem q_wipe0 : wipeR r [] = r := rfl
@[simp] theorem q_wipe1 {vs : List Nat} : wipeR r (i :: vs) = (wipeR r vs).set i none := rfl
@[simp] theorem q_isLst : isLst r i = match r[i]? with
  | some (some (.node .lst _ _)) => true
  | _ => false := rfl
@[simp] theorem q_app : cApp i fa r = if isLst r i = true then (cSet fa r).bd (appK i) else .bad := rfl
@[simp] theorem q_appK : appK i (.val d) r = match r[i]? with
  | some (some (.node .lst true ds)) => if ds.length < 16777216 then .ok (.val .non) (r.set i (some (.node .lst true (ds ++ [d])))) else .bad
  | _ => .bad := by
  unfold appK
  split <;> rename_i h <;> simp_all
@[simp] theorem q_setIx {fk : Ev} : cSetIx i fk fa r = (cSet fa r).st fun x r1 => if isLst r1 i = true then (fk r1).st (setIxK i x) else .bad := rfl
@[simp] theorem q_setIxK : setIxK i (.val d) y r = match opd r y, r[i]? with
  | some (.int k), some (some (.node .lst true ds)) => (match ixN ds.length k with
    | some j => .nx (r.set i (some (.node .lst true (ds.set j d))))
    | none => .bad)
  | _, _ => .bad := by
  unfold setIxK
  split <;> rename_i h <;> simp_all <;> rfl
end
def lints (o : Bool) (ns : List Int) : D := .node .lst o (ns.map .int)
@[simp] theorem frz_lints {o : Bool} {ns : List Int} : frz (lints o ns) = lints false ns := by
  show D.node .lst false (frzs (ns.map D.int)) = _
  rw [frzs_ints]; rfl
end VL
namespace VL
open PySem PySem.Spec PyProof.Rows L2
theorem posOk_of {i m : Int} (hm : 0 < m) : posOk i m = true := decide_eq_true hm
theorem divOk_of' {i m : Int} (hm : 0 < m) (hm2 : m < 1073741824) : divOk i m = true := by
  have h2 : m.natAbs < 1073741824 := by omega
  unfold divOk; simp [hm, h2]
theorem mulOk_l {i j : Int} (h : i.natAbs < 2 ^ 64) : mulOk i j = true := by unfold mulOk; simp [h]
theorem canLay_ints : ∀ ns : List Int, PyData.canLayAll0 (toPys (ns.map D.int)) = true ∧ PyData.depthAll (toPys (ns.map D.int)) = 0
  | [] => ⟨rfl, rfl⟩
  | n :: ns => by
    obtain ⟨h1, h2⟩ := canLay_ints ns
    constructor
    · show (true && PyData.canLayAll0 (toPys (ns.map D.int))) = true
      rw [h1]; rfl
    · show max 0 (PyData.depthAll (toPys (ns.map D.int))) = 0
      rw [h2]; rfl
theorem eqOk_lints (o : Bool) (ns : List Int) : eqOk (.node .lst o (ns.map .int)) = true := by
  obtain ⟨h1, h2⟩ := canLay_ints ns
  show (PyData.canLayAll0 (toPys (ns.map D.int)) && decide (PyData.depthAll (toPys (ns.map D.int)) + 1 ≤ 64)) = true
  rw [h1, h2]; rfl
theorem eqv_ints : ∀ xs ys : List Int, PyData.eqvAll (toPys (xs.map D.int)) (toPys (ys.map D.int)) = decide (xs = ys)
  | [], [] => rfl
  | [], y :: ys => rfl
  | x :: xs, [] => rfl
  | x :: xs, y :: ys => by
    show ((x == y) && PyData.eqvAll (toPys (xs.map D.int)) (toPys (ys.map D.int))) = _
    rw [eqv_ints xs ys]
    by_cases h : x = y <;> by_cases h2 : xs = ys <;> simp [h, h2]
theorem eq_lints {o o' : Bool} (xs ys : List Int) : eqD (.node .lst o (xs.map .int)) (.node .lst o' (ys.map .int)) = some (.bl (decide (xs = ys))) := by
  unfold eqD
  rw [eqOk_lints, eqOk_lints]
  show some (D.bl (PyData.eqvAll (toPys (xs.map D.int)) (toPys (ys.map D.int)))) = _
  rw [eqv_ints]
theorem ne_lints {o o' : Bool} (xs ys : List Int) : neD (.node .lst o (xs.map .int)) (.node .lst o' (ys.map .int)) = some (.bl (!decide (xs = ys))) := by
  unfold neD
  rw [eqOk_lints, eqOk_lints]
  show some (D.bl (!PyData.eqvAll (toPys (xs.map D.int)) (toPys (ys.map D.int)))) = _
  rw [eqv_ints]
theorem frzs_int (ns : List Int) : frzs (List.map D.int ns) = List.map D.int ns := frzs_ints ns
theorem noLs_ints : ∀ ns : List Int, noLs (ns.map D.int) = true
  | [] => rfl
  | n :: ns => by show (true && noLs (ns.map D.int)) = true; rw [noLs_ints ns]; rfl
theorem noL_lints (ns : List Int) : noL (.node .lst true (ns.map .int)) = true := by
  show ((true || false) && noLs (ns.map D.int)) = true
  rw [noLs_ints]; rfl
theorem forL_all {α : Type} {t : Tg} {f : Sv} (st : α → Rho) (P : α → Prop) : ∀ (ds : List D) (a : α), P a → (∀ a d, d ∈ ds → P a → ∃ r1 a', tgt t d (st a) = some r1 ∧ f r1 = .nx (st a') ∧ P a') → ∃ a', forL t f ds (st a) = .nx (st a') ∧ P a'
  | [], a, h, _ => ⟨a, rfl, h⟩
  | d :: ds, a, h, k => by
    obtain ⟨r1, a', e1, e2, h'⟩ := k a d List.mem_cons_self h
    obtain ⟨a'', e3, h''⟩ := forL_all st P ds a' h' (fun a d hd => k a d (List.mem_cons_of_mem _ hd))
    refine ⟨a'', ?_, h''⟩
    show (match tgt t d (st a) with | none => _ | some r1 => _) = _
    rw [e1]
    show (match f r1 with | .nx r2 => forL t f ds r2 | .ct r2 => forL t f ds r2 | .bk r2 => .nx r2 | o => o) = _
    rw [e2]
    exact e3
theorem lt_fuel {n : Nat} (h : n < 1000000000) : n < fuel := Nat.lt_of_lt_of_le h fuel_ge
def bi (bs : List Bool) : List Int := bs.map fun b => (b.toNat : Int)
def wb (bs : List Bool) : Nat := bs.foldl (fun n b => 2 * n + b.toNat) 0
def figs (n : Nat) : List Bool := if h : n = 0 then [] else (n % 2 == 1) :: figs (n / 2)
termination_by n
decreasing_by omega
theorem figs_zero : figs 0 = [] := by rw [figs]; rfl
theorem figs_pos {n : Nat} (h : n ≠ 0) : figs n = (n % 2 == 1) :: figs (n / 2) := by rw [figs]; simp [h]
theorem figs_len {k : Nat} : ∀ {n : Nat}, n < 2 ^ k → (figs n).length ≤ k := by
  induction k with
  | zero => intro n h; have : n = 0 := by simpa using h
            subst this; rw [figs_zero]; simp
  | succ k ih =>
    intro n h
    by_cases h0 : n = 0
    · subst h0; rw [figs_zero]; simp
    · rw [figs_pos h0]
      have := ih (n := n / 2) (by rw [Nat.pow_succ] at h; omega)
      simp; omega
theorem wb_snoc (bs : List Bool) (b : Bool) : wb (bs ++ [b]) = 2 * wb bs + b.toNat := by unfold wb; rw [List.foldl_append]; rfl
theorem snoc_ind {α : Type} {P : List α → Prop} (h0 : P []) (h1 : ∀ l a, P l → P (l ++ [a])) (l : List α) : P l := by
  have z : ∀ m : List α, P m.reverse := fun m => by
    induction m with
    | nil => exact h0
    | cons a m ih => rw [List.reverse_cons]; exact h1 _ _ ih
  have := z l.reverse
  rwa [List.reverse_reverse] at this
theorem wb_lt : ∀ bs : List Bool, wb bs < 2 ^ bs.length := by
  refine snoc_ind (by decide) fun bs b ih => ?_
  · rw [wb_snoc, List.length_append, List.length_singleton, Nat.pow_succ]
    have : b.toNat ≤ 1 := by cases b <;> decide
    omega
theorem figs_wb : ∀ bs : List Bool, ∃ z, bs = List.replicate z false ++ (figs (wb bs)).reverse := by
  refine snoc_ind ⟨0, by show [] = [] ++ (figs 0).reverse; rw [figs_zero]; rfl⟩ fun bs b ih => ?_
  · obtain ⟨z, e⟩ := ih
    rw [wb_snoc]
    by_cases h : 2 * wb bs + b.toNat = 0
    · have hb : b = false := by cases b with
        | false => rfl
        | true => simp at h
      have hw : wb bs = 0 := by omega
      rw [h, figs_zero]
      rw [hw, figs_zero] at e
      refine ⟨z + 1, ?_⟩
      rw [e, hb]
      simp [List.replicate_succ']
    · refine ⟨z, ?_⟩
      have h1 : (2 * wb bs + b.toNat) / 2 = wb bs := by
        have : b.toNat ≤ 1 := by cases b <;> decide
        omega
      have h2 : ((2 * wb bs + b.toNat) % 2 == 1) = b := by
        cases b with
        | false => simp
        | true =>
          have : (2 * wb bs + 1) % 2 = 1 := by omega
          simp [this]
      rw [figs_pos h, h1, h2, List.reverse_cons, ← List.append_assoc, ← e]
theorem figs_last : ∀ (k n : Nat), n ≤ k → n ≠ 0 → ∃ l, figs n = l ++ [true]
  | 0, n, h, h0 => absurd (Nat.le_zero.mp h) h0
  | k + 1, n, h, h0 => by
    by_cases h1 : n / 2 = 0
    · have : n = 1 := by omega
      subst this
      exact ⟨[], by rw [figs_pos h0]; show (1 % 2 == 1) :: figs 0 = _; rw [figs_zero]; rfl⟩
    · obtain ⟨l, e⟩ := figs_last k (n / 2) (by omega) h1
      exact ⟨(n % 2 == 1) :: l, by rw [figs_pos h0, e]; rfl⟩
end VL
namespace VL
open PySem PySem.Spec PyProof.Rows L2
@[simp] theorem q_rev {fa : Ev} {r : Rho} : cRev fa r = (fa r).bd gRev := rfl
@[simp] theorem q_gRev {x : R} {r : Rho} : gRev x r = match opd r x with
  | some (.node .lst _ xs) => .ok (.val (.node .lst true (frzs xs).reverse)) (touch r x)
  | some (.node .rd _ xs) => .ok (.val (.node .lst true (frzs xs).reverse)) (touch r x)
  | _ => .bad := rfl
@[simp] theorem q_sl {fa : Ev} {lo hi : Option Ev} {r : Rho} : cSl fa lo hi r = (fa r).bd fun x r1 => part lo r1 fun l r2 => part hi r2 fun h r3 => gSl x l h r3 := rfl
@[simp] theorem q_part0 {r : Rho} {k : Option Int → Rho → EO} : part none r k = k none r := rfl
@[simp] theorem q_part1 {f : Ev} {r : Rho} {k : Option Int → Rho → EO} : part (some f) r k = (f r).bd fun y r' => match y with
    | .val (.int i) => k (some i) r'
    | _ => .bad := rfl
@[simp] theorem q_gSl {x : R} {lo hi : Option Int} {r : Rho} : gSl x lo hi r = match opd r x with
  | some (.node .lst _ xs) => .ok (.val (.node .lst true (cutD (frzs xs) lo hi))) (touch r x)
  | some (.node .rd _ xs) => .ok (.val (.node .lst true (cutD (frzs xs) lo hi))) (touch r x)
  | some (.node .tup _ xs) => .ok (.val (.node .tup false (cutD (frzs xs) lo hi))) (touch r x)
  | _ => .bad := rfl
@[simp] theorem q_idx {i : Nat} {fa : Ev} {r : Rho} : cIdx i fa r = if isLst r i = true then cBin gIndex (cVar i) fa r else .bad := rfl
@[simp] theorem q_gIndex {x y : R} {r : Rho} : gIndex x y r = match opd r x, opd r y with
  | some (.node .lst _ ds), some d => if (flatD d && ds.all flatD) = true then (match idxD ds d with
    | some j => .ok (.val (.int (j : Nat))) r
    | none => .bad) else .bad
  | _, _ => .bad := rfl
@[simp] theorem q_frzB {k : Kd} {o : Bool} {xs : List D} : frzB (.node k o xs) = .node k o (frzs xs) := rfl
@[simp] theorem q_try {tb : Nat → Option Bool} {i : Option Nat} {fb fs : Sv} {r : Rho} : cTry tb i fb fs r = match fb r with
  | .exc c r1 => (match tb c with
    | some true => inClause i (fs (putE i c r1))
    | some false => .exc c r1
    | none => .bad)
  | o => o := rfl
@[simp] theorem q_putE {j c : Nat} {r : Rho} : putE (some j) c r = r.set j (some (.exc c)) := rfl
@[simp] theorem q_putE0 {c : Nat} {r : Rho} : putE none c r = r := rfl
@[simp] theorem q_inC {j : Nat} {r : Rho} : inClause (some j) (.nx r) = .nx (r.set j none) := rfl
@[simp] theorem q_inC0 {r : Rho} : inClause none (.nx r) = .nx r := rfl
@[simp] theorem q_inC2 {j : Option Nat} {x : R} {r : Rho} : inClause j (.rt x r) = .rt x r := rfl
theorem frz_ints (ns : List Int) (o : Bool) : frz (.node .lst o (ns.map .int)) = .node .lst false (ns.map .int) := by
  show D.node .lst false (frzs (ns.map D.int)) = _
  rw [frzs_ints]
end VL

namespace VL
open PySem PySem.Spec PyProof.Rows L2
theorem q_addL {x y : R} {r : Rho} {o o' : Bool} {xs ys : List D} (h1 : opd r x = some (.node .lst o xs)) (h2 : opd r y = some (.node .lst o' ys)) (h : xs.length + ys.length ≤ 16777216) : gAdd x y r = .ok (.val (.node .lst true (frzs xs ++ frzs ys))) (touch (touch r y) x) := by
  rw [q_add, h1, h2]
  show (if xs.length + ys.length ≤ 16777216 then _ else _) = _
  rw [if_pos h]
theorem q_addLI {r : Rho} {o o' : Bool} (xs ys : List Int) (h : xs.length + ys.length ≤ 16777216) : gAdd (.val (.node .lst o (xs.map .int))) (.val (.node .lst o' (ys.map .int))) r = .ok (.val (.node .lst true ((xs ++ ys).map .int))) r := by
  rw [q_addL (o := o) (o' := o') (xs := xs.map .int) (ys := ys.map .int) rfl rfl (by rw [List.length_map, List.length_map]; exact h), frzs_ints, frzs_ints, List.map_append]
  rfl
end VL

namespace VL
open PySem PySem.Spec PyProof.Rows L2
theorem forL_cons {t : Tg} {f : Sv} {d : D} {ds : List D} {r r1 r2 : Rho} (h1 : tgt t d r = some r1) (h2 : f r1 = .nx r2) : forL t f (d :: ds) r = forL t f ds r2 := by
  show (match tgt t d r with | none => _ | some r1 => _) = _
  rw [h1]
  show (match f r1 with | .nx r2 => forL t f ds r2 | .ct r2 => forL t f ds r2 | .bk r2 => .nx r2 | o => o) = _
  rw [h2]
end VL

namespace VL
open PySem PySem.Spec PyProof.Rows L2
section
variable {X : Cx} {G : GX} {C : Fc} {W : WX} {ow ow' : Ow} {r : Rho} {T T1 T2 : List (D × V)} {s : L2.St} {H H' : Hp} {fa fb fc : Ev} {fs : Av}
theorem StW.relist {i n : Nat} {o' : Bool} {ds ds' : List D} {a : Addr} {vs' : List V} {l : VL.Loc} (S : StW G C ow r T s H) (q : r[i]? = some (some (.node .lst true ds))) (ha : s[i]? = some (some (.ref a))) (e : frzs ds' = ds') (h : Reps G ow H ds' l n vs') :
    StW G C ow (r.set i (some (.node .lst true ds'))) T s (upd H a (.lst vs')) := by
  obtain ⟨v, z1, a', vs, ev, z2, z3, z4⟩ := S.sl i _ q
  rw [ha] at z1
  cases z1
  cases ev
  have oa : ow a = some ⟨.sl i, []⟩ := by simpa using z3.cases.resolve_left (fun z => nomatch z)
  have exn : ∀ (b : Addr) (o : HO), H b = some o → ¬ OwnO (some o) → upd H a (.lst vs') b = some o := fun b o z n => by
    rw [upd_ne (fun e => by have m := S.mu a _ oa; rw [e] at z; rw [z] at m; exact n m)]; exact z
  refine StW.write (k := .lst) (k' := .lst) (ow' := ow) (fun z => nomatch z) S q ha trivial (vs' := vs') upd_same (fun b n => n) (fun b j p n _ => n) (fun b p n => n) (fun b l y => ⟨l, y, id⟩) (fun b l y n l' y2 => by rw [y] at y2; cases y2; exact n) oa ?_ (fun j d' w y => ?_)
  · exact Reps.moveF _ e (fun b o z n => ⟨by rw [upd_ne (fun e => by subst e; rw [oa] at n; cases n)]; exact .inl z, n⟩) (fun b o z n => exn b o z n) h
  · exact Rep.mono (l := ⟨.tm j, []⟩) d' (fun b o z w => by rw [upd_ne (apart oa w (.inl (fun z => nomatch z)))]; exact .inl z) (fun b o z n => exn b o z n) (fun b o _ n => n) (fun b o p _ n => n) (S.tm j d' w y)
theorem touch_lst {i : Nat} {ds : List D} (q : r[i]? = some (some (.node .lst true ds))) : touch r (.loc i) = r.set i (some (.node .lst true (frzs ds))) := by
  show (match r[i]? with | some (some d) => r.set i (some (frzB d)) | _ => r) = _
  rw [q]; rfl
theorem StW.mine {i : Nat} {ds : List D} (S : StW G C ow r T s H) (q : r[i]? = some (some (.node .lst true ds))) : ∃ ow' a vs, s[i]? = some (some (.ref a)) ∧ H a = some (.lst vs) ∧ StW G C ow' (r.set i (some (.node .lst true (frzs ds)))) T s H ∧ (r.set i (some (.node .lst true (frzs ds))))[i]? = some (some (.node .lst true (frzs ds))) ∧ (∀ l, Reps G ow' H (frzs ds) l 0 vs) ∧ (∀ b, ow b = none → ow' b = none) ∧ ow' a = some ⟨.sl i, []⟩ := by
  obtain ⟨v, z1, z⟩ := S.sl i _ q
  have e1 : opd r (.loc i) = some (.node .lst true ds) := by
    show (match r[i]? with | some (some d) => some d | _ => none) = _
    rw [q]
  obtain ⟨ow', a, vs, S', ev, h1, rx, hn⟩ := StW.parts (T := T) (x := .loc i) (v := v) (by simpa [pushR] using S) z1 e1
  subst ev
  rw [touch_lst q] at S'
  have q' : (r.set i (some (.node .lst true (frzs ds))))[i]? = some (some (.node .lst true (frzs ds))) := List.getElem?_set_self (List.getElem?_eq_some_iff.mp q).1
  refine ⟨ow', a, vs, z1, h1, S', q', rx, hn, ?_⟩
  obtain ⟨v2, w1, a2, vs2, ev, w2, w3, _⟩ := S'.sl i _ q'
  rw [z1] at w1
  cases w1
  cases ev
  simpa using w3.cases.resolve_left (fun z => nomatch z)
def cPop (i : Nat) : Ev := fun r => match r[i]? with
  | some (some (.node .lst true ds)) => (match (frzs ds)[ds.length - 1]? with
    | some d => .ok (.val d) ((r.set i (some (.node .lst true (frzs ds)))).set i (some (.node .lst true (frzs ds).dropLast)))
    | none => .bad)
  | _ => .bad
def extK (i : Nat) (x : R) (r1 : Rho) : EO := match opd r1 x with
  | some (.node .lst _ es) => (match (touch r1 x)[i]? with
    | some (some (.node .lst true ds)) => if ds.length + es.length ≤ 16777216 then .ok (.val .non) (((touch r1 x).set i (some (.node .lst true (frzs ds)))).set i (some (.node .lst true (frzs ds ++ frzs es)))) else .bad
    | _ => .bad)
  | _ => .bad
def cExt (i : Nat) (fa : Ev) : Ev := fun r => if isLst r i = true then (fa r).bd (extK i) else .bad
theorem ve_ext {i : Nat} {x : Str} {e : Expr} {p apos cpos : Pos} (hN : X.N[i]? = some x) (hv : Vis X.env.scope x) (hd : (x == ("__debug__" : Str)) = false) (hcd : (x == ("__classdict__" : Str)) = false) (ha : VE X G C W e fa)
    (hbase : attributeBase (.Name x p) "extend" X.env (eval (.Name x p) X.env) = eval (.Name x p) X.env := by rfl)
    (hfew : ((backTo cpos (starEach [e] X.env)).all (fun x => !x.1) && (backToKw cpos (keywordEach [] X.env)).all (fun x => x.1.isSome)
      && decide ([e].length + ([] : List Keyword).length + (if ([] : List Keyword).isEmpty then 0 else 1) < 30)) = true := by rfl)
    (hline : (apos.endLine == cpos.line) = true := by rfl) (hs : starEach [e] X.env = (false, eval e X.env) :: starEach [] X.env := by rfl) (hplain : (backTo cpos (starEach [] X.env)).any (·.1) = false := by rfl) :
    VE X G C W (.Call (.Attribute (.Name x p) "extend" apos) [e] [] cpos) (cExt i fa) := by
  refine PE.imp (pe_bm PySem.F.plainAttrs_list PySem.F.slot_list_extend PySem.F.type_list_extend mt_extend (pe_var hN hv hd hcd) (pa_cons ha pa_nil hs) hbase hfew hline hs hplain) fun s H Q h => ?_
  obtain ⟨r, T, S, g⟩ := h
  have g : Goes G C W T s Q (cExt i fa r) := g
  unfold cExt at g
  split at g
  · rename_i hi
    obtain ⟨o, ds, hr⟩ := isLst_at hi
    obtain ⟨ow, S0⟩ := S
    obtain ⟨v, v1, a, vs, ev, v2, v3, v4⟩ := S0.sl i _ hr
    subst ev
    refine ⟨_, v1, .inl ⟨rfl, vs, SqL.of v2⟩, ?_⟩
    refine one (fa := fa) ⟨ow, S0⟩ g fun x v' r1 H1 P g1 => ?_
    unfold extK at g1
    split at g1
    · rename_i o2 es e1
      split at g1
      · rename_i ds2 q
        split at g1
        · rename_i hz
          obtain ⟨ow1, S1⟩ := P.1
          obtain ⟨ow2, b, zs, S2, ev, hB, rxe, hn⟩ := S1.parts P.2 e1
          subst ev
          obtain ⟨ow3, a', vs', z1, hA, S3, q3, rx, hn3, oa⟩ := S2.mine q
          rw [v1] at z1
          cases z1
          have l1 := (rx ⟨.fo, []⟩).length
          have l2 := (rxe ⟨.fo, []⟩).length
          rw [frzs_length] at l1 l2
          have re : Reps G ow3 H1 (frzs es) ⟨.fo, []⟩ 0 zs := Reps.moveF _ (frzs_frzs es) (fun b o z n => ⟨z, hn3 b n⟩) (fun _ _ z _ => z) (rxe ⟨.fo, []⟩)
          have S4 := S3.relist (o' := true) q3 v1 (by rw [frzs_append, frzs_frzs, frzs_frzs]) (Reps.app (frzs_frzs ds2) (frzs_frzs es) (rx ⟨.fo, []⟩) re)
          exact ⟨a, b, vs', zs, rfl, rfl, hA, hB, by rw [sizeLine_eq, ← l1, ← l2]; exact hz, g1 _ _ ⟨StOk.pushN ⟨_, S4⟩, trivial⟩⟩
        · exact g1.elim
      · exact g1.elim
    · exact g1.elim
  · exact g.elim
end
end VL

namespace VL
open PySem PySem.Spec PyProof.Rows L2
end VL
namespace VL
open PySem PySem.Spec PyProof.Rows L2
def FP (k : Nat) (d : D) : Prop := (toPy d).canLay0 = true ∧ (toPy d).depth ≤ k
theorem FP.mono {k m : Nat} {d : D} (h : FP k d) (hm : k ≤ m) : FP m d := ⟨h.1, Nat.le_trans h.2 hm⟩
theorem fp_int (n : Int) (k : Nat) : FP k (.int n) := ⟨rfl, Nat.zero_le _⟩
theorem fp_bl (b : Bool) (k : Nat) : FP k (.bl b) := ⟨rfl, Nat.zero_le _⟩
theorem fp_non (k : Nat) : FP k .non := ⟨rfl, Nat.zero_le _⟩
theorem fps {k : Nat} : ∀ {xs : List D}, (∀ x ∈ xs, FP k x) → PyData.canLayAll0 (toPys xs) = true ∧ PyData.depthAll (toPys xs) ≤ k
  | [], _ => ⟨rfl, Nat.zero_le _⟩
  | x :: xs, h => by
    obtain ⟨h1, h2⟩ := fps (fun y hy => h y (List.mem_cons_of_mem _ hy))
    obtain ⟨h3, h4⟩ := h x List.mem_cons_self
    constructor
    · show ((toPy x).canLay0 && PyData.canLayAll0 (toPys xs)) = true
      rw [h1, h3]; rfl
    · show max (toPy x).depth (PyData.depthAll (toPys xs)) ≤ k
      exact Nat.max_le.mpr ⟨h4, h2⟩
theorem fp_lst {k : Nat} {o : Bool} {xs : List D} (h : ∀ x ∈ xs, FP k x) : FP (k + 1) (.node .lst o xs) := ⟨(fps h).1, Nat.succ_le_succ (fps h).2⟩
theorem fp_tup {k : Nat} {o : Bool} {xs : List D} (h : ∀ x ∈ xs, FP k x) : FP (k + 1) (.node .tup o xs) := ⟨(fps h).1, Nat.succ_le_succ (fps h).2⟩
theorem eqOk_fp {k : Nat} {d : D} (h : FP k d) (hk : k ≤ 64) : eqOk d = true := by
  show ((toPy d).canLay0 && decide ((toPy d).depth ≤ 64)) = true
  rw [h.1, decide_eq_true (Nat.le_trans h.2 hk)]; rfl
mutual
theorem eqv_refl : ∀ d : PyData, d.canLay0 = true → PyData.eqv d d = true
  | .none, _ => rfl
  | .bool b, _ => by cases b <;> rfl
  | .int i, _ => by show (i == i) = true; simp
  | .str x, _ => by show (x == x) = true; simp
  | .list xs, h => eqvAll_refl xs (by simpa [PyData.canLay0] using h)
  | .tuple xs, h => eqvAll_refl xs (by simpa [PyData.canLay0] using h)
  | .dict _, h => by simp [PyData.canLay0] at h
theorem eqvAll_refl : ∀ ds : List PyData, PyData.canLayAll0 ds = true → PyData.eqvAll ds ds = true
  | [], _ => rfl
  | d :: ds, h => by
    have h' : d.canLay0 = true ∧ PyData.canLayAll0 ds = true := by simpa [PyData.canLayAll0] using h
    show (PyData.eqv d d && PyData.eqvAll ds ds) = true
    rw [eqv_refl d h'.1, eqvAll_refl ds h'.2]; rfl
end
theorem eqD_same {k : Nat} {d e : D} (h : FP k d) (hk : k ≤ 64) (he : toPy d = toPy e) : eqD d e = some (.bl true) := by
  have h2 : FP k e := ⟨he ▸ h.1, he ▸ h.2⟩
  unfold eqD
  rw [eqOk_fp h hk, eqOk_fp h2 hk, ← he, eqv_refl _ h.1]; rfl
theorem neD_same {k : Nat} {d e : D} (h : FP k d) (hk : k ≤ 64) (he : toPy d = toPy e) : neD d e = some (.bl false) := by
  have h2 : FP k e := ⟨he ▸ h.1, he ▸ h.2⟩
  unfold neD
  rw [eqOk_fp h hk, eqOk_fp h2 hk, ← he, eqv_refl _ h.1]; rfl
def pr (p : Int × Int) : D := .node .tup false [.int p.1, .int p.2]
@[simp] theorem frz_pr (p : Int × Int) : frz (pr p) = pr p := rfl
@[simp] theorem frzs_pr (ps : List (Int × Int)) : frzs (ps.map pr) = ps.map pr := by
  rw [frzs_map, List.map_map]
  exact List.map_congr_left fun _ _ => rfl
@[simp] theorem atom_pr (p : Int × Int) : atom (pr p) = false := rfl
theorem fp_pr (p : Int × Int) (k : Nat) (hk : 1 ≤ k) : FP k (pr p) := ⟨rfl, hk⟩
theorem fp_prs (ps : List (Int × Int)) : ∀ x ∈ ps.map pr, FP 1 x := fun x hx => by
  obtain ⟨p, _, rfl⟩ := List.mem_map.mp hx
  exact fp_pr p 1 (Nat.le_refl 1)
theorem noLs_prs : ∀ ps : List (Int × Int), noLs (ps.map pr) = true
  | [] => rfl
  | p :: ps => by show (true && noLs (ps.map pr)) = true; rw [noLs_prs ps]; rfl
theorem eqv_prs : ∀ xs ys : List (Int × Int), PyData.eqvAll (toPys (xs.map pr)) (toPys (ys.map pr)) = decide (xs = ys)
  | [], [] => rfl
  | [], y :: ys => rfl
  | x :: xs, [] => rfl
  | x :: xs, y :: ys => by
    show (((x.1 == y.1) && ((x.2 == y.2) && true)) && PyData.eqvAll (toPys (xs.map pr)) (toPys (ys.map pr))) = _
    rw [eqv_prs xs ys]
    obtain ⟨a, b⟩ := x
    obtain ⟨c, d⟩ := y
    by_cases h : a = c <;> by_cases h2 : b = d <;> by_cases h3 : xs = ys <;> simp [h, h2, h3]
theorem ne_prs {o o' : Bool} (xs ys : List (Int × Int)) : neD (.node .lst o (xs.map pr)) (.node .lst o' (ys.map pr)) = some (.bl (!decide (xs = ys))) := by
  unfold neD
  rw [eqOk_fp (fp_lst (fp_prs xs)) (by decide), eqOk_fp (fp_lst (fp_prs ys)) (by decide)]
  show some (D.bl (!PyData.eqvAll (toPys (xs.map pr)) (toPys (ys.map pr)))) = _
  rw [eqv_prs]
theorem eq_prs {o o' : Bool} (xs ys : List (Int × Int)) : eqD (.node .lst o (xs.map pr)) (.node .lst o' (ys.map pr)) = some (.bl (decide (xs = ys))) := by
  unfold eqD
  rw [eqOk_fp (fp_lst (fp_prs xs)) (by decide), eqOk_fp (fp_lst (fp_prs ys)) (by decide)]
  show some (D.bl (PyData.eqvAll (toPys (xs.map pr)) (toPys (ys.map pr)))) = _
  rw [eqv_prs]
theorem seq_nx {f g : Sv} {r r1 : Rho} (h : f r = .nx r1) : cSeq f g r = g r1 := by
  rw [q_seq, h]; rfl
theorem seq_rt {f g : Sv} {r r1 : Rho} {x : R} (h : f r = .rt x r1) : cSeq f g r = .rt x r1 := by
  rw [q_seq, h]; rfl
theorem seq_exc {f g : Sv} {r r1 : Rho} {c : Nat} (h : f r = .exc c r1) : cSeq f g r = .exc c r1 := by
  rw [q_seq, h]; rfl
theorem set_same {r : Rho} {i : Nat} {d : D} (h : r[i]? = some (some d)) : r.set i (some d) = r := by
  refine List.ext_getElem? fun j => ?_
  by_cases hj : i = j
  · subst hj
    rw [List.getElem?_set_self (List.getElem?_eq_some_iff.mp h).1, h]
  · rw [List.getElem?_set_ne hj]
theorem opd_loc' {r : Rho} {i : Nat} {d : D} (h : r[i]? = some (some d)) : opd r (.loc i) = some d := by
  show (match r[i]? with | some (some d) => some d | _ => none) = _
  rw [h]
theorem touch_fz {r : Rho} {i : Nat} {k : Kd} {o : Bool} {ys : List D} (h : r[i]? = some (some (.node k o ys))) (f : frzs ys = ys) : touch r (.loc i) = r := by
  show (match r[i]? with | some (some d) => r.set i (some (frzB d)) | _ => r) = r
  rw [h]
  show r.set i (some (.node k o (frzs ys))) = r
  rw [f]
  exact set_same h
theorem add_fz {r : Rho} {x y : R} {o o' : Bool} {xs ys : List D} (h1 : opd r x = some (.node .lst o xs)) (h2 : opd r y = some (.node .lst o' ys)) (f1 : frzs xs = xs) (f2 : frzs ys = ys) (hl : xs.length + ys.length ≤ 16777216) (t1 : touch r x = r) (t2 : touch r y = r) :
    gAdd x y r = .ok (.val (.node .lst true (xs ++ ys))) r := by
  rw [q_addL h1 h2 hl, f1, f2, t2, t1]
theorem atI_nat {α : Type} {xs : List α} (i : Nat) : atI xs (i : Int) = xs[i]? := by
  unfold atI ixN
  have z1 : (0 : Int) ≤ (i : Int) := by omega
  rw [if_pos z1]
  by_cases h : i < xs.length
  · rw [if_pos (show (i : Int) < (xs.length : Nat) by omega), Int.toNat_natCast]; rfl
  · rw [if_neg (show ¬ (i : Int) < (xs.length : Nat) by omega), List.getElem?_eq_none (by omega)]; rfl
theorem within_le {n : Int} (h1 : -1000000000 ≤ n) (h2 : n ≤ 1000000000) : within n = true := by unfold within; simp; omega
theorem pop_fz {r : Rho} {i : Nat} {xs : List D} {d : D} (h : r[i]? = some (some (.node .lst true (xs ++ [d])))) (f : frzs (xs ++ [d]) = xs ++ [d]) : cPop i r = .ok (.val d) (r.set i (some (.node .lst true xs))) := by
  unfold cPop
  rw [h]
  have e : (frzs (xs ++ [d]))[(xs ++ [d]).length - 1]? = some d := by rw [f]; simp
  have e2 : (frzs (xs ++ [d])).dropLast = xs := by rw [f]; simp
  simp only [e, e2, List.set_set]
@[simp] theorem q_aug {i : Nat} {g : G2} {fb : Ev} {r : Rho} : cAug i g fb r = match r[i]? with
  | some (some d) => if atom d = true then (fb r).st fun y r1 => (g (.val d) y r1).st fun z r2 => match z with
    | .val d' => .nx (r2.set i (some d'))
    | .loc _ => .bad else .bad
  | _ => .bad := rfl
@[simp] theorem q_iAdd {n m : Int} : iAdd (.int n) (.int m) = some (.int (n + m)) := rfl
theorem cvar_loc {r : Rho} {i : Nat} {d : D} (h : r[i]? = some (some d)) (a : atom d = false) : cVar i r = .ok (.loc i) r := by
  rw [q_var, h]
  show (if atom d = true then _ else _) = _
  rw [a]; rfl
theorem cvar_at {r : Rho} {i : Nat} {d : D} (h : r[i]? = some (some d)) (a : atom d = true) : cVar i r = .ok (.val d) r := by
  rw [q_var, h]
  show (if atom d = true then _ else _) = _
  rw [a]; rfl
theorem g2_ok {r : Rho} {f : D → D → Option D} {x y : R} {d e z : D} (h1 : opd r x = some d) (h2 : opd r y = some e) (h : f d e = some z) (a : atom z = true) : g2 f x y r = .ok (.val z) r := by
  rw [q_g2, h1, h2]
  show (match f d e with | some z => if atom z = true then EO.ok (R.val z) r else .bad | none => .bad) = _
  rw [h]
  show (if atom z = true then EO.ok (R.val z) r else .bad) = _
  rw [if_pos a]
theorem bin_ok {fa fb : Ev} {g : G2} {r r1 r2 : Rho} {x y : R} {o : EO} (h1 : fa r = .ok x r1) (h2 : fb r1 = .ok y r2) (h : g x y r2 = o) : cBin g fa fb r = o := by
  rw [q_bin, h1, bd_ok, h2, bd_ok, h]
theorem ifs_ok {fa : Ev} {f g : Sv} {r r1 : Rho} {b : Bool} {o : SO} (h : fa r = .ok (.val (.bl b)) r1) (h2 : (if b = true then f r1 else g r1) = o) : cIfS fa f g r = o := by
  rw [q_ifs, h, q_st1]
  cases b <;> exact h2
theorem for_ok {t : Tg} {fi : Iv} {f : Sv} {r r1 : Rho} {ds : List D} {o : SO} (h : fi r = .ok ds r1) (h2 : forL t f ds r1 = o) : cFor t fi f r = o := by
  rw [q_for, h]
  exact h2
theorem cutD_some (xs : List D) (a b : Nat) : VL.cutD xs (some (a : Int)) (some (b : Int)) = (xs.drop a).take (b - a) := by
  unfold VL.cutD
  show (xs.drop (HT.sIx xs.length 0 (some ((a : Nat) : Int)))).take (HT.sIx xs.length xs.length (some ((b : Nat) : Int)) - HT.sIx xs.length 0 (some ((a : Nat) : Int))) = _
  rw [HT.sIx_nat, HT.sIx_nat]
  by_cases h : a ≤ xs.length
  · rw [Nat.min_eq_left h]
    by_cases h2 : b ≤ xs.length
    · rw [Nat.min_eq_left h2]
    · rw [Nat.min_eq_right (by omega), List.take_of_length_le (by rw [List.length_drop]; omega), List.take_of_length_le (by rw [List.length_drop]; omega)]
  · rw [Nat.min_eq_right (show xs.length ≤ a by omega), List.drop_length, List.drop_of_length_le (show xs.length ≤ a by omega), List.take_nil, List.take_nil]
theorem cutD_to (xs : List D) (b : Nat) : VL.cutD xs none (some (b : Int)) = xs.take b := by
  unfold VL.cutD
  show (xs.drop (HT.sIx xs.length 0 none)).take (HT.sIx xs.length xs.length (some ((b : Nat) : Int)) - HT.sIx xs.length 0 none) = _
  rw [HT.sIx_nat, HT.sIx_none, List.drop_zero, Nat.sub_zero]
  by_cases h2 : b ≤ xs.length
  · rw [Nat.min_eq_left h2]
  · rw [Nat.min_eq_right (by omega), List.take_length, List.take_of_length_le (by omega)]
theorem cutD_of (xs : List D) (a : Nat) : VL.cutD xs (some (a : Int)) none = xs.drop a := by
  unfold VL.cutD
  show (xs.drop (HT.sIx xs.length 0 (some ((a : Nat) : Int)))).take (HT.sIx xs.length xs.length none - HT.sIx xs.length 0 (some ((a : Nat) : Int))) = _
  rw [HT.sIx_nat, HT.sIx_none]
  by_cases h : a ≤ xs.length
  · rw [Nat.min_eq_left h, List.take_of_length_le (by rw [List.length_drop]; omega)]
  · rw [Nat.min_eq_right (by omega), List.drop_length, List.drop_of_length_le (by omega), List.take_nil]
theorem not_ok {fa : Ev} {r r1 : Rho} {b : Bool} (h : fa r = .ok (.val (.bl b)) r1) : cNot fa r = .ok (.val (.bl (!b))) r1 := by
  rw [q_not, h, bd_ok]
section
variable {fa fb : Ev} {r r1 r2 : Rho} {i j : Int}
theorem mod_ok (h1 : fa r = .ok (.val (.int i)) r1) (h2 : fb r1 = .ok (.val (.int j)) r2) (hj : 0 < j) : cBin gMod fa fb r = .ok (.val (.int (i % j))) r2 :=
  bin_ok h1 h2 (g2_ok rfl rfl (by rw [q_fI, if_pos (posOk_of hj)]) rfl)
theorem div_ok (h1 : fa r = .ok (.val (.int i)) r1) (h2 : fb r1 = .ok (.val (.int j)) r2) (hj : 0 < j) (hj2 : j < 1073741824) : cBin gDiv fa fb r = .ok (.val (.int (i / j))) r2 :=
  bin_ok h1 h2 (g2_ok rfl rfl (by rw [q_fI, if_pos (divOk_of' hj hj2)]) rfl)
theorem mul_ok (h1 : fa r = .ok (.val (.int i)) r1) (h2 : fb r1 = .ok (.val (.int j)) r2) (hm : mulOk i j = true) : cBin gMul fa fb r = .ok (.val (.int (i * j))) r2 :=
  bin_ok h1 h2 (by rw [q_mulI, if_pos hm])
theorem add_ok (h1 : fa r = .ok (.val (.int i)) r1) (h2 : fb r1 = .ok (.val (.int j)) r2) : cBin gAdd fa fb r = .ok (.val (.int (i + j))) r2 := bin_ok h1 h2 q_addI
theorem sub_ok (h1 : fa r = .ok (.val (.int i)) r1) (h2 : fb r1 = .ok (.val (.int j)) r2) : cBin VL.gSub fa fb r = .ok (.val (.int (i - j))) r2 := bin_ok h1 h2 (g2_ok rfl rfl rfl rfl)
theorem lt_ok (h1 : fa r = .ok (.val (.int i)) r1) (h2 : fb r1 = .ok (.val (.int j)) r2) : cBin gLt fa fb r = .ok (.val (.bl (decide (i < j)))) r2 := bin_ok h1 h2 (g2_ok rfl rfl rfl rfl)
theorem le_ok (h1 : fa r = .ok (.val (.int i)) r1) (h2 : fb r1 = .ok (.val (.int j)) r2) : cBin gLe fa fb r = .ok (.val (.bl (decide (i ≤ j)))) r2 := bin_ok h1 h2 (g2_ok rfl rfl rfl rfl)
theorem gt_ok (h1 : fa r = .ok (.val (.int i)) r1) (h2 : fb r1 = .ok (.val (.int j)) r2) : cBin gGt fa fb r = .ok (.val (.bl (decide (j < i)))) r2 := bin_ok h1 h2 (g2_ok rfl rfl rfl rfl)
theorem ge_ok (h1 : fa r = .ok (.val (.int i)) r1) (h2 : fb r1 = .ok (.val (.int j)) r2) : cBin gGe fa fb r = .ok (.val (.bl (decide (j ≤ i)))) r2 := bin_ok h1 h2 (g2_ok rfl rfl rfl rfl)
theorem eq_ok (h1 : fa r = .ok (.val (.int i)) r1) (h2 : fb r1 = .ok (.val (.int j)) r2) : cBin gEq fa fb r = .ok (.val (.bl (decide (i = j)))) r2 := bin_ok h1 h2 (g2_ok rfl rfl q_eqI rfl)
theorem ne_ok (h1 : fa r = .ok (.val (.int i)) r1) (h2 : fb r1 = .ok (.val (.int j)) r2) : cBin gNe fa fb r = .ok (.val (.bl (!decide (i = j)))) r2 := bin_ok h1 h2 (g2_ok rfl rfl q_neI rfl)
theorem b1_ok {f : D → Option D} {x : R} {d z : D} (h : fa r = .ok x r1) (ho : opd r1 x = some d) (hf : f d = some z) (a : atom z = true) : cB (b1 f) (cCons fa cNil) r = .ok (.val z) r1 := by
  rw [q_B, q_cons, h]
  show (b1 f [x] r1) = _
  rw [q_b1, ho]
  show (match f d with | some z => if atom z = true then EO.ok (.val z) r1 else .bad | none => .bad) = _
  rw [hf]
  show (if atom z = true then EO.ok (.val z) r1 else .bad) = _
  rw [if_pos a]
theorem ifs_yes {fa : Ev} {f g : Sv} {o : SO} (h : fa r = .ok (.val (.bl true)) r1) (h2 : f r1 = o) : cIfS fa f g r = o := ifs_ok h h2
theorem ifs_not {fa : Ev} {f g : Sv} {o : SO} (h : fa r = .ok (.val (.bl false)) r1) (h2 : g r1 = o) : cIfS fa f g r = o := ifs_ok h h2
theorem ret_ok {fa : Ev} {x : R} (h : fa r = .ok x r1) : cRet fa r = .rt x r1 := by
  rw [q_ret, h]; rfl
end
theorem pow_ok (i j : Int) (h : powOk i j = true) (r : Rho) : gPow (.val (.int i)) (.val (.int j)) r = .ok (.val (.int (i ^ j.toNat))) r :=
  g2_ok rfl rfl (by rw [q_fI, if_pos h]) rfl
theorem runF_ok {n : Nat} {f : Sv} {ds : List D} {x : R} {r : Rho} {d : D} (h : f (startR n ds) = .rt x r) (ho : opd r x = some d) : runF n f ds = .ok d := by
  unfold runF
  rw [h]
  show (match opd r x with | some d => FO.ok d | none => .bad) = _
  rw [ho]
end VL

namespace VL
open PySem PySem.Spec PyProof.Rows L2
def Fc.pinned (C : Fc) (i : Nat) (v : V) : Fc := ⟨C.H0, C.io, C.fo, (i, v) :: C.pin⟩
section
variable {X : Cx} {G : GX} {C : Fc} {W : WX} {ow ow' : Ow} {r : Rho} {T T1 T2 : List (D × V)} {s : L2.St} {H H' : Hp} {fa fb fc : Ev} {f g : Sv}
theorem StW.unpin {i : Nat} {v : V} (S : StW G (C.pinned i v) ow r T s H) : StW G C ow r T s H := ⟨S.len, S.sl, S.tm, S.old, S.own, S.fo, S.mu, fun p hp => S.pin p (List.mem_cons_of_mem _ hp), S.tabs⟩
theorem StW.pinned {i : Nat} {v : V} (S : StW G C ow r T s H) (e : s[i]? = some (some v)) : StW G (C.pinned i v) ow r T s H := ⟨S.len, S.sl, S.tm, S.old, S.own, S.fo, S.mu, fun p hp => by
  rcases List.mem_cons.mp hp with z | z
  · rw [z]; exact e
  · exact S.pin p z, S.tabs⟩
theorem pinC {i j : Nat} {v : V} (h : ∀ p ∈ C.pin, p.1 ≠ j) (hn : i ≠ j) : ∀ p ∈ (C.pinned i v).pin, p.1 ≠ j := fun p hp => by
  rcases List.mem_cons.mp hp with z | z
  · rw [z]; exact hn
  · exact h p z
theorem pinCo {i : Nat} {l : List Nat} {v : V} (h : ∀ p ∈ C.pin, p.1 ∉ l) (hn : i ∉ l) : ∀ p ∈ (C.pinned i v).pin, p.1 ∉ l := fun p hp => by
  rcases List.mem_cons.mp hp with z | z
  · rw [z]; exact hn
  · exact h p z
end
end VL

namespace VL
open PySem PySem.Spec PyProof.Rows L2
section
variable {X : Cx} {G : GX} {C : Fc} {W : WX} {ow ow' : Ow} {r : Rho} {T T1 T2 : List (D × V)} {s : L2.St} {H H' : Hp} {fa fb fc : Ev} {f g : Sv} {fs : Av}
def enumD : Nat → List D → List D
  | _, [] => []
  | n, d :: ds => .node .tup false [.int (n : Nat), d] :: enumD (n + 1) ds
theorem frz_at {ds : List D} {i : Nat} {d : D} (e : frzs ds = ds) (h : ds[i]? = some d) : frz d = d := by
  have := congrArg (·[i]?) e
  simp only [frzs_map, List.getElem?_map, h, Option.map_some] at this
  exact Option.some.inj this
def gEn (r : Rho) (xs : List R) : IO := match xs with
  | [.val (.node .lst _ ds)] => .ok (enumD 0 (frzs ds)) r
  | [.val (.node .rd _ ds)] => .ok (enumD 0 (frzs ds)) r
  | _ => .bad
def remK (i : Nat) (x : R) (r1 : Rho) : EO := match opd r1 x, r1[i]? with
  | some (.int k), some (some (.node .lst true ds)) => (match intsOf ds with
    | some ns => (match ns.findIdx? (fun n => n == k) with
      | some j => .ok (.val .non) ((r1.set i (some (.node .lst true (frzs ds)))).set i (some (.node .lst true ((ns.eraseIdx j).map .int))))
      | none => .bad)
    | none => .bad)
  | _, _ => .bad
end
def ins1 (x : Int) : List Int → List Int
  | [] => [x]
  | y :: ys => if x ≤ y then x :: y :: ys else y :: ins1 x ys
section
variable {X : Cx} {G : GX} {C : Fc} {W : WX} {ow ow' : Ow} {r : Rho} {T T1 T2 : List (D × V)} {s : L2.St} {H H' : Hp} {fa fb fc : Ev} {f g : Sv} {fs : Av}
def maxL : List Int → Option Int
  | [] => none
  | x :: xs => some (xs.foldl max x)
def lstInts : D → Option (List Int)
  | .node .lst _ ds => intsOf ds
  | _ => none
def maxD (d : D) : Option D := (lstInts d).bind fun ns => (maxL ns).map .int
end
end VL

namespace VL
open PySem PySem.Spec PyProof.Rows L2
section
variable {X : Cx} {G : GX} {C : Fc} {W : WX} {ow ow' : Ow} {r : Rho} {T T1 T2 : List (D × V)} {s : L2.St} {H H' : Hp} {fa fb fc : Ev} {fs : Av} {f g : Int → Int → Bool}
end
@[simp] theorem q_iEn {fs : Av} {r : Rho} {o : Bool} {ds : List D} {r1 : Rho} (h : fs r = .ok [.val (.node .lst o ds)] r1) : iRng gEn fs r = .ok (enumD 0 (frzs ds)) r1 := by
  rw [q_iRng, h]; rfl
end VL

namespace VL
open PySem PySem.Spec PyProof.Rows L2
def lcO (i n : Nat) (t : Tg) (fc : Option Ev) (fe : Ev) (vs : List Nat) : Nat → List D → Rho → LO
  | 0, acc, r => (match r[i]? with
    | some (some (.node .lst true ds)) => if ds.length = n then .ok acc r else .bad
    | _ => .bad)
  | k + 1, acc, r => (match r[i]? with
    | some (some (.node .lst true ds)) => if ds.length = n then (match ds[n - (k + 1)]? with
      | some d => (match tgt t (frz d) (r.set i (some (.node .lst true (frzs ds)))) with
        | none => .bad
        | some r1 => (match tstR fc r1 with
          | .ok (.val (.bl true)) r2 => (match cSet fe r2 with
            | .ok (.val e) r3 => if acc.length < 16777216 then lcO i n t fc fe vs k (acc ++ [e]) (wipeR r3 vs) else .bad
            | _ => .bad)
          | .ok (.val (.bl false)) r2 => lcO i n t fc fe vs k acc (wipeR r2 vs)
          | _ => .bad))
      | none => .bad) else .bad
    | _ => .bad)
def cLcO (i : Nat) (vs : List Nat) (t : Tg) (fc : Option Ev) (fe : Ev) : Ev := fun r => match r[i]? with
  | some (some (.node .lst true ds)) => if i ∈ vs then .bad else (match lcO i ds.length t fc fe vs ds.length [] (wipeR r vs) with
    | .ok acc r2 => .ok (.val (.node .lst true acc)) (backR r r2 vs)
    | .bad => .bad)
  | _ => .bad
theorem wipeR_at {i : Nat} : ∀ {vs : List Nat} {r : Rho}, i ∉ vs → (wipeR r vs)[i]? = r[i]?
  | [], r, _ => rfl
  | v :: vs, r, h => by
    show ((wipeR r vs).set v none)[i]? = _
    rw [List.getElem?_set_ne (fun e => h (by rw [e]; exact List.mem_cons_self)), wipeR_at (fun m => h (List.mem_cons_of_mem _ m))]
section
variable {X : Cx} {G : GX} {C : Fc} {W : WX} {ow ow' : Ow} {r : Rho} {T T1 T2 : List (D × V)} {s : L2.St} {H H' : Hp} {fa fb fc : Ev} {f g : Sv} {fs : Av}
theorem lc_goO {i : Nat} {vs : List Nat} {t : Tg} {fc : Option Ev} {fe : Ev} {Q : VK} (hpin : ∀ p ∈ C.pin, p.1 ∉ vs) (ht : ∀ i ∈ t.slots, i ∈ vs) (h : tV G C W (cLcO i vs t fc fe) s H Q) :
    tLc (iList X.K fun s H Q => ∃ v, s[i]? = some (some v) ∧ Q v H) (fun v s H Q => ∃ a, tVG G (C.pinned i (.ref a)) t v s H Q) (fun s H Q => ∃ a, tVT G (C.pinned i (.ref a)) W0 (tstR fc) s H Q) (fun s H Q => ∃ a, tV G (C.pinned i (.ref a)) W0 (cSet fe) s H Q) vs s H Q := by
  obtain ⟨r, T, S, h⟩ := h
  have h : Goes G C W T s Q (cLcO i vs t fc fe r) := h
  unfold cLcO at h
  split at h
  case h_2 => exact h.elim
  rename_i ds0 q0
  split at h
  · exact h.elim
  rename_i hiv
  obtain ⟨ow, S⟩ := S
  obtain ⟨v, z1, a, ws, ev, z2, z3, z4⟩ := S.sl i _ q0
  subst ev
  refine ⟨.ref a, z1, a, rfl, ⟨ws, SqL.of z2⟩, fun da hD => ?_⟩
  have hpin' : ∀ p ∈ (C.pinned i (.ref a)).pin, p.1 ∉ vs := pinCo hpin hiv
  have pins : ∀ {r' : Rho} {T' : List (D × V)} {s' : L2.St} {H' : Hp}, StOk G (C.pinned i (.ref a)) r' T' s' H' → StOk G (C.pinned i (.ref a)) (wipeR r' vs) T' (wipe s' vs) H' := fun {r' T' s' H'} ⟨ow', S'⟩ => ⟨ow', S'.wipes hpin'⟩
  cases eL : lcO i ds0.length t fc fe vs ds0.length [] (wipeR r vs) with
  | bad => rw [eL] at h; exact h.elim
  | ok acc r2 =>
    simp only [eL] at h
    have S1 : StOk G (C.pinned i (.ref a)) r T s H := ⟨ow, S.pinned z1⟩
    have S2 : StOk G (C.pinned i (.ref a)) (wipeR r vs) (T ++ [(.node .lst true [], .ref da)]) (wipe s vs) (upd H da (.lst [])) :=
      pins (StOk.alloc (ds := []) (vs := []) true (by simpa using S1) rfl hD holds_lst (fun _ => trivial))
    refine ⟨fun j m H' => m = ds0.length - j ∧ j ≤ ds0.length ∧ ∃ ac r', StOk G (C.pinned i (.ref a)) (wipeR r' vs) (T ++ [(.node .lst true ac, .ref da)]) (wipe s vs) H' ∧ lcO i ds0.length t fc fe vs (ds0.length - j) ac (wipeR r' vs) = .ok acc r2,
      ⟨ds0.length, by simp, Nat.zero_le _, [], r, S2, by simpa using eL⟩, ?_⟩
    rintro j m H' ⟨rfl, hj, ac, r', ⟨ow', S'⟩, h'⟩
    have hp0 := S'.pin (i, .ref a) List.mem_cons_self
    by_cases hlt : j < ds0.length
    · obtain ⟨k, hk⟩ : ∃ k, ds0.length - j = k + 1 := ⟨ds0.length - j - 1, by omega⟩
      rw [hk] at h'
      unfold lcO at h'
      split at h'
      case h_2 => cases h'
      rename_i ds q
      split at h'
      case isFalse => cases h'
      rename_i hl
      have ej : ds0.length - (k + 1) = j := by omega
      rw [ej] at h'
      split at h'
      case h_2 => cases h'
      rename_i d hd'
      obtain ⟨ow2, a2, vs2, w1, hA, S3, q2, rx, _, _⟩ := S'.mine q
      rw [hp0] at w1
      cases w1
      have hdf : (frzs ds)[j]? = some (frz d) := by rw [frzs_map, List.getElem?_map, hd']; rfl
      obtain ⟨y, y1, y2⟩ := (rx ⟨.fo, []⟩).get j _ hdf
      have kk : ds0.length - (j + 1) = k := by omega
      refine .inr ⟨⟨vs2, y, SqL.of hA, y1⟩, fun H' => j + 1 ≤ ds0.length ∧ ∃ ac r', StOk G (C.pinned i (.ref a)) (wipeR r' vs) (T ++ [(.node .lst true ac, .ref da)]) (wipe s vs) H' ∧ lcO i ds0.length t fc fe vs (ds0.length - (j + 1)) ac (wipeR r' vs) = .ok acc r2,
        fun H2 n2 => ⟨ds0.length - (j + 1), by omega, rfl, n2.1, n2.2⟩, fun x H2 yl => ?_⟩
      obtain ⟨e1, e2⟩ := yl
      subst e1
      have ex := e2 vs2 (SqL.of hA)
      rw [y1] at ex
      cases ex
      refine ⟨a, _, _, frz d, ⟨ow2, S3.push (Rep.moveF _ (frz_frz d) (fun _ _ z q => ⟨z, q⟩) (fun _ _ z _ => z) y2)⟩, ?_⟩
      split at h'
      case h_1 => cases h'
      rename_i r3 et
      rw [et]
      intro s4 H4 S4 b4
      have hw : wipe s4 vs = wipe s vs := wipe_but b4 ht
      refine ⟨hw, a, _, _, S4, ?_⟩
      cases e2 : tstR fc r3 with
      | exc c r4 => simp only [e2] at h'; cases h'
      | bad => simp only [e2] at h'; cases h'
      | ok xb r4 =>
        simp only [e2] at h' ⊢
        cases xb with
        | loc _ => cases h'
        | val db =>
          cases db with
          | bl b =>
            cases b with
            | false =>
              intro H5 S5
              rw [if_neg Bool.false_ne_true]
              have S6 := pins S5
              rw [hw] at S6
              exact ⟨hlt, ac, r4, S6, by rw [kk]; exact h'⟩
            | true =>
              intro H5 S5
              rw [if_pos rfl]
              refine ⟨a, _, _, S5, ?_⟩
              simp only at h'
              cases e3 : cSet fe r4 with
              | exc c r5 => simp only [e3] at h'; cases h'
              | bad => simp only [e3] at h'; cases h'
              | ok xe r5 =>
                cases xe with
                | loc _ => simp only [e3] at h'; cases h'
                | val d =>
                  simp only [e3] at h'
                  split at h'
                  · rename_i hz
                    intro yv H6 P6
                    obtain ⟨ow8, S8⟩ := P6.1
                    have S8 : StW G (C.pinned i (.ref a)) ow8 r5 (T ++ [(.node .lst true ac, .ref da), (d, yv)]) s4 H6 := by simpa [List.append_assoc, pushR] using S8
                    obtain ⟨vs', q1, q2, S9⟩ := S8.appT
                    refine ⟨vs', q1, by rw [q2, sizeLine_eq]; exact hz, hlt, ac ++ [d], r5, ?_, by rw [kk]; exact h'⟩
                    have S11 := pins ⟨_, S9⟩
                    rw [hw] at S11
                    exact S11
                  · cases h'
          | _ => cases h'
    · have ej : j = ds0.length := by omega
      subst ej
      rw [Nat.sub_self] at h'
      unfold lcO at h'
      split at h'
      case h_2 => cases h'
      rename_i ds q
      split at h'
      case isFalse => cases h'
      rename_i hl
      injection h' with e1 e2
      subst e1
      subst e2
      obtain ⟨v2, w1, a2, vs2, ev2, w2, w3, w4⟩ := S'.sl i _ q
      rw [hp0] at w1
      cases w1
      cases ev2
      refine .inl ⟨⟨vs2, SqL.of w2, by rw [← w4.length]; omega⟩, ?_⟩
      exact h _ _ ⟨⟨ow', S.back S'.unpin⟩, trivial⟩
theorem ve_lcO {i : Nat} {x : Str} {p : Pos} {elt tg : Expr} {ifs : List Expr} {scope : Scope} {own : List (Str × Nat)} {pos : Pos} {t : Tg} {ft : Option Ev} {fe : Ev} (hc : X.calm = true) (hN : X.N.Nodup) (hn : X.N[i]? = some x) (hv : Vis X.env.scope x) (hd : (x == ("__debug__" : Str)) = false) (hcd : (x == ("__classdict__" : Str)) = false) (ok : BlkOk X.N X.env.scope scope own)
    (hpin : ∀ p ∈ C.pin, p.1 ∉ own.map (·.2)) (hts : ∀ i ∈ t.slots, i ∈ own.map (·.2))
    (hg : ∀ (s : Shared) (H : Hp) (ca : Addr) (cl : List (Str × Addr)) (fp : List Addr) (a : Addr), VG (X.blk s H scope (compEnvC scope cl ca X.env) fp) G (C.pinned i (.ref a)) tg t) (ht : ∀ (s : Shared) (H : Hp) (ca : Addr) (cl : List (Str × Addr)) (fp : List Addr) (a : Addr), VTs (X.blk s H scope (compEnvC scope cl ca X.env) fp) G (C.pinned i (.ref a)) W0 ifs ft)
    (he : ∀ (s : Shared) (H : Hp) (ca : Addr) (cl : List (Str × Addr)) (fp : List Addr) (a : Addr), VE (X.blk s H scope (compEnvC scope cl ca X.env) fp) G (C.pinned i (.ref a)) W0 elt fe) (hs : ∀ y, foldedSetIterable (.Name x p) X.env y = pure y := by intro _; rfl) :
    VE X G C W (.ListComp elt [⟨tg, .Name x p, ifs, 0⟩] scope pos) (cLcO i (own.map (·.2)) t ft fe) :=
  PE.imp (pe_lc hc hN (pi_list (pe_var hn hv hd hcd)) ok
    (fun s H ca cl fp => ⟨fun pins s σ H v u Q I rr w => by
      obtain ⟨a, w⟩ := w
      exact (hg _ _ _ _ _ a).run pins s σ H v u Q I rr w⟩)
    (fun s H ca cl fp => ⟨fun pins s σ H Q I w => by
      obtain ⟨a, w⟩ := w
      exact (ht _ _ _ _ _ a).run pins s σ H Q I w⟩)
    (fun s H ca cl fp => ⟨fun pins s σ H Q I w => by
      obtain ⟨a, w⟩ := w
      exact (ve_set (he _ _ _ _ _ a)).run pins s σ H Q I w⟩) hs) fun s H Q h => lc_goO hpin hts h
end
theorem lcO_cons {i n k : Nat} {t : Tg} {fc : Option Ev} {fe : Ev} {vs : List Nat} {acc ds : List D} {d e : D} {r r1 r2 r3 : Rho} (h : r[i]? = some (some (.node .lst true ds))) (hf : frzs ds = ds) (hn : ds.length = n) (hd : ds[n - (k + 1)]? = some d) (h1 : tgt t d r = some r1)
    (h2 : tstR fc r1 = .ok (.val (.bl true)) r2) (h3 : cSet fe r2 = .ok (.val e) r3) (hl : acc.length < 16777216) : lcO i n t fc fe vs (k + 1) acc r = lcO i n t fc fe vs k (acc ++ [e]) (wipeR r3 vs) := by
  have fd := frz_at hf hd
  show (match r[i]? with | some (some (.node .lst true ds)) => _ | _ => _) = _
  rw [h]
  show (if ds.length = n then (match ds[n - (k + 1)]? with | some d => (match tgt t (frz d) (r.set i (some (.node .lst true (frzs ds)))) with | none => LO.bad | some r1 => (match tstR fc r1 with | .ok (.val (.bl true)) r2 => (match cSet fe r2 with | .ok (.val e) r3 => if acc.length < 16777216 then lcO i n t fc fe vs k (acc ++ [e]) (wipeR r3 vs) else .bad | _ => .bad) | .ok (.val (.bl false)) r2 => lcO i n t fc fe vs k acc (wipeR r2 vs) | _ => .bad)) | none => .bad) else .bad) = _
  rw [if_pos hn, hd, hf]
  show (match tgt t (frz d) (r.set i (some (.node .lst true ds))) with | none => LO.bad | some r1 => (match tstR fc r1 with | .ok (.val (.bl true)) r2 => (match cSet fe r2 with | .ok (.val e) r3 => if acc.length < 16777216 then lcO i n t fc fe vs k (acc ++ [e]) (wipeR r3 vs) else .bad | _ => .bad) | .ok (.val (.bl false)) r2 => lcO i n t fc fe vs k acc (wipeR r2 vs) | _ => .bad)) = _
  rw [fd, set_same h, h1]
  show (match tstR fc r1 with | .ok (.val (.bl true)) r2 => (match cSet fe r2 with | .ok (.val e) r3 => if acc.length < 16777216 then lcO i n t fc fe vs k (acc ++ [e]) (wipeR r3 vs) else .bad | _ => .bad) | .ok (.val (.bl false)) r2 => lcO i n t fc fe vs k acc (wipeR r2 vs) | _ => LO.bad) = _
  rw [h2]
  show (match cSet fe r2 with | .ok (.val e) r3 => if acc.length < 16777216 then lcO i n t fc fe vs k (acc ++ [e]) (wipeR r3 vs) else .bad | _ => LO.bad) = _
  rw [h3]
  show (if acc.length < 16777216 then lcO i n t fc fe vs k (acc ++ [e]) (wipeR r3 vs) else .bad) = _
  rw [if_pos hl]
theorem lcO_skip {i n k : Nat} {t : Tg} {fc : Option Ev} {fe : Ev} {vs : List Nat} {acc ds : List D} {d : D} {r r1 r2 : Rho} (h : r[i]? = some (some (.node .lst true ds))) (hf : frzs ds = ds) (hn : ds.length = n) (hd : ds[n - (k + 1)]? = some d) (h1 : tgt t d r = some r1)
    (h2 : tstR fc r1 = .ok (.val (.bl false)) r2) : lcO i n t fc fe vs (k + 1) acc r = lcO i n t fc fe vs k acc (wipeR r2 vs) := by
  have fd := frz_at hf hd
  show (match r[i]? with | some (some (.node .lst true ds)) => _ | _ => _) = _
  rw [h]
  show (if ds.length = n then (match ds[n - (k + 1)]? with | some d => (match tgt t (frz d) (r.set i (some (.node .lst true (frzs ds)))) with | none => LO.bad | some r1 => (match tstR fc r1 with | .ok (.val (.bl true)) r2 => (match cSet fe r2 with | .ok (.val e) r3 => if acc.length < 16777216 then lcO i n t fc fe vs k (acc ++ [e]) (wipeR r3 vs) else .bad | _ => .bad) | .ok (.val (.bl false)) r2 => lcO i n t fc fe vs k acc (wipeR r2 vs) | _ => .bad)) | none => .bad) else .bad) = _
  rw [if_pos hn, hd, hf]
  show (match tgt t (frz d) (r.set i (some (.node .lst true ds))) with | none => LO.bad | some r1 => (match tstR fc r1 with | .ok (.val (.bl true)) r2 => (match cSet fe r2 with | .ok (.val e) r3 => if acc.length < 16777216 then lcO i n t fc fe vs k (acc ++ [e]) (wipeR r3 vs) else .bad | _ => .bad) | .ok (.val (.bl false)) r2 => lcO i n t fc fe vs k acc (wipeR r2 vs) | _ => .bad)) = _
  rw [fd, set_same h, h1]
  show (match tstR fc r1 with | .ok (.val (.bl true)) r2 => (match cSet fe r2 with | .ok (.val e) r3 => if acc.length < 16777216 then lcO i n t fc fe vs k (acc ++ [e]) (wipeR r3 vs) else .bad | _ => .bad) | .ok (.val (.bl false)) r2 => lcO i n t fc fe vs k acc (wipeR r2 vs) | _ => LO.bad) = _
  rw [h2]
theorem lcO_nil {i n : Nat} {t : Tg} {fc : Option Ev} {fe : Ev} {vs : List Nat} {acc ds : List D} {r : Rho} (h : r[i]? = some (some (.node .lst true ds))) (hn : ds.length = n) : lcO i n t fc fe vs 0 acc r = .ok acc r := by
  show (match r[i]? with | some (some (.node .lst true ds)) => _ | _ => _) = _
  rw [h]
  show (if ds.length = n then LO.ok acc r else .bad) = _
  rw [if_pos hn]
theorem lcO_map {i : Nat} {t : Tg} {fc : Option Ev} {fe : Ev} {vs : List Nat} {ds : List D} {r r0 : Rho} {p : D → Bool} {q : D → D} (hi : i ∉ vs) (h : r[i]? = some (some (.node .lst true ds))) (hf : frzs ds = ds) (h0 : wipeR r vs = r0) (hl : ds.length < 16777216)
    (hs : ∀ d ∈ ds, ∃ r1, tgt t d r0 = some r1 ∧ ∃ r2, tstR fc r1 = .ok (.val (.bl (p d))) r2 ∧ wipeR r2 vs = r0 ∧ (p d = true → ∃ r3, cSet fe r2 = .ok (.val (q d)) r3 ∧ wipeR r3 vs = r0)) : cLcO i vs t fc fe r = .ok (.val (.node .lst true ((ds.filter p).map q))) (backR r r0 vs) := by
  have hr0 : r0[i]? = some (some (.node .lst true ds)) := by rw [← h0, wipeR_at hi]; exact h
  have go : ∀ (k : Nat) (acc : List D), k ≤ ds.length → acc.length + k ≤ ds.length → lcO i ds.length t fc fe vs k acc r0 = .ok (acc ++ ((ds.drop (ds.length - k)).filter p).map q) r0 := by
    intro k
    induction k with
    | zero => intro acc _ _; rw [lcO_nil hr0 rfl]; simp
    | succ k ih =>
      intro acc hk ha
      have hlt : ds.length - (k + 1) < ds.length := by omega
      have hd : ds[ds.length - (k + 1)]? = some ds[ds.length - (k + 1)] := List.getElem?_eq_getElem hlt
      obtain ⟨r1, e1, r2, e2, e3, e4⟩ := hs _ (List.getElem_mem hlt)
      have en : ds.length - (k + 1) + 1 = ds.length - k := by omega
      rw [List.drop_eq_getElem_cons hlt, en]
      cases hp : p ds[ds.length - (k + 1)] with
      | true =>
        obtain ⟨r3, e5, e6⟩ := e4 hp
        rw [hp] at e2
        rw [lcO_cons hr0 hf rfl hd e1 e2 e5 (by omega), e6, ih _ (by omega) (by rw [List.length_append, List.length_singleton]; omega), List.filter_cons_of_pos (by rw [hp]), List.map_cons, List.append_assoc]
        rfl
      | false =>
        rw [hp] at e2
        rw [lcO_skip hr0 hf rfl hd e1 e2, e3, ih acc (by omega) (by omega), List.filter_cons_of_neg (by rw [hp]; decide)]
  have g := go ds.length [] (Nat.le_refl _) (by simp)
  rw [Nat.sub_self, List.drop_zero, List.nil_append] at g
  unfold cLcO
  rw [h]
  show (if i ∈ vs then EO.bad else (match lcO i ds.length t fc fe vs ds.length [] (wipeR r vs) with | .ok acc r2 => .ok (.val (.node .lst true acc)) (backR r r2 vs) | .bad => .bad)) = _
  rw [if_neg hi, h0, g]
theorem lcL_map {t : Tg} {fc : Option Ev} {fe : Ev} {vs : List Nat} {r0 : Rho} {p : D → Bool} {q : D → D} : ∀ (ds acc : List D), acc.length + ds.length < 16777216 →
    (∀ d ∈ ds, ∃ r1, tgt t d r0 = some r1 ∧ ∃ r2, tstR fc r1 = .ok (.val (.bl (p d))) r2 ∧ wipeR r2 vs = r0 ∧ (p d = true → ∃ r3, cSet fe r2 = .ok (.val (q d)) r3 ∧ wipeR r3 vs = r0)) → lcL t fc fe vs ds acc r0 = .ok (acc ++ (ds.filter p).map q) r0
  | [], acc, _, _ => by simp [lcL]
  | d :: ds, acc, hl, hs => by
    simp only [List.length_cons] at hl
    obtain ⟨r1, e1, r2, e2, e3, e4⟩ := hs d List.mem_cons_self
    unfold lcL
    rw [e1]
    show (match tstR fc r1 with | .ok (.val (.bl true)) r2 => (match cSet fe r2 with | .ok (.val e) r3 => if acc.length < 16777216 then lcL t fc fe vs ds (acc ++ [e]) (wipeR r3 vs) else .bad | _ => .bad) | .ok (.val (.bl false)) r2 => lcL t fc fe vs ds acc (wipeR r2 vs) | _ => LO.bad) = _
    rw [e2]
    cases hp : p d with
    | true =>
      obtain ⟨r3, e5, e6⟩ := e4 hp
      show (match cSet fe r2 with | .ok (.val e) r3 => if acc.length < 16777216 then lcL t fc fe vs ds (acc ++ [e]) (wipeR r3 vs) else .bad | _ => LO.bad) = _
      rw [e5]
      show (if acc.length < 16777216 then lcL t fc fe vs ds (acc ++ [q d]) (wipeR r3 vs) else LO.bad) = _
      rw [if_pos (by omega), e6, lcL_map ds (acc ++ [q d]) (by rw [List.length_append, List.length_singleton]; omega) (fun x hx => hs x (List.mem_cons_of_mem _ hx)), List.filter_cons_of_pos (by rw [hp]), List.map_cons, List.append_assoc]
      rfl
    | false =>
      show lcL t fc fe vs ds acc (wipeR r2 vs) = _
      rw [e3, lcL_map ds acc (by omega) (fun x hx => hs x (List.mem_cons_of_mem _ hx)), List.filter_cons_of_neg (by rw [hp]; decide)]
theorem lc_map {fi : Iv} {t : Tg} {fc : Option Ev} {fe : Ev} {vs : List Nat} {ds : List D} {r r1 r0 : Rho} {p : D → Bool} {q : D → D} (hi : fi r = .ok ds r1) (h0 : wipeR r1 vs = r0) (hl : ds.length < 16777216)
    (hs : ∀ d ∈ ds, ∃ r1, tgt t d r0 = some r1 ∧ ∃ r2, tstR fc r1 = .ok (.val (.bl (p d))) r2 ∧ wipeR r2 vs = r0 ∧ (p d = true → ∃ r3, cSet fe r2 = .ok (.val (q d)) r3 ∧ wipeR r3 vs = r0)) : cLc vs t fi fc fe r = .ok (.val (.node .lst true ((ds.filter p).map q))) (backR r1 r0 vs) := by
  rw [q_lc, hi]
  show (match lcL t fc fe vs ds [] (wipeR r1 vs) with | .ok acc r2 => EO.ok (.val (.node .lst true acc)) (backR r1 r2 vs) | .bad => .bad) = _
  rw [h0, lcL_map ds [] (by simpa using hl) hs]
  rfl
end VL
namespace VL
open PySem PySem.Spec PyProof.Rows L2
section
variable {X : Cx} {G : GX} {C : Fc} {W : WX} {ow ow' : Ow} {r : Rho} {T T1 T2 : List (D × V)} {s : L2.St} {H H' : Hp}
theorem vg_lst {es : List Expr} {is : List Nat} {k : Nat} {pos : Pos} (hc : X.calm = true) (h : VGs X G C es is)
    (hn : (assignEach es X.env).length = is.length := by rfl) (hst : (assignEach es X.env).findIdx? (·.1) = none := by rfl) : VG X G C (.Tuple es k pos) (.tl is) := by
  refine PG.imp (pg_unl hc h hn hst) fun v s H Q h => ?_
  obtain ⟨r, T, d, S, h⟩ := h
  obtain ⟨ow, S⟩ := S
  cases d with
  | node k o ds =>
    cases k with
    | lst =>
      obtain ⟨a, vs, ev, h1, h2, S'⟩ := S.spread
      by_cases hl : is.length = ds.length
      · have e : tgt (.tl is) (.node .lst o ds) r = some (setAll r is ds) := if_pos hl
        rw [e] at h
        exact ⟨a, vs, ev, SqL.of h1, by rw [← h2]; exact hl.symm, r, T, ds, h2, hl, ⟨_, S'⟩, h⟩
      · have e : tgt (.tl is) (.node .lst o ds) r = none := if_neg hl
        rw [e] at h
        exact h.elim
    | _ => exact h.elim
  | _ => exact h.elim
end
end VL
namespace VL
open PySem PySem.Spec PyProof.Rows L2
def cPar (is : List Nat) (fs : Av) : Sv := fun r => match fs r with
  | .ok xs r1 => (match valsR xs with
    | some ds => if is.length = ds.length then .nx (setAll r1 is ds) else .bad
    | none => .bad)
  | .exc c r1 => .exc c r1
  | .bad => .bad
section
variable {X : Cx} {G : GX} {C : Fc} {W : WX} {ow ow' : Ow} {r : Rho} {T T1 T2 : List (D × V)} {s : L2.St} {H H' : Hp} {fs : Av}
end
theorem par_ok {is : List Nat} {fs : Av} {r r1 : Rho} {xs : List R} {ds : List D} (h : fs r = .ok xs r1) (h2 : valsR xs = some ds) (hl : is.length = ds.length) : cPar is fs r = .nx (setAll r1 is ds) := by
  unfold cPar
  rw [h]
  show (match valsR xs with | some ds => if is.length = ds.length then SO.nx (setAll r1 is ds) else .bad | none => .bad) = _
  rw [h2]
  show (if is.length = ds.length then SO.nx (setAll r1 is ds) else .bad) = _
  rw [if_pos hl]
end VL

namespace VL
open PySem PySem.Spec PyProof.Rows L2
section
variable {X : Cx} {G : GX} {C : Fc} {W : WX} {ow ow' : Ow} {r : Rho} {T T1 T2 : List (D × V)} {s : L2.St} {H H' : Hp} {fa fb fc : Ev} {f g : Sv} {fs : Av}
end
end VL

namespace VL
open PySem PySem.Spec PyProof.Rows L2
section
variable {X : Cx} {G : GX} {C : Fc} {W : WX} {ow ow' : Ow} {r : Rho} {T T1 T2 : List (D × V)} {s : L2.St} {H H' : Hp}
end
end VL

namespace VL
open PySem PySem.Spec PyProof.Rows L2
def rel (φ : Loc → Option Loc) (ow : Ow) : Ow := fun a => (ow a).bind φ
section
variable {X : Cx} {G : GX} {C : Fc} {W : WX} {ow ow' : Ow} {r : Rho} {T T1 T2 : List (D × V)} {s : L2.St} {H H' : Hp} {fa fb fc : Ev} {f g : Sv} {φ : Loc → Option Loc}
theorem rel_none {a : Addr} (h : ow a = none) : rel φ ow a = none := by unfold rel; rw [h]; rfl
theorem rel_some {a : Addr} {l : Loc} (h : ow a = some l) : rel φ ow a = φ l := by unfold rel; rw [h]; rfl
theorem rel_of {a : Addr} {l : Loc} (h : rel φ ow a = some l) : ∃ l0, ow a = some l0 ∧ φ l0 = some l := by
  unfold rel at h
  cases e : ow a with
  | none => rw [e] at h; cases h
  | some l0 => rw [e] at h; exact ⟨l0, rfl, h⟩
theorem Rep.rel {d : D} {l l' : Loc} {v : V} (h : Rep G ow H d l v) (hφ : ∀ q, φ (l.app q) = some (l'.app q)) : Rep G (VL.rel φ ow) H d l' v :=
  h.mono d (fun _ _ z _ => z) (fun _ _ z _ => z) (fun _ _ _ z => rel_none z) fun a o q _ z => (rel_some z).trans (hφ q)
theorem OwnAt.rel {k : Kd} {o : Bool} {l l' : Loc} {a : Addr} (h : OwnAt k o l (ow a)) (hφ : φ l = some l') : OwnAt k o l' (VL.rel φ ow a) := by
  rcases h.cases with e | e
  · exact .ofR e
  · refine .mk ?_
    cases o with
    | true => rw [rel_some (l := l) (by simpa using e), hφ]; rfl
    | false => rw [rel_none (by simpa using e)]; rfl
theorem StW.reloc {r' : Rho} {T' : List (D × V)} (S : StW G C ow r T s H) (hl : r'.length = r.length) (hf : ∀ l, l.b = .fo → φ l = some l)
    (hsl : ∀ (i : Nat) (d : D), r'[i]? = some (some d) → ∃ v, s[i]? = some (some v) ∧ Rep G (VL.rel φ ow) H d ⟨.sl i, []⟩ v) (htm : ∀ (j : Nat) (d : D) (v : V), T'[j]? = some (d, v) → Rep G (VL.rel φ ow) H d ⟨.tm j, []⟩ v) : StW G C (VL.rel φ ow) r' T' s H where
  len := hl.trans S.len
  sl := hsl
  tm := htm
  old := S.old
  own := fun a l q => by
    obtain ⟨l0, e, q⟩ := rel_of q
    rcases S.own a l0 e with z | z
    · rw [hf l0 z] at q; cases q; exact .inl z
    · exact .inr z
  fo := fun a q => by rw [rel_some (S.fo a q)]; exact hf _ rfl
  mu := fun a l q => by obtain ⟨l0, e, _⟩ := rel_of q; exact S.mu a l0 e
  pin := S.pin
  tabs := S.tabs
def liftF (n i m : Nat) : Loc → Option Loc
  | ⟨.sl j, p⟩ => if j = i ∧ p.head? = some m then some ⟨.tm n, p.tail⟩ else some ⟨.sl j, p⟩
  | ⟨.tm j, p⟩ => if j < n then some ⟨.tm j, p⟩ else none
  | ⟨.fo, p⟩ => some ⟨.fo, p⟩
theorem liftF_fo {n i m : Nat} : ∀ l : Loc, l.b = .fo → liftF n i m l = some l := fun ⟨b, p⟩ h => by
  have h : b = .fo := h
  subst h; rfl
theorem liftF_tm {n i m j : Nat} {p : List Nat} (h : j < n) : liftF n i m ⟨.tm j, p⟩ = some ⟨.tm j, p⟩ := if_pos h
theorem liftF_sl {n i m j : Nat} {p : List Nat} (h : j ≠ i) : liftF n i m ⟨.sl j, p⟩ = some ⟨.sl j, p⟩ := if_neg fun z => h z.1
theorem liftF_in {n i m : Nat} {p : List Nat} (h : p.head? ≠ some m) : liftF n i m ⟨.sl i, p⟩ = some ⟨.sl i, p⟩ := if_neg fun z => h z.2
theorem liftF_at {n i m : Nat} {p : List Nat} : liftF n i m ⟨.sl i, m :: p⟩ = some ⟨.tm n, p⟩ := if_pos ⟨rfl, rfl⟩
theorem getT {p : D × V} {j : Nat} {d : D} {v : V} (q : (T ++ [p])[j]? = some (d, v)) : (j < T.length ∧ T[j]? = some (d, v)) ∨ (j = T.length ∧ p = (d, v)) := by
  by_cases hj : j < T.length
  · rw [List.getElem?_append_left hj] at q
    exact .inl ⟨hj, q⟩
  · rw [List.getElem?_append_right (by omega)] at q
    have e : j = T.length := by
      have := (List.getElem?_eq_some_iff.mp q).1
      simp at this; omega
    subst e
    simp at q
    exact .inr ⟨rfl, q⟩
theorem StW.lift {i m : Nat} {k : Kd} {o : Bool} {ds : List D} {d : D} (S : StW G C ow r T s H) (q : r[i]? = some (some (.node k o ds))) (hd : ds[m]? = some d) :
    ∃ a vs v, s[i]? = some (some (.ref a)) ∧ Holds G H a k vs ∧ OwnAt k o ⟨.sl i, []⟩ (ow a) ∧ vs.length = ds.length ∧ vs[m]? = some v ∧ Reps G ow H ds ⟨.sl i, []⟩ 0 vs ∧ StW G C (VL.rel (liftF T.length i m) ow) (r.set i (some (.node k o (ds.set m .any)))) (T ++ [(d, v)]) s H := by
  obtain ⟨v', z1, a, vs, ev, z2, z3, z4⟩ := S.sl i _ q
  subst ev
  obtain ⟨v, hv, hr⟩ := z4.get m d hd
  have hi : i < r.length := (List.getElem?_eq_some_iff.mp q).1
  refine ⟨a, vs, v, z1, z2, z3, z4.length.symm, hv, z4, S.reloc (by simp) liftF_fo (fun j d' y => ?_) fun j d' w y => ?_⟩
  · by_cases hj : j = i
    · subst hj
      rw [List.getElem?_set_self hi] at y
      cases y
      refine ⟨_, z1, a, vs, rfl, z2, z3.rel (liftF_in (by simp)), Reps.of_get (by simp [z4.length]) fun j' d' v' y1 y2 => ?_⟩
      by_cases hm : j' = m
      · subst hm
        rw [List.getElem?_set_self (List.getElem?_eq_some_iff.mp hd).1] at y1
        cases y1
        trivial
      · rw [List.getElem?_set_ne (Ne.symm hm)] at y1
        obtain ⟨v2, e1, e2⟩ := z4.get j' d' y1
        rw [y2] at e1
        cases e1
        refine e2.rel fun p => ?_
        simp only [Loc.sub, Loc.app]
        exact liftF_in (by simp; omega)
    · rw [List.getElem?_set_ne (Ne.symm hj)] at y
      obtain ⟨w, y1, y2⟩ := S.sl j d' y
      exact ⟨w, y1, y2.rel fun p => liftF_sl hj⟩
  · rcases getT y with ⟨hj, y⟩ | ⟨hj, y⟩
    · exact (S.tm j d' w y).rel fun p => liftF_tm hj
    · cases y
      subst hj
      refine hr.rel fun p => ?_
      simp only [Loc.sub, Loc.app, Nat.zero_add, List.nil_append, List.singleton_append]
      exact liftF_at
def pullF (n i : Nat) : Loc → Option Loc
  | ⟨.sl j, p⟩ => if j = i then some ⟨.tm n, p⟩ else some ⟨.sl j, p⟩
  | ⟨.tm j, p⟩ => if j < n then some ⟨.tm j, p⟩ else none
  | ⟨.fo, p⟩ => some ⟨.fo, p⟩
theorem StW.pull {i : Nat} {d : D} (S : StW G C ow r T s H) (q : r[i]? = some (some d)) : ∃ v, s[i]? = some (some v) ∧ StW G C (VL.rel (pullF T.length i) ow) (r.set i (some .any)) (T ++ [(d, v)]) s H := by
  obtain ⟨v, z1, z2⟩ := S.sl i _ q
  have hi : i < r.length := (List.getElem?_eq_some_iff.mp q).1
  refine ⟨v, z1, S.reloc (by simp) (fun ⟨b, p⟩ h => by have h : b = .fo := h; subst h; rfl) (fun j d' y => ?_) fun j d' w y => ?_⟩
  · by_cases hj : j = i
    · subst hj
      rw [List.getElem?_set_self hi] at y
      cases y
      exact ⟨v, z1, trivial⟩
    · rw [List.getElem?_set_ne (Ne.symm hj)] at y
      obtain ⟨w, y1, y2⟩ := S.sl j d' y
      exact ⟨w, y1, y2.rel fun p => if_neg hj⟩
  · rcases getT y with ⟨hj, y⟩ | ⟨hj, y⟩
    · exact (S.tm j d' w y).rel fun p => if_pos hj
    · cases y
      subst hj
      exact z2.rel fun p => if_pos rfl
def backF (n i m : Nat) : Loc → Option Loc
  | ⟨.sl j, p⟩ => if j = i ∧ p.head? = some m then none else some ⟨.sl j, p⟩
  | ⟨.tm j, p⟩ => if j = n then some ⟨.sl i, m :: p⟩ else if j < n then some ⟨.tm j, p⟩ else none
  | ⟨.fo, p⟩ => some ⟨.fo, p⟩
theorem StW.giveBack {i m : Nat} {k : Kd} {o : Bool} {ds : List D} {d : D} {v : V} {a : Addr} {vs : List V} (S : StW G C ow r (T ++ [(d, v)]) s H) (q : r[i]? = some (some (.node k o ds))) (ha : s[i]? = some (some (.ref a))) (hk : isR k ≠ true) (hh : Holds G H a k vs) (hv : vs[m]? = some v)
    (hu : ∀ us, Holds G H a k us → us = vs) : StW G C (VL.rel (backF T.length i m) ow) (r.set i (some (.node k o (ds.set m d)))) T s H := by
  obtain ⟨v', z1, a', vs', ev, z2, z3, z4⟩ := S.sl i _ q
  rw [ha] at z1
  cases z1
  cases ev
  have ee := hu _ z2
  subst ee
  have hi : i < r.length := (List.getElem?_eq_some_iff.mp q).1
  refine StW.reloc (StW.drop S) (by simp) (fun ⟨b, p⟩ h => by have h : b = .fo := h; subst h; rfl) (fun j d' y => ?_) fun j d' w y => ?_
  · by_cases hj : j = i
    · subst hj
      rw [List.getElem?_set_self hi] at y
      cases y
      refine ⟨_, ha, a, vs', rfl, z2, z3.rel (if_neg (by simp)), Reps.of_get (by simp [z4.length]) fun j' d' v' y1 y2 => ?_⟩
      by_cases hm : j' = m
      · subst hm
        have hlt : j' < ds.length := by
          have := (List.getElem?_eq_some_iff.mp y1).1
          simpa using this
        rw [List.getElem?_set_self hlt] at y1
        cases y1
        rw [hv] at y2
        cases y2
        refine (StW.last S).rel fun p => ?_
        simp only [Loc.sub, Loc.app, Nat.zero_add, List.nil_append, List.singleton_append]
        exact if_pos rfl
      · rw [List.getElem?_set_ne (Ne.symm hm)] at y1
        obtain ⟨v2, e1, e2⟩ := z4.get j' d' y1
        rw [y2] at e1
        cases e1
        refine e2.rel fun p => ?_
        simp only [Loc.sub, Loc.app]
        exact if_neg (by simp; omega)
    · rw [List.getElem?_set_ne (Ne.symm hj)] at y
      obtain ⟨w, y1, y2⟩ := S.sl j d' y
      exact ⟨w, y1, y2.rel fun p => if_neg fun z => hj z.1⟩
  · have hj : j < T.length := (List.getElem?_eq_some_iff.mp y).1
    refine ((StW.drop S).tm j d' w y).rel fun p => ?_
    show (if j = T.length then _ else if j < T.length then _ else _) = _
    rw [if_neg (by omega), if_pos hj]
    rfl
def Fc.bod (C : Fc) (H : Hp) (ow : Ow) (i j : Nat) (u v : V) : Fc := ⟨H, fun b => ∃ l, ow b = some l ∧ l.b ≠ .fo ∧ l.b ≠ .sl i, fun b => C.fo b ∨ ∃ p, ow b = some ⟨.sl i, p⟩, (j, v) :: (i, u) :: C.pin⟩
def lendF (i : Nat) : Loc → Option Loc := fun l => if l.b = .sl i then some ⟨.fo, []⟩ else some l
theorem StW.lend {i j : Nat} {u v : V} (S : StW G C ow r T s H) (hi : s[i]? = some (some u)) (hj : s[j]? = some (some v)) : StW G (C.bod H ow i j u v) (VL.rel (lendF i) ow) (r.set i (some .any)) T s H where
  len := by simpa using S.len
  sl := fun i' d q => by
    by_cases he : i' = i
    · subst he
      have hlt : i' < r.length := by
        have := (List.getElem?_eq_some_iff.mp q).1
        simpa using this
      rw [List.getElem?_set_self hlt] at q
      cases q
      exact ⟨u, hi, trivial⟩
    · rw [List.getElem?_set_ne (Ne.symm he)] at q
      obtain ⟨w, y1, y2⟩ := S.sl i' d q
      exact ⟨w, y1, y2.rel fun p => if_neg fun z => he (by injection z)⟩
  tm := fun n d w q => (S.tm n d w q).rel fun p => if_neg fun z => nomatch z
  old := fun a o _ z => .inl z
  own := fun b l q => by
    obtain ⟨l0, e, q⟩ := rel_of q
    unfold lendF at q
    split at q
    · cases q; exact .inl rfl
    · rename_i n
      cases q
      by_cases hf : l.b = .fo
      · exact .inl hf
      · exact .inr (.inr ⟨l, e, hf, n⟩)
  fo := fun b q => by
    rcases q with q | ⟨p, q⟩
    · rw [rel_some (S.fo b q)]; exact if_neg fun z => nomatch z
    · rw [rel_some q]; exact if_pos rfl
  mu := fun b l q => by obtain ⟨l0, e, _⟩ := rel_of q; exact S.mu b l0 e
  pin := fun p hp => by
    rcases List.mem_cons.mp hp with z | hp
    · rw [z]; exact hj
    rcases List.mem_cons.mp hp with z | hp
    · rw [z]; exact hi
    · exact S.pin p hp
  tabs := S.tabs
end
end VL

namespace VL
open PySem PySem.Spec PyProof.Rows L2
def fcQ (H : Hp) (ow0 : Ow) (q : Nat) (v0 : V) : Fc := ⟨H, fun a => ∃ p, ow0 a = some ⟨.sl q, p⟩, fun a => ow0 a = some ⟨.fo, []⟩, [(q, v0)]⟩
def spQ (G : GX) (q n : Nat) (F : D → List D → MO) : Sp := fun vs H Q E => ∃ (d0 : D) (ds : List D) (v0 : V) (us1 us2 : List V) (ow0 : Ow), vs = us1 ++ v0 :: us2 ∧ us1.length = q ∧ ds.length = n ∧ frzs ds = ds ∧ Rep G ow0 H d0 ⟨.sl q, []⟩ v0 ∧ Reps G ow0 H ds ⟨.fo, []⟩ 0 (us1 ++ us2) ∧
  (∀ a l, ow0 a = some l → OwnO (H a) ∧ (l.b = .sl q ∨ l = ⟨.fo, []⟩)) ∧ LamX.Tabs G.T H ∧ match F d0 ds with
  | .ok d d0' => ∀ v H' (ow1 : Ow) (b : Bs), (∀ a o, (∀ p, ow0 a ≠ some ⟨.sl q, p⟩) → H a = some o → Kt (H' a) o) → b ≠ .fo → b ≠ .sl q → Rep G ow1 H' d ⟨b, []⟩ v → Rep G ow1 H' d0' ⟨.sl q, []⟩ v0 →
      (∀ a l, ow1 a = some l → l.b ≠ .fo → H a = none ∨ ∃ p, ow0 a = some ⟨.sl q, p⟩) → (∀ a, ow0 a = some ⟨.fo, []⟩ → ow1 a = some ⟨.fo, []⟩) → (∀ a l, ow1 a = some l → OwnO (H' a)) → LamX.Tabs G.T H' → Q v H'
  | .bad => False
theorem spQ_len {G : GX} {q n : Nat} {F : D → List D → MO} {vs : List V} {H : Hp} {Q : VK} {E : XK} (h : spQ G q n F vs H Q E) : vs.length = n + 1 := by
  obtain ⟨d0, ds, v0, us1, us2, ow0, e, _, h1, _, _, h4, _⟩ := h
  have := h4.length
  rw [List.length_append] at this
  rw [e, List.length_append, List.length_cons]
  omega
def putQ (q : Nat) (d0 : D) (ds : List D) : List D := ds.take q ++ d0 :: ds.drop q
def runQ (q n : Nat) (f : Sv) (d0 : D) (ds : List D) : MO := match f (startR n (putQ q d0 ds)) with
  | .rt (.val d) r => (match r[q]? with
    | some (some d0') => .ok d d0'
    | _ => .bad)
  | .rt (.loc i) r => if i = q then .bad else (match opd r (.loc i), r[q]? with
    | some d, some (some d0') => .ok d d0'
    | _, _ => .bad)
  | .nx r => (match r[q]? with
    | some (some d0') => .ok .non d0'
    | _ => .bad)
  | _ => .bad
section
variable {G : GX} {H H' : Hp} {ow ow0 : Ow}
theorem startQ_ok {N : List Str} {d0 : D} {ds : List D} {v0 : V} {us1 us2 : List V} {q : Nat} (ht : LamX.Tabs G.T H) (hq : us1.length = q) (hm : ∀ a l, ow0 a = some l → OwnO (H a) ∧ (l.b = .sl q ∨ l = ⟨.fo, []⟩)) (e : frzs ds = ds) (h0 : Rep G ow0 H d0 ⟨.sl q, []⟩ v0) (h : Reps G ow0 H ds ⟨.fo, []⟩ 0 (us1 ++ us2)) : StW G (fcQ H ow0 q v0) ow0 (startR N.length (putQ q d0 ds)) [] (L2.start N (us1 ++ v0 :: us2)) H := by
  have hlen := h.length
  rw [List.length_append] at hlen
  have part : ∀ (i' : Nat) (i : Nat) (d : D), ds[i']? = some d → (us1 ++ v0 :: us2)[i]? = (us1 ++ us2)[i']? → ∃ v, (L2.start N (us1 ++ v0 :: us2))[i]? = some (some v) ∧ Rep G ow0 H d ⟨.sl i, []⟩ v := fun i' i d q2 ev => by
    obtain ⟨v, h1, h2⟩ := h.get i' d q2
    have f : frz d = d := by
      have := congrArg (·[i']?) e
      simp only [frzs_map, List.getElem?_map, q2, Option.map_some] at this
      exact Option.some.inj this
    exact ⟨v, start_get (by rw [ev]; exact h1), Rep.moveF d f (fun a o z q => ⟨z, q⟩) (fun _ _ z _ => z) h2⟩
  exact {
  len := by
    unfold startR L2.start putQ
    simp
    omega
  sl := fun i d y => by
    have y' := startR_get y
    unfold putQ at y'
    by_cases h1 : i < q
    · rw [List.getElem?_append_left (by rw [List.length_take]; omega), List.getElem?_take_of_lt h1] at y'
      exact part i i d y' (by rw [List.getElem?_append_left (by omega), List.getElem?_append_left (by omega)])
    · by_cases h2 : i = q
      · subst h2
        rw [List.getElem?_append_right (by rw [List.length_take]; omega), List.length_take, Nat.min_eq_left (by omega), Nat.sub_self] at y'
        simp at y'
        subst y'
        exact ⟨v0, start_get (by rw [List.getElem?_append_right (by omega), hq, Nat.sub_self]; rfl), h0⟩
      · obtain ⟨m, hm⟩ : ∃ m, i = q + 1 + m := ⟨i - q - 1, by omega⟩
        subst hm
        rw [List.getElem?_append_right (by rw [List.length_take]; omega), List.length_take, Nat.min_eq_left (by omega), show q + 1 + m - q = m + 1 by omega, List.getElem?_cons_succ, List.getElem?_drop] at y'
        refine part (q + m) (q + 1 + m) d y' ?_
        rw [List.getElem?_append_right (by omega), List.getElem?_append_right (by omega), hq, show q + 1 + m - q = m + 1 by omega, List.getElem?_cons_succ, show q + m - q = m by omega]
  tm := fun j d v q => by simp at q
  old := fun a o _ z => .inl z
  own := fun a l y => by
    obtain ⟨_, z | z⟩ := hm a l y
    · obtain ⟨lb, lp⟩ := l
      have z : lb = .sl q := z
      subst z
      exact .inr (.inr ⟨lp, y⟩)
    · subst z; exact .inl rfl
  fo := fun a y => y
  mu := fun a l y => (hm a l y).1
  pin := fun p hp => by
    have e : p = (q, v0) := by simpa [fcQ] using hp
    subst e
    exact start_get (by rw [List.getElem?_append_right (by omega), hq, Nat.sub_self]; rfl)
  tabs := ht }
end
section
variable {P : Program} {w : World} {K : PySem.W.Frag} {mg : Str → Option Value} {base : Heap} {G : GX}
end
section
variable {X : Cx} {G : GX} {C : Fc} {W : WX} {ow ow' : Ow} {r : Rho} {T T1 T2 : List (D × V)} {s : L2.St} {H H' : Hp} {fs : Av}
def homeF (n i : Nat) : Loc → Option Loc
  | ⟨.sl j, p⟩ => if j = i then none else some ⟨.sl j, p⟩
  | ⟨.tm j, p⟩ => if j = n then some ⟨.sl i, p⟩ else if j < n then some ⟨.tm j, p⟩ else none
  | ⟨.fo, p⟩ => some ⟨.fo, p⟩
theorem StW.home {i : Nat} {d : D} {v : V} (S : StW G C ow r (T ++ [(d, v)]) s H) (hv : s[i]? = some (some v)) : StW G C (VL.rel (homeF T.length i) ow) (r.set i (some d)) T s H := by
  refine StW.reloc (StW.drop S) (by simp) (fun ⟨b, p⟩ h => by have h : b = .fo := h; subst h; rfl) (fun j d' y => ?_) fun j d' w y => ?_
  · by_cases hj : j = i
    · subst hj
      have hlt : j < r.length := by
        have := (List.getElem?_eq_some_iff.mp y).1
        simpa using this
      rw [List.getElem?_set_self hlt] at y
      cases y
      exact ⟨v, hv, (StW.last S).rel fun p => if_pos rfl⟩
    · rw [List.getElem?_set_ne (Ne.symm hj)] at y
      obtain ⟨w, y1, y2⟩ := S.sl j d' y
      exact ⟨w, y1, y2.rel fun p => if_neg hj⟩
  · have hj : j < T.length := (List.getElem?_eq_some_iff.mp y).1
    refine ((StW.drop S).tm j d' w y).rel fun p => ?_
    show (if j = T.length then _ else if j < T.length then _ else _) = _
    rw [if_neg (by omega), if_pos hj]
    rfl
def lentT (ow : Ow) (m q : Nat) : Ow := fun a => match ow a with
  | some l => if l.b = .tm m then some ⟨.sl q, l.p⟩ else some ⟨.fo, []⟩
  | none => none
def paidT (ow ow1 : Ow) (m n q : Nat) : Ow := fun a => match ow1 a with
  | some l => if l.b = .fo then ow a else if l.b = .sl q then some ⟨.tm m, l.p⟩ else some ⟨.tm n, l.p⟩
  | none => none
theorem lentT_none {m q : Nat} {a : Addr} : lentT ow m q a = none ↔ ow a = none := by
  unfold lentT
  cases ow a with
  | none => simp
  | some l => by_cases h : l.b = .tm m <;> simp [h]
theorem lentT_tm {m q : Nat} {a : Addr} {p : List Nat} : lentT ow m q a = some ⟨.sl q, p⟩ ↔ ow a = some ⟨.tm m, p⟩ := by
  unfold lentT
  cases ow a with
  | none => simp
  | some l =>
    obtain ⟨lb, lp⟩ := l
    by_cases h : lb = .tm m <;> simp [h]
theorem lentT_fo {m q : Nat} {a : Addr} {l : Loc} (h : ow a = some l) (n : l.b ≠ .tm m) : lentT ow m q a = some ⟨.fo, []⟩ := by
  unfold lentT; rw [h]; simp [n]
theorem tempQ {q n : Nat} {F : D → List D → MO} {d0 : D} {v0 : V} {ds : List D} {us1 us2 : List V} {Q : VK} {E : XK} (S2 : StW G C ow r (T ++ [(d0, v0)]) s H) (hq : us1.length = q) (hn : ds.length = n) (hf : frzs ds = ds) (hr : Reps G ow H ds ⟨.fo, []⟩ 0 (us1 ++ us2))
    (h : match F d0 ds with
      | .ok d d0' => ∀ v H', StOk G C r (T ++ [(d0', v0)] ++ [(d, v)]) s H' → (∀ a o, H a = some o → (∀ p, ow a ≠ some ⟨.tm T.length, p⟩) → Kt (H' a) o) → Q v H'
      | .bad => False) : spQ G q n F (us1 ++ v0 :: us2) H Q E := by
  have z2 : Rep G ow H d0 ⟨.tm T.length, []⟩ v0 := S2.last
  refine ⟨d0, ds, v0, us1, us2, lentT ow T.length q, rfl, hq, hn, hf, ?_, ?_, ?_, S2.tabs, ?_⟩
  · refine Rep.mono (l := ⟨.tm T.length, []⟩) d0 (fun _ _ z _ => z) (fun _ _ z _ => z) (fun a o _ n => lentT_none.mpr n) (fun a o p _ n => ?_) z2
    exact lentT_tm.mpr n
  · exact Reps.moveF _ hf (fun a o z n => ⟨z, lentT_none.mpr n⟩) (fun _ _ z _ => z) hr
  · intro a m y
    unfold lentT at y
    cases x : ow a with
    | none => rw [x] at y; cases y
    | some m' =>
      rw [x] at y
      refine ⟨S2.mu a m' x, ?_⟩
      simp only at y
      split at y
      · cases y; exact .inl rfl
      · cases y; exact .inr rfl
  · cases e3 : F d0 ds with
    | bad => simp only [e3] at h
    | ok d d0' =>
      simp only [e3] at h
      intro v H' ow1 b k1 b1 b2 hr h0 k2 k3 k4 k5
      have kept : ∀ a o, H a = some o → (∀ p, ow a ≠ some ⟨.tm T.length, p⟩) → Kt (H' a) o := fun a o q n => k1 a o (fun p z => n p (lentT_tm.mp z)) q
      refine h v H' ⟨paidT ow ow1 T.length (T.length + 1) q, ?_⟩ kept
      have exn : ∀ a o, H a = some o → ¬ OwnO (some o) → Kt (H' a) o := fun a o q n => kept a _ q fun p z => by
        have m := S2.mu a _ z
        rw [q] at m
        exact n m
      have none_ : ∀ a o, H a = some o → ow a = none → paidT ow ow1 T.length (T.length + 1) q a = none := fun a o q n => by
        unfold paidT
        cases y : ow1 a with
        | none => rfl
        | some m =>
          by_cases hf : m.b = .fo
          · simp only [hf, if_true]; exact n
          · rcases k2 a m y hf with z | ⟨p, z⟩
            · rw [z] at q; cases q
            · rw [lentT_tm.mp z] at n; cases n
      have same_ : ∀ a m, ow a = some m → m.b ≠ .tm T.length → paidT ow ow1 T.length (T.length + 1) q a = some m := fun a m q n => by
        unfold paidT
        rw [k3 a (lentT_fo q n)]
        simp [q]
      have hpush : StW G C (paidT ow ow1 T.length (T.length + 1) q) r (T ++ [(d0', v0)]) s H' := by
        refine ⟨S2.len, fun i' d' y => ?_, fun j' d' w y => ?_, fun a o n y => ?_, fun a m y => ?_, fun a y => ?_, fun a m y => ?_, S2.pin, k5⟩
        · obtain ⟨w, y1, y2⟩ := S2.sl i' d' y
          refine ⟨w, y1, Rep.mono (l := ⟨.sl i', []⟩) d' (fun a o z u => kept a o z fun p z2 => ?_) (fun a o z n => exn a o z n) (fun a o z n => none_ a o z n) (fun a o p _ n => ?_) y2⟩
          · rcases u with u | ⟨p', u⟩
            · rw [u] at z2; cases z2
            · rw [u] at z2
              have z2 := Option.some.inj z2
              unfold Loc.app at z2
              injection z2 with z3 _
              cases z3
          · exact same_ a _ n (fun z => nomatch z)
        · rcases getT y with ⟨hj, y⟩ | ⟨hj, y⟩
          · have z := (StW.drop S2).tm j' d' w y
            refine Rep.mono (l := ⟨.tm j', []⟩) d' (fun a o z u => kept a o z fun p z2 => ?_) (fun a o z n => exn a o z n) (fun a o z n => none_ a o z n) (fun a o p _ n => ?_) z
            · rcases u with u | ⟨p', u⟩
              · rw [u] at z2; cases z2
              · rw [u] at z2
                have z2 := Option.some.inj z2
                unfold Loc.app at z2
                injection z2 with z3 _
                injection z3 with z3
                omega
            · exact same_ a _ n (fun z => by unfold Loc.app at z; injection z with z; omega)
          · cases y
            subst hj
            refine Rep.mono (l := ⟨.sl q, []⟩) d0' (fun _ _ z _ => z) (fun _ _ z _ => z) (fun a o _ n => by unfold paidT; rw [n]) (fun a o p _ n => ?_) h0
            have n' : ow1 a = some ⟨.sl q, [] ++ p⟩ := n
            unfold paidT
            rw [n']
            simp [Loc.app]
        · refine (S2.old a o n y).bind fun u0 y0 => kept a u0 y0 fun p z => ?_
          rcases S2.own a _ z with z2 | z2 | z2
          · cases z2
          · rw [z2] at y; cases y
          · exact n z2
        · unfold paidT at y
          cases y1 : ow1 a with
          | none => rw [y1] at y; cases y
          | some m' =>
            rw [y1] at y
            by_cases hf : m'.b = .fo
            · simp only [hf, if_true] at y
              exact S2.own a m y
            · refine .inr ?_
              rcases k2 a m' y1 hf with z | ⟨p, z⟩
              · cases e : C.H0 a with
                | none => exact .inl rfl
                | some u =>
                  by_cases hi : C.io a
                  · exact .inr hi
                  · exact ((S2.old a u hi e).on z).elim
              · rcases S2.own a _ (lentT_tm.mp z) with z2 | z2
                · cases z2
                · exact z2
        · exact same_ a _ (S2.fo a y) (fun z => nomatch z)
        · unfold paidT at y
          cases y1 : ow1 a with
          | none => rw [y1] at y; cases y
          | some m' => exact k4 a m' y1
      refine hpush.push (Rep.mono (l := ⟨b, []⟩) d (fun _ _ z _ => z) (fun _ _ z _ => z) (fun a o _ n => by unfold paidT; rw [n]) (fun a o p _ n => ?_) hr)
      have n' : ow1 a = some ⟨b, [] ++ p⟩ := n
      unfold paidT
      rw [n']
      simp [Loc.app, b1, b2]
theorem locs_split : ∀ {xs1 : List R} {x0 : R} {xs2 : List R} {vs : List V}, LocsOk s (xs1 ++ x0 :: xs2) vs → ∃ us1 v0 us2, vs = us1 ++ v0 :: us2 ∧ us1.length = xs1.length ∧ us2.length = xs2.length ∧ LocsOk s (xs1 ++ xs2) (us1 ++ us2) ∧ LocsOk s (xs2 ++ xs1) (us2 ++ us1) ∧ LocOk s v0 x0 ∧ pushs (xs1 ++ x0 :: xs2) vs = pushs xs1 us1 ++ (pushR x0 v0 ++ pushs xs2 us2) ∧ pushs (xs1 ++ xs2) (us1 ++ us2) = pushs xs1 us1 ++ pushs xs2 us2 ∧ pushs (xs2 ++ xs1) (us2 ++ us1) = pushs xs2 us2 ++ pushs xs1 us1 := by
  have app : ∀ {xs ys : List R} {us ws : List V}, xs.length = us.length → LocsOk s xs us → LocsOk s ys ws → LocsOk s (xs ++ ys) (us ++ ws) ∧ pushs (xs ++ ys) (us ++ ws) = pushs xs us ++ pushs ys ws := by
    intro xs
    induction xs with
    | nil =>
      intro ys us ws hl _ h2
      have : us = [] := by simpa using hl.symm
      subst this
      exact ⟨h2, rfl⟩
    | cons x xs ih =>
      intro ys us ws hl h1 h2
      cases us with
      | nil => simp at hl
      | cons u us =>
        obtain ⟨a, b⟩ := ih (by simpa using hl) h1.2 h2
        refine ⟨⟨h1.1, a⟩, ?_⟩
        show pushR x u ++ pushs (xs ++ ys) (us ++ ws) = (pushR x u ++ pushs xs us) ++ pushs ys ws
        rw [b, List.append_assoc]
  have spl : ∀ {xs1 : List R} {x0 : R} {xs2 : List R} {vs : List V}, LocsOk s (xs1 ++ x0 :: xs2) vs → ∃ us1 v0 us2, vs = us1 ++ v0 :: us2 ∧ us1.length = xs1.length ∧ us2.length = xs2.length ∧ LocsOk s xs1 us1 ∧ LocsOk s xs2 us2 ∧ LocOk s v0 x0 ∧ pushs (xs1 ++ x0 :: xs2) vs = pushs xs1 us1 ++ (pushR x0 v0 ++ pushs xs2 us2) := by
    intro xs1
    induction xs1 with
    | nil =>
      intro x0 xs2 vs h
      cases vs with
      | nil => exact h.elim
      | cons v vs => exact ⟨[], v, vs, rfl, rfl, h.2.length.symm, trivial, h.2, h.1, rfl⟩
    | cons x xs ih =>
      intro x0 xs2 vs h
      cases vs with
      | nil => exact h.elim
      | cons v vs =>
        obtain ⟨us1, v0, us2, e, l1, l2, h1, h2, h3, h4⟩ := ih h.2
        refine ⟨v :: us1, v0, us2, by rw [e]; rfl, by simp [l1], l2, ⟨h.1, h1⟩, h2, h3, ?_⟩
        show pushR x v ++ pushs (xs ++ x0 :: xs2) vs = (pushR x v ++ pushs xs us1) ++ _
        rw [h4, List.append_assoc]
  intro xs1 x0 xs2 vs h
  obtain ⟨us1, v0, us2, e, l1, l2, h1, h2, h3, h4⟩ := spl h
  obtain ⟨a1, b1⟩ := app l1.symm h1 h2
  obtain ⟨a2, b2⟩ := app l2.symm h2 h1
  exact ⟨us1, v0, us2, e, l1, l2, a1, a2, h3, h4, b1, b2⟩
theorem valsR_app : ∀ {xs ys : List R} {ds es : List D}, valsR xs = some ds → valsR ys = some es → valsR (xs ++ ys) = some (ds ++ es)
  | [], ys, ds, es, h1, h2 => by cases h1; exact h2
  | .loc _ :: _, _, _, _, h1, _ => by cases h1
  | .val d :: xs, ys, ds, es, h1, h2 => by
    unfold valsR at h1
    cases e : valsR xs with
    | none => rw [e] at h1; cases h1
    | some ds' =>
      rw [e] at h1
      cases h1
      show (match valsR (xs ++ ys) with | some ds => some (d :: ds) | none => none) = _
      rw [valsR_app e h2]; rfl
def callKQ (q n : Nat) (F : D → List D → MO) (xs : List R) (r : Rho) : EO := if xs.length = n + 1 then (match xs.drop q with
  | .loc i :: rest => (match valsR (xs.take q), valsR rest, r[i]? with
    | some ds1, some ds2, some (some d0) => (match F d0 (frzs (ds1 ++ ds2)) with
      | .ok d d0' => .ok (.val d) (r.set i (some d0'))
      | .bad => .bad)
    | _, _, _ => .bad)
  | .val d0 :: rest => (match valsR (xs.take q), valsR rest with
    | some ds1, some ds2 => (match F d0 (frzs (ds1 ++ ds2)) with
      | .ok d _ => .ok (.val d) r
      | .bad => .bad)
    | _, _ => .bad)
  | [] => .bad) else .bad
def cCallQ (q n : Nat) (F : D → List D → MO) (fs : Av) : Ev := fun r => (fs r).bd (callKQ q n F)
theorem callQ_go {q n : Nat} {F : D → List D → MO} {Q : VK} {xs : List R} {vs : List V} {E : XK} (hqn : q ≤ n) (S : StOk G C r (T ++ pushs xs vs) s H) (l : LocsOk s xs vs) (h : Goes G C W T s Q (callKQ q n F xs r)) : spQ G q n F vs H Q E := by
  unfold callKQ at h
  split at h
  · rename_i hlen
    obtain ⟨x0, rest, hd⟩ : ∃ x0 rest, xs.drop q = x0 :: rest := by
      cases e : xs.drop q with
      | nil => have := congrArg List.length e; rw [List.length_drop] at this; simp at this; omega
      | cons x y => exact ⟨x, y, rfl⟩
    have hx : xs = xs.take q ++ x0 :: rest := by rw [← hd, List.take_append_drop]
    rw [hd] at h
    have htl : (xs.take q).length = q := by rw [List.length_take]; omega
    generalize hxs : xs.take q = xs1 at h hx htl
    subst hx
    obtain ⟨us1, v0, us2, ev, l1, l2, a1, a2, l0, e1, e2, e3⟩ := locs_split l
    rw [e1] at S
    subst ev
    have hrest : rest.length + q = n := by rw [List.length_append, List.length_cons] at hlen; omega
    cases x0 with
    | loc i =>
      simp only at h
      cases y1 : valsR xs1 with
      | none => simp only [y1] at h; exact h.elim
      | some ds1 =>
        cases y2 : valsR rest with
        | none => simp only [y1, y2] at h; exact h.elim
        | some ds2 =>
          cases y3 : r[i]? with
          | none => simp only [y1, y2, y3] at h; exact h.elim
          | some o =>
            cases o with
            | none => simp only [y1, y2, y3] at h; exact h.elim
            | some d0 =>
              simp only [y1, y2, y3] at h
              obtain ⟨ow, S⟩ := S
              have y12 := valsR_app y1 y2
              obtain ⟨g1, g2, g3⟩ := valsR_frz (r := r) y12
              obtain ⟨ow2, S2, r1, r2, r3⟩ := StW.settles (T := T) (xs := xs1 ++ rest) (vs := us1 ++ us2) (show StW G C ow r (T ++ pushs (xs1 ++ rest) (us1 ++ us2)) s H by rw [e2]; exact S) a1 g1
              rw [g2] at S2
              obtain ⟨v', z1, S3⟩ := S2.pull y3
              have l0 : s[i]? = some (some v0) := l0
              rw [l0] at z1
              cases z1
              refine tempQ (ds := frzs (ds1 ++ ds2)) S3 (by omega) (by rw [frzs_length, g3, List.length_append]; omega) (frzs_frzs _) (Reps.moveF _ (frzs_frzs _) (fun a o z n => ⟨z, rel_none n⟩) (fun _ _ z _ => z) (r1 ⟨.fo, []⟩ 0)) ?_
              cases y4 : F d0 (frzs (ds1 ++ ds2)) with
              | bad => simp only [y4] at h; exact h.elim
              | ok d d0' =>
                simp only [y4] at h
                intro v H' S4 _
                refine h v H' ⟨?_, trivial⟩
                have S5 : StOk G C (r.set i (some .any)) (T ++ ([(d0', v0)] ++ [(d, v)])) s H' := by simpa using S4
                have S6 := S5.swap
                obtain ⟨ow6, S6⟩ := S6
                have S7 : StW G C ow6 (r.set i (some .any)) ((T ++ [(d, v)]) ++ [(d0', v0)]) s H' := by simpa using S6
                have S8 := S7.home l0
                rw [List.set_set] at S8
                exact ⟨_, S8⟩
    | val d0 =>
      simp only at h
      cases y1 : valsR xs1 with
      | none => simp only [y1] at h; exact h.elim
      | some ds1 =>
        cases y2 : valsR rest with
        | none => simp only [y1, y2] at h; exact h.elim
        | some ds2 =>
          simp only [y1, y2] at h
          have S1 : StOk G C r ((T ++ [(d0, v0)]) ++ pushs (rest ++ xs1) (us2 ++ us1)) s H := by
            rw [e3]
            have z := StOk.swap (T := T) (A := pushs xs1 us1) (B := [(d0, v0)] ++ pushs rest us2) S
            simpa using z
          obtain ⟨ow, S1⟩ := S1
          have y21 := valsR_app y2 y1
          obtain ⟨g1, g2, g3⟩ := valsR_frz (r := r) y21
          have k1 := (valsR_frz (r := r) y1).2.2
          have k2 := (valsR_frz (r := r) y2).2.2
          obtain ⟨ow2, S2, r1, r2, r3⟩ := StW.settles S1 a2 g1
          rw [g2] at S2
          refine tempQ (ds := frzs (ds1 ++ ds2)) S2 (by omega) (by rw [frzs_length, List.length_append]; omega) (frzs_frzs _) ?_ ?_
          · have r1 := r1 ⟨.fo, []⟩ 0
            refine Reps.of_get (by rw [frzs_length, List.length_append, List.length_append]; omega) fun j d v x1 x2 => ?_
            have fd : frz d = d := by
              rw [frzs_map, List.getElem?_map] at x1
              cases z : (ds1 ++ ds2)[j]? with
              | none => rw [z] at x1; cases x1
              | some d1 => rw [z] at x1; cases x1; exact frz_frz d1
            have main : ∀ j', (frzs (ds2 ++ ds1))[j']? = some d → (us2 ++ us1)[j']? = some v → Rep G ow2 H d (Loc.sub ⟨.fo, []⟩ (0 + j)) v := fun j' w1 w2 => by
              obtain ⟨v', w3, w4⟩ := r1.get j' d w1
              rw [w2] at w3
              cases w3
              exact Rep.moveF d fd (fun a o z n => ⟨z, n⟩) (fun _ _ z _ => z) w4
            rw [frzs_map, List.map_append] at x1
            by_cases hj : j < ds1.length
            · rw [List.getElem?_append_left (by simpa using hj)] at x1
              rw [List.getElem?_append_left (by omega)] at x2
              refine main (ds2.length + j) ?_ ?_
              · rw [frzs_map, List.map_append, List.getElem?_append_right (by simp), List.length_map, Nat.add_sub_cancel_left]
                exact x1
              · rw [List.getElem?_append_right (by omega), show ds2.length + j - us2.length = j by omega]
                exact x2
            · rw [List.getElem?_append_right (by simpa using hj), List.length_map] at x1
              rw [List.getElem?_append_right (by omega)] at x2
              refine main (j - ds1.length) ?_ ?_
              · rw [frzs_map, List.map_append, List.getElem?_append_left (by
                  have := (List.getElem?_eq_some_iff.mp x1).1
                  exact this)]
                exact x1
              · rw [List.getElem?_append_left (by
                  have := (List.getElem?_eq_some_iff.mp x1).1
                  simp at this; omega), show j - ds1.length = j - us1.length by omega]
                exact x2
          · cases y4 : F d0 (frzs (ds1 ++ ds2)) with
            | bad => simp only [y4] at h; exact h.elim
            | ok d d0' =>
              simp only [y4] at h
              intro v H' S4 _
              exact h v H' (Post.slide (T2 := [(d0', v0)]) (x := .val d) ⟨S4, trivial⟩)
  · exact h.elim
theorem ve_callQ {q n k : Nat} {F : D → List D → MO} {f : Addr} {fd : FuncData} {ps : List Str} {x : Str} {p pos : Pos} {e : Expr} {es : List Expr} (tk : Takes X W) (Fk : FnOk X.prog X.w X.K X.mg X.base (L2.CX X.prog X.w) k f fd ps (spQ G q n F)) (hqn : q ≤ n) (hr : Room k X.A) (hg : Gl X x) (hm : X.mg x = some (.ref f))
    (hk : PySem.W.keepIn X.K (.ref f) = true) (hb : Binds X.K fd ps []) (ha : VA X G C W (e :: es) fs) (hdb : (x == ("__debug__" : Str)) = false := by decide) (he : starEach (e :: es) X.env = (false, eval e X.env) :: starEach es X.env := by rfl) (hpl : (backTo pos (starEach es X.env)).any (·.1) = false := by rfl) :
    VE X G C W (.Call (.Name x p) (e :: es) [] pos) (cCallQ q n F fs) := by
  refine PE.imp (pe_callS Fk hr hg hm hk hb (fun σ => passAt tk σ) ha hdb he hpl) fun s H Q h => ?_
  obtain ⟨r, T, S, g⟩ := h
  exact many (T2 := []) (by simpa using S) g fun xs vs r1 H1 S1 l1 g1 => callQ_go hqn (by simpa using S1) l1 g1
end
end VL

namespace VL
open PySem PySem.Spec PyProof.Rows L2
section
variable {X : Cx} {G : GX} {C : Fc} {W : WX} {ow ow' : Ow} {r : Rho} {T T1 T2 : List (D × V)} {s : L2.St} {H H' : Hp} {fa fb fc fk : Ev} {fs : Av} {f g : Sv}
def unl0 (ow ow3 : Ow) (i : Nat) : Ow := fun b => match ow3 b with
  | none => none
  | some ⟨.fo, _⟩ => (match ow b with
    | some ⟨.fo, p⟩ => some ⟨.fo, p⟩
    | some ⟨.sl i', p⟩ => if i' = i then some ⟨.sl i, p⟩ else none
    | _ => none)
  | some ⟨.sl j', p⟩ => if j' = i then none else some ⟨.sl j', p⟩
  | some ⟨.tm n, p⟩ => some ⟨.tm n, p⟩
theorem unl0_none {ow3 : Ow} {i : Nat} {b : Addr} (h : ow3 b = none) : unl0 ow ow3 i b = none := by unfold unl0; rw [h]
theorem unl0_tm {ow3 : Ow} {i n : Nat} {p : List Nat} {b : Addr} (h : ow3 b = some ⟨.tm n, p⟩) : unl0 ow ow3 i b = some ⟨.tm n, p⟩ := by unfold unl0; rw [h]
theorem unl0_sl {ow3 : Ow} {i n : Nat} {p : List Nat} {b : Addr} (h : ow3 b = some ⟨.sl n, p⟩) (h1 : n ≠ i) : unl0 ow ow3 i b = some ⟨.sl n, p⟩ := by
  unfold unl0; rw [h]
  show (if n = i then none else some (Loc.mk (.sl n) p)) = _
  rw [if_neg h1]
theorem unl0_i {ow3 : Ow} {i : Nat} {p q : List Nat} {b : Addr} (h : ow3 b = some ⟨.fo, q⟩) (h1 : ow b = some ⟨.sl i, p⟩) : unl0 ow ow3 i b = some ⟨.sl i, p⟩ := by
  unfold unl0; rw [h, h1]
  show (if i = i then some (Loc.mk (.sl i) p) else none) = _
  rw [if_pos rfl]
theorem unl0_of {ow3 : Ow} {i : Nat} {b : Addr} {l : Loc} (h : unl0 ow ow3 i b = some l) : (∃ l3, ow3 b = some l3) ∧ ((∃ l0, ow b = some l0 ∧ (l.b = .fo ∨ l0.b ≠ .fo)) ∨ ∃ l3, ow3 b = some l3 ∧ l3.b ≠ .fo) := by
  unfold unl0 at h
  cases e : ow3 b with
  | none => rw [e] at h; cases h
  | some l3 =>
    refine ⟨⟨l3, rfl⟩, ?_⟩
    rw [e] at h
    obtain ⟨b3, p3⟩ := l3
    cases b3 with
    | fo =>
      cases e2 : ow b with
      | none => rw [e2] at h; cases h
      | some l0 =>
        rw [e2] at h
        obtain ⟨b0, p0⟩ := l0
        refine .inl ⟨_, rfl, ?_⟩
        cases b0 with
        | fo => cases h; exact .inl rfl
        | sl n => exact .inr fun z => nomatch z
        | tm n => exact .inr fun z => nomatch z
    | sl n => exact .inr ⟨_, rfl, fun z => nomatch z⟩
    | tm n => exact .inr ⟨_, rfl, fun z => nomatch z⟩
theorem StW.unlend0 {i : Nat} {k : Kd} {o : Bool} {ds : List D} {a : Addr} {vs : List V} {ow3 : Ow} {r3 : Rho} {T3 : List (D × V)} {s3 : L2.St} {H3 : Hp} (S : StW G C ow r T s H) (q : r[i]? = some (some (.node k o ds))) (hk : isR k ≠ true) (ha : s[i]? = some (some (.ref a)))
    (hH : Holds G H a k vs) (hu : ∀ us, Holds G H a k us → us = vs) (S3 : StW G (C.bod H ow i i (.ref a) (.ref a)) ow3 r3 T3 s3 H3) :
    StW G C (unl0 ow ow3 i) (r3.set i (some (.node k o ds))) T3 s3 H3 ∧ Holds G H3 a k vs ∧ s3[i]? = some (some (.ref a)) := by
  obtain ⟨w, z1, a', vs', ev, z2, z3, z4⟩ := S.sl i _ q
  rw [ha] at z1
  cases z1
  cases ev
  have ee := hu _ z2
  subst ee
  have oa : ow a = if o = true then some ⟨.sl i, []⟩ else none := z3.cases.resolve_left hk
  have keep : ∀ b o, H b = some o → ¬ (C.bod H ow i i (.ref a) (.ref a)).io b → Kt (H3 b) o := fun b o e n => S3.old b o n e
  have nset : ∀ b p, ow b = some ⟨.sl i, p⟩ → ¬ (C.bod H ow i i (.ref a) (.ref a)).io b := fun b p e n => by
    obtain ⟨l, e2, _, n2⟩ := n
    rw [e] at e2
    cases e2
    exact n2 rfl
  have nnone : ∀ b, ow b = none → ¬ (C.bod H ow i i (.ref a) (.ref a)).io b := fun b e n => by
    obtain ⟨l, e2, _, _⟩ := n
    rw [e] at e2; cases e2
  have fo3 : ∀ b p, ow b = some ⟨.sl i, p⟩ → ow3 b = some ⟨.fo, []⟩ := fun b p e => S3.fo b (.inr ⟨p, e⟩)
  have nown : ∀ b o, H b = some o → ow b = none → unl0 ow ow3 i b = none := fun b o e n => by
    cases e3 : ow3 b with
    | none => exact unl0_none e3
    | some l3 =>
      obtain ⟨b3, p3⟩ := l3
      rcases S3.own b _ e3 with z | z | z
      · have z : b3 = .fo := z
        subst z
        unfold unl0
        rw [e3, n]
      · have z : H b = none := z
        rw [z] at e; cases e
      · exact absurd z (nnone b n)
  have p3i : s3[i]? = some (some (.ref a)) := S3.pin (i, .ref a) (List.mem_cons_of_mem _ List.mem_cons_self)
  have na : ¬ (C.bod H ow i i (.ref a) (.ref a)).io a := by
    cases o with
    | true => exact nset a [] (by simpa using oa)
    | false => exact nnone a (by simpa using oa)
  have hH3 : Holds G H3 a k vs' := by
    obtain ⟨ob, hob, _⟩ := hH.there hk
    exact hH.keep fun o z => keep a o z na
  refine ⟨⟨by simpa using S3.len, fun i' d y => ?_, fun n d w y => ?_, fun b o n y => ?_, fun b l y => ?_, fun b y => ?_, fun b l y => ?_, fun p hp => S3.pin p (List.mem_cons_of_mem _ (List.mem_cons_of_mem _ hp)), S3.tabs⟩, hH3, p3i⟩
  · by_cases hi : i' = i
    · subst hi
      have hlt : i' < r3.length := by
        have := (List.getElem?_eq_some_iff.mp y).1
        simpa using this
      rw [List.getElem?_set_self hlt] at y
      cases y
      refine ⟨_, p3i, a, vs', rfl, hH3, .mk ?_, Reps.of_get z4.length fun n d v' y1 y2 => ?_⟩
      · obtain ⟨ob, hob, _⟩ := hH.there hk
        cases o with
        | true =>
          have oa' : ow a = some ⟨.sl i', []⟩ := by simpa using oa
          rw [unl0_i (fo3 a _ oa') oa']; rfl
        | false =>
          have oa' : ow a = none := by simpa using oa
          rw [nown a ob hob oa']; rfl
      · obtain ⟨v2, e1, e2⟩ := z4.get n d y1
        rw [y2] at e1
        cases e1
        refine e2.mono d (fun b o z u => keep b o z ?_) (fun b o z u => keep b o z ?_) (fun b o z n => nown b o z n) fun b o p _ z => ?_
        · rcases u with u | ⟨p, u⟩
          · exact nnone b u
          · exact nset b _ u
        · rintro ⟨l, x1, _, _⟩
          have := S.mu b l x1
          rw [z] at this
          exact u this
        · exact unl0_i (fo3 b _ z) z
    · rw [List.getElem?_set_ne (Ne.symm hi)] at y
      obtain ⟨w, y1, y2⟩ := S3.sl i' d y
      refine ⟨w, y1, y2.mono d (fun _ _ z _ => z) (fun _ _ z _ => z) (fun _ _ _ z => unl0_none z) fun b o p _ z => ?_⟩
      exact unl0_sl z hi
  · exact Rep.mono (l := ⟨.tm n, []⟩) d (fun _ _ z _ => z) (fun _ _ z _ => z) (fun _ _ _ z => unl0_none z) (fun b o p _ z => unl0_tm (p := [] ++ p) z) (S3.tm n d w y)
  · refine (S.old b o n y).bind fun u0 y0 => keep b u0 y0 ?_
    rintro ⟨l, x1, x2, _⟩
    rcases S.own b l x1 with z | z | z
    · exact x2 z
    · rw [z] at y; cases y
    · exact n z
  · have back : ∀ l0, ow b = some l0 → l0.b ≠ .fo → C.H0 b = none ∨ C.io b := fun l0 e n => (S.own b l0 e).resolve_left n
    rcases (unl0_of y).2 with ⟨l0, e, h | h⟩ | ⟨l3, e, h⟩
    · exact .inl h
    · exact .inr (back l0 e h)
    · refine .inr ?_
      rcases S3.own b l3 e with z | z | z
      · exact absurd z h
      · have z : H b = none := z
        cases e0 : C.H0 b with
        | none => exact .inl rfl
        | some o =>
          by_cases hi : C.io b
          · exact .inr hi
          · exact ((S.old b o hi e0).on z).elim
      · obtain ⟨l0, x1, x2, _⟩ := z
        exact back l0 x1 x2
  · have e3 := S3.fo b (.inl y)
    unfold unl0
    rw [e3, S.fo b y]
  · obtain ⟨⟨l3, e3⟩, _⟩ := unl0_of y
    exact S3.mu b l3 e3
theorem StW.unlendA {i : Nat} {a : Addr} {ow3 : Ow} {r3 : Rho} {T3 : List (D × V)} {s3 : L2.St} {H3 : Hp} (S : StW G C ow r T s H) (S3 : StW G (C.bod H ow i i (.ref a) (.ref a)) ow3 r3 T3 s3 H3) :
    StW G C (unl0 ow ow3 i) (r3.set i (some .any)) T3 s3 H3 := by
  have keep : ∀ b o, H b = some o → ¬ (C.bod H ow i i (.ref a) (.ref a)).io b → Kt (H3 b) o := fun b o e n => S3.old b o n e
  have p3i : s3[i]? = some (some (.ref a)) := S3.pin (i, .ref a) (List.mem_cons_of_mem _ List.mem_cons_self)
  refine ⟨by simpa using S3.len, fun i' d y => ?_, fun n d w y => ?_, fun b o n y => ?_, fun b l y => ?_, fun b y => ?_, fun b l y => ?_, fun p hp => S3.pin p (List.mem_cons_of_mem _ (List.mem_cons_of_mem _ hp)), S3.tabs⟩
  · by_cases hi : i' = i
    · subst hi
      have hlt : i' < r3.length := by
        have := (List.getElem?_eq_some_iff.mp y).1
        simpa using this
      rw [List.getElem?_set_self hlt] at y
      cases y
      exact ⟨_, p3i, trivial⟩
    · rw [List.getElem?_set_ne (Ne.symm hi)] at y
      obtain ⟨w, y1, y2⟩ := S3.sl i' d y
      refine ⟨w, y1, y2.mono d (fun _ _ z _ => z) (fun _ _ z _ => z) (fun _ _ _ z => unl0_none z) fun b o p _ z => ?_⟩
      exact unl0_sl z hi
  · exact Rep.mono (l := ⟨.tm n, []⟩) d (fun _ _ z _ => z) (fun _ _ z _ => z) (fun _ _ _ z => unl0_none z) (fun b o p _ z => unl0_tm (p := [] ++ p) z) (S3.tm n d w y)
  · refine (S.old b o n y).bind fun u0 y0 => keep b u0 y0 ?_
    rintro ⟨l, x1, x2, _⟩
    rcases S.own b l x1 with z | z | z
    · exact x2 z
    · rw [z] at y; cases y
    · exact n z
  · have back : ∀ l0, ow b = some l0 → l0.b ≠ .fo → C.H0 b = none ∨ C.io b := fun l0 e n => (S.own b l0 e).resolve_left n
    rcases (unl0_of y).2 with ⟨l0, e, h | h⟩ | ⟨l3, e, h⟩
    · exact .inl h
    · exact .inr (back l0 e h)
    · refine .inr ?_
      rcases S3.own b l3 e with z | z | z
      · exact absurd z h
      · have z : H b = none := z
        cases e0 : C.H0 b with
        | none => exact .inl rfl
        | some o =>
          by_cases hi : C.io b
          · exact .inr hi
          · exact ((S.old b o hi e0).on z).elim
      · obtain ⟨l0, x1, x2, _⟩ := z
        exact back l0 x1 x2
  · have e3 := S3.fo b (.inl y)
    unfold unl0
    rw [e3, S.fo b y]
  · obtain ⟨⟨l3, e3⟩, _⟩ := unl0_of y
    exact S3.mu b l3 e3
def seqK : Kd → Bool
  | .lst => true
  | .tup => true
  | _ => false
theorem seqK_of {k : Kd} (h : seqK k = true) : k = .lst ∨ k = .tup := by
  cases k <;> first | exact .inl rfl | exact .inr rfl | cases h
theorem seqK_one {k : Kd} {a : Addr} {us vs : List V} (h : seqK k = true) (h1 : Holds G H a k us) (h2 : Holds G H a k vs) : us = vs := by
  rcases seqK_of h with e | e
  · subst e
    have h1 : H a = some (.lst us) := h1
    have h2 : H a = some (.lst vs) := h2
    rw [h1] at h2; cases h2; rfl
  · subst e
    have h1 : H a = some (.tup us) := h1
    have h2 : H a = some (.tup vs) := h2
    rw [h1] at h2; cases h2; rfl
theorem seqK_ix {K : PySem.W.Frag} {k : Kd} {a : Addr} {vs : List V} {i : Int} {w : V} {Q : VK} (h : seqK k = true) (h1 : Holds G H a k vs) (h2 : atI vs i = some w) (hq : Q w H) : L2.rIx K (.ref a) (.int i) H Q := by
  rcases seqK_of h with e | e
  · subst e
    exact .inl ⟨a, vs, i, w, rfl, rfl, SqL.of h1, h2, hq⟩
  · subst e
    exact .inr (.inl ⟨a, vs, i, w, rfl, rfl, SqT.of h1, h2, hq⟩)
def isSeq (r : Rho) (i : Nat) : Bool := match r[i]? with
  | some (some (.node k _ _)) => seqK k
  | _ => false
theorem isSeq_at {i : Nat} (h : isSeq r i = true) : ∃ k o ds, r[i]? = some (some (.node k o ds)) ∧ seqK k = true := by
  unfold isSeq at h
  split at h
  · rename_i k o ds e; exact ⟨k, o, ds, e, h⟩
  · cases h
def spot (r : Rho) (i : Nat) (y : R) : Option (Kd × Bool × List D × Nat × D) := match y, r[i]? with
  | .val (.int kk), some (some (.node k o ds)) => if seqK k = true then (match ixN ds.length kk with
    | some m => (match ds[m]? with
      | some d => some (k, o, ds, m, d)
      | none => none)
    | none => none) else none
  | _, _ => none
theorem spot_of {i : Nat} {y : R} {k : Kd} {o : Bool} {ds : List D} {m : Nat} {d : D} (h : spot r i y = some (k, o, ds, m, d)) : ∃ kk, y = .val (.int kk) ∧ r[i]? = some (some (.node k o ds)) ∧ seqK k = true ∧ ixN ds.length kk = some m ∧ ds[m]? = some d := by
  unfold spot at h
  split at h
  · rename_i kk k' o' ds' e
    split at h
    · rename_i hk
      split at h
      · rename_i m' em
        split at h
        · rename_i d' ed
          cases h
          exact ⟨kk, rfl, e, hk, em, ed⟩
        · cases h
      · cases h
    · cases h
  · cases h
def cAppP (i : Nat) (fk fa : Ev) : Ev := fun r => if isSeq r i = true then (fk r).bd (fun y r1 => match spot r1 i y with
  | some (k, o, ds, m, .node .lst true acc) => (match cSet fa (r1.set i (some .any)) with
    | .ok (.val d) r2 => if acc.length < 16777216 then .ok (.val .non) (r2.set i (some (.node k o (ds.set m (.node .lst true (acc ++ [d])))))) else .bad
    | .exc c r2 => .exc c (r2.set i (some .any))
    | _ => .bad)
  | _ => .bad) else .bad
theorem spot_go {i : Nat} {y : R} {u : V} {k : Kd} {o : Bool} {ds : List D} {m : Nat} {d : D} (P : Post G C r T s H y u) (h : spot r i y = some (k, o, ds, m, d)) : ∃ kk a vs w ow2, u = .int kk ∧ s[i]? = some (some (.ref a)) ∧ Holds G H a k vs ∧ atI vs kk = some w ∧ vs[m]? = some w ∧
    StW G C ow2 (r.set i (some (.node k o (ds.set m .any)))) (T ++ [(d, w)]) s H ∧ StW G (C.bod H ow2 i i (.ref a) (.ref a)) (VL.rel (lendF i) ow2) (r.set i (some .any)) (T ++ [(d, w)]) s H := by
  obtain ⟨kk, ey, q, hk, em, ed⟩ := spot_of h
  subst ey
  obtain ⟨⟨ow, S⟩, _⟩ := P
  have eu : u = .int kk := StW.last S
  obtain ⟨a, vs, w, w1, hA, oA, hl, hv, rx, S2⟩ := (StW.drop S).lift q ed
  have hat : atI vs kk = some w := by
    unfold atI
    rw [hl, em]
    exact hv
  have S3 := S2.lend w1 w1
  rw [List.set_set] at S3
  exact ⟨kk, a, vs, w, _, eu, w1, hA, hat, hv, S2, S3⟩
theorem ve_appP {i : Nat} {x : Str} {e ek : Expr} {p ps apos cpos : Pos} (hN : X.N[i]? = some x) (hv : Vis X.env.scope x) (hd : (x == ("__debug__" : Str)) = false) (hcd : (x == ("__classdict__" : Str)) = false) (hk : VE X G C W ek fk) (hs1 : PlainIx ek)
    (ha : ∀ C' : Fc, (∃ u v, C'.pin = (i, v) :: (i, u) :: C.pin) → VE X G C' W e fa)
    (hbase : attributeBase (.Subscript (.Name x p) ek ps) "append" X.env (eval (.Subscript (.Name x p) ek ps) X.env) = eval (.Subscript (.Name x p) ek ps) X.env := by rfl)
    (hfew : ((backTo cpos (starEach [e] X.env)).all (fun x => !x.1) && (backToKw cpos (keywordEach [] X.env)).all (fun x => x.1.isSome)
      && decide ([e].length + ([] : List Keyword).length + (if ([] : List Keyword).isEmpty then 0 else 1) < 30)) = true := by rfl)
    (hline : (apos.endLine == cpos.line) = true := by rfl) (hs : starEach [e] X.env = (false, eval e X.env) :: starEach [] X.env := by rfl) (hplain : (backTo cpos (starEach [] X.env)).any (·.1) = false := by rfl) :
    VE X G C W (.Call (.Attribute (.Subscript (.Name x p) ek ps) "append" apos) [e] [] cpos) (cAppP i fk fa) := by
  have he : PE X e (fun s H Q => ∃ C' : Fc, (∃ u v, C'.pin = (i, v) :: (i, u) :: C.pin) ∧ tV G C' W (cSet fa) s H Q) := ⟨fun pins s σ H Q I w => by
    obtain ⟨C', e', w⟩ := w
    exact (ve_set (ha C' e')).run pins s σ H Q I w⟩
  refine PE.imp (pe_bm PySem.F.plainAttrs_list PySem.F.slot_list_append PySem.F.type_list_append mt_append (pe_ix ix_seq (pe_var hN hv hd hcd) hk hs1) (pa_cons he pa_nil hs) hbase hfew hline hs hplain) fun s H Q h => ?_
  obtain ⟨r, T, S, g⟩ := h
  have g : Goes G C W T s Q (cAppP i fk fa r) := g
  unfold cAppP at g
  split at g
  · rename_i hi
    obtain ⟨k0, o0, ds0, hr, _⟩ := isSeq_at hi
    obtain ⟨ow, S0⟩ := S
    obtain ⟨v, v1, a0, vs0, ev, v2, v3, v4⟩ := S0.sl i _ hr
    subst ev
    refine ⟨_, v1, ?_⟩
    refine one (fa := fk) ⟨ow, S0⟩ g fun y u r1 H1 P g1 => ?_
    cases es : spot r1 i y with
    | none => simp only [es] at g1; exact g1.elim
    | some z =>
      obtain ⟨k, o, ds, m, d⟩ := z
      obtain ⟨kk, a, vs, w, ow2, eu, w1, hA, hat, hvm, S2, S3⟩ := spot_go P es
      obtain ⟨_, _, _, hk, _, hdm⟩ := spot_of es
      rw [v1] at w1
      cases w1
      subst eu
      refine seqK_ix hk hA hat ?_
      simp only [es] at g1
      split at g1
      · rename_i k' o' ds' m' acc ee
        cases ee
        obtain ⟨b, ws, eb, hB, oB, _⟩ := StW.last S2
        subst eb
        have hB : H1 b = some (.lst ws) := hB
        refine ⟨.inl ⟨rfl, ws, SqL.of hB⟩, ?_⟩
        refine ⟨_, ⟨_, _, rfl⟩, r1.set i (some .any), _, ⟨_, S3⟩, ?_⟩
        have hil : i < r1.length := by
          have := S2.len
          have h2 := (List.getElem?_eq_some_iff.mp v1).1
          simp at this; omega
        have q2 : (r1.set i (some (.node k o (ds.set m .any))))[i]? = some (some (.node k o (ds.set m .any))) := List.getElem?_set_self hil
        have hkr : isR k ≠ true := by rcases seqK_of hk with e | e <;> (rw [e]; exact fun z => nomatch z)
        cases e3 : cSet fa (r1.set i (some .any)) with
        | bad => simp only [e3] at g1; exact g1.elim
        | exc c r2 =>
          simp only [e3] at g1
          intro H4 S4
          obtain ⟨ow4, S4⟩ := S4
          exact g1 H4 (StOk.drop ⟨_, S2.unlendA S4⟩)
        | ok x r2 =>
          simp only [e3] at g1
          cases x with
          | loc l => exact g1.elim
          | val dv =>
            simp only at g1
            split at g1
            · rename_i hz
              intro v' H4 P4
              obtain ⟨⟨ow4, S4⟩, _⟩ := P4
              obtain ⟨S5, hA5, s5⟩ := S2.unlend0 q2 hkr v1 hA (fun us h => seqK_one hk h hA) S4
              have S5 : StW G C (unl0 ow2 ow4 i) (r2.set i (some (.node k o (ds.set m .any)))) (T ++ [(.node .lst true acc, .ref b), (dv, v')]) s H4 := by simpa [pushR] using S5
              obtain ⟨ws2, h1, h2, S6⟩ := StW.appT S5
              refine ⟨b, ws2, v', rfl, rfl, h1, by rw [h2, sizeLine_eq]; exact hz, ?_⟩
              have hil2 : i < r2.length := by
                have := S5.len
                have h2 := (List.getElem?_eq_some_iff.mp v1).1
                simp at this; omega
              have hne : a0 ≠ b := fun z => by
                subst z
                have o5 := S5.tm T.length (.node .lst true acc) (.ref a0) (by simp)
                obtain ⟨_, _, e5, _, o6, _⟩ := o5
                cases e5
                have o6 := o6.cases.resolve_left (fun z => nomatch z)
                obtain ⟨_, y1, a7, _, e7, _, o7, _⟩ := S5.sl i _ (List.getElem?_set_self hil2)
                rw [s5] at y1
                cases y1
                cases e7
                have o7 := o7.cases.resolve_left hkr
                rw [o6] at o7
                cases o <;> cases o7
              have hA6 : Holds G (upd H4 b (.lst (ws2 ++ [v']))) a0 k vs := hA5.keep fun o z => by rw [upd_ne hne]; exact .inl z
              have S7 := S6.giveBack (List.getElem?_set_self hil2) s5 hkr hA6 hvm (fun us h => seqK_one hk h hA6)
              rw [List.set_set, List.set_set] at S7
              exact g1 _ _ ⟨StOk.pushN ⟨_, S7⟩, trivial⟩
            · exact g1.elim
      · exact g1.elim
  · exact g.elim
end
theorem appP_ok {fk fa : Ev} {i m : Nat} {kk : Int} {k : Kd} {o : Bool} {r r1 r2 : Rho} {ds acc : List D} {d : D} (h0 : isSeq r i = true) (hk : fk r = .ok (.val (.int kk)) r1) (h1 : r1[i]? = some (some (.node k o ds))) (hs : seqK k = true) (hm : ixN ds.length kk = some m) (hd : ds[m]? = some (.node .lst true acc))
    (ha : fa (r1.set i (some .any)) = .ok (.val d) r2) (hl : acc.length < 16777216) : cExpr (cAppP i fk fa) r = .nx (r2.set i (some (.node k o (ds.set m (.node .lst true (acc ++ [d])))))) := by
  have sp : spot r1 i (.val (.int kk)) = some (k, o, ds, m, .node .lst true acc) := by
    unfold spot
    simp only [h1, hs, hm, hd, if_true]
  have e : cSet fa (r1.set i (some .any)) = .ok (.val d) r2 := by rw [q_set, ha, bd_ok]
  rw [q_expr]
  show (if isSeq r i = true then (fk r).bd _ else EO.bad).st _ = _
  rw [if_pos h0, hk, bd_ok]
  simp only [sp, e, if_pos hl]
  rfl
theorem callQ_loc {q n i : Nat} {F : D → List D → MO} {fs : Av} {r r1 : Rho} {xs rest : List R} {ds1 ds2 : List D} {d d0 d0' : D} (h : fs r = .ok xs r1) (hn : xs.length = n + 1) (hd : xs.drop q = .loc i :: rest) (h1 : valsR (xs.take q) = some ds1) (h2 : valsR rest = some ds2) (h3 : r1[i]? = some (some d0)) (hF : F d0 (frzs (ds1 ++ ds2)) = .ok d d0') : cCallQ q n F fs r = .ok (.val d) (r1.set i (some d0')) := by
  unfold cCallQ
  rw [h]
  show callKQ q n F xs r1 = _
  unfold callKQ
  simp only [if_pos hn, hd, h1, h2, h3, hF]
theorem callQ_val {q n : Nat} {F : D → List D → MO} {fs : Av} {r r1 : Rho} {xs rest : List R} {ds1 ds2 : List D} {d d0 d0' : D} (h : fs r = .ok xs r1) (hn : xs.length = n + 1) (hd : xs.drop q = .val d0 :: rest) (h1 : valsR (xs.take q) = some ds1) (h2 : valsR rest = some ds2) (hF : F d0 (frzs (ds1 ++ ds2)) = .ok d d0') : cCallQ q n F fs r = .ok (.val d) r1 := by
  unfold cCallQ
  rw [h]
  show callKQ q n F xs r1 = _
  unfold callKQ
  simp only [if_pos hn, hd, h1, h2, hF]
section
variable {P : Program} {w : World} {K : PySem.W.Frag} {mg : Str → Option Value} {base : Heap} {G : GX}
theorem fnQ2 {x qual : Str} {st : Stmt} {f : Addr} {fd : FuncData} {N ps : List Str} {k q n : Nat} {fb : Sv} (F : Fun K x qual st f fd) (S : FnScope N ps (defScope st)) (hps : ps.length = n + 1)
    (hbody : ∀ (cdv : Value) (A : Around) (outer : List Env) (s : Shared) (H : Hp) (E : XK) (C : Fc), Room k (A.deeper (envOfC qual (defScope st) s.heap.objs.size f cdv)) → (∀ p ∈ C.pin, p.1 = q) → VSs (cxOf (L2.CX P w) P w K mg base N qual (defScope st) f cdv A outer s H E) G C (fun cls d _ H => E cls d H) (defBody st) fb) :
    FnOk P w K mg base (L2.CX P w) (k + 1) f fd ps (spQ G q n (runQ q N.length fb)) := by
  refine F.okX S (fun vs H Q E h => (spQ_len h).trans hps.symm) (fun cdv A outer s H vs Q E hr h => ?_)
  obtain ⟨d0, ds, v0, us1, us2, ow0, ev, hq, h1, h2, h3, h4, h5, ht, h6⟩ := h
  subst ev
  refine ⟨_, hbody cdv A outer s H E (fcQ H ow0 q v0) hr (fun p hp => by
    have e : p = (q, v0) := by simpa [fcQ] using hp
    rw [e]), ?_⟩
  refine ⟨startR N.length (putQ q d0 ds), [], ⟨_, startQ_ok (N := N) ht hq h5 h2 h3 h4⟩, ?_⟩
  have fin : ∀ {d d0' : D} {v : V} {r : Rho} {T : List (D × V)} {s' : L2.St} {H' : Hp} {ow : Ow} {b : Bs}, StW G (fcQ H ow0 q v0) ow r T s' H' → r[q]? = some (some d0') → b ≠ .fo → b ≠ .sl q → Rep G ow H' d ⟨b, []⟩ v →
      (∀ v H' (ow1 : Ow) (b : Bs), (∀ a o, (∀ p, ow0 a ≠ some ⟨.sl q, p⟩) → H a = some o → Kt (H' a) o) → b ≠ .fo → b ≠ .sl q → Rep G ow1 H' d ⟨b, []⟩ v → Rep G ow1 H' d0' ⟨.sl q, []⟩ v0 →
      (∀ a l, ow1 a = some l → l.b ≠ .fo → H a = none ∨ ∃ p, ow0 a = some ⟨.sl q, p⟩) → (∀ a, ow0 a = some ⟨.fo, []⟩ → ow1 a = some ⟨.fo, []⟩) → (∀ a l, ow1 a = some l → OwnO (H' a)) → LamX.Tabs G.T H' → Q v H') → Q v H' :=
    fun {d d0' v r T s' H' ow b} S' h0 b1 b2 hr hq => by
      obtain ⟨v0', z1, z2⟩ := S'.sl q d0' h0
      have p0 := S'.pin (q, v0) (by simp [fcQ])
      have p0 : s'[q]? = some (some v0) := p0
      rw [p0] at z1
      cases z1
      exact hq v H' ow b (fun a o n y => S'.old a o (fun ⟨p, z⟩ => n p z) y) b1 b2 hr z2 (fun a l y n => (S'.own a l y).elim (fun z => absurd z n) id) (fun a y => S'.fo a y) S'.mu S'.tabs
  unfold runQ at h6
  cases e : fb (startR N.length (putQ q d0 ds)) with
  | nx r =>
    rw [e] at h6
    intro s' H' S'
    cases e2 : r[q]? with
    | none => simp only [e2] at h6
    | some o =>
      cases o with
      | none => simp only [e2] at h6
      | some d0' =>
        simp only [e2] at h6
        obtain ⟨ow, S'⟩ := S'
        exact fin (d := .non) (b := .tm 0) S' e2 (fun z => nomatch z) (fun z => nomatch z) rfl h6
  | rt x r =>
    rw [e] at h6
    intro s' v H' P'
    obtain ⟨⟨ow, S'⟩, l⟩ := P'
    cases x with
    | val d =>
      cases e2 : r[q]? with
      | none => simp only [e2] at h6
      | some o =>
        cases o with
        | none => simp only [e2] at h6
        | some d0' =>
          simp only [e2] at h6
          have z := opd_rep (x := .val d) (T := []) (T2 := []) (by simpa using S') l rfl
          exact fin (b := .tm 0) S' e2 (fun z => nomatch z) (fun z => nomatch z) z h6
    | loc i =>
      by_cases hi : i = q
      · simp only [hi, if_true] at h6
      · simp only [hi, if_false] at h6
        cases e3 : opd r (.loc i) with
        | none => simp only [e3] at h6
        | some d =>
          cases e2 : r[q]? with
          | none => simp only [e3, e2] at h6
          | some o =>
            cases o with
            | none => simp only [e3, e2] at h6
            | some d0' =>
              simp only [e3, e2] at h6
              have z := opd_rep (x := .loc i) (T := []) (T2 := []) (by simpa using S') l e3
              exact fin (b := .sl i) S' e2 (fun z => nomatch z) (fun z => hi (by injection z)) z h6
  | exc c r => rw [e] at h6; exact h6.elim
  | bk r => rw [e] at h6; exact h6.elim
  | ct r => rw [e] at h6; exact h6.elim
  | bad => rw [e] at h6; exact h6.elim
end
theorem pinQ {C : Fc} {q : Nat} (h : ∀ p ∈ C.pin, p.1 = q) (i : Nat) (hi : i ≠ q) : ∀ p ∈ C.pin, p.1 ≠ i := fun p hp z => hi ((h p hp).symm.trans z).symm
theorem pinQo {C : Fc} {q : Nat} (h : ∀ p ∈ C.pin, p.1 = q) (l : List Nat) (hl : q ∉ l) : ∀ p ∈ C.pin, p.1 ∉ l := fun p hp z => hl (by rw [h p hp] at z; exact z)
end VL

namespace VL
open PySem PySem.Spec PyProof.Rows L2
def Fc.reads (C : Fc) (H : Hp) : Fc := ⟨H, fun _ => False, C.fo, C.pin⟩
theorem pinP {C C' : Fc} {i : Nat} (h : ∀ p ∈ C.pin, p.1 ≠ i) (e : C'.pin = C.pin) : ∀ p ∈ C'.pin, p.1 ≠ i := by rw [e]; exact h
theorem pinPo {C C' : Fc} {l : List Nat} (h : ∀ p ∈ C.pin, p.1 ∉ l) (e : C'.pin = C.pin) : ∀ p ∈ C'.pin, p.1 ∉ l := by rw [e]; exact h
def frzR (r : Rho) : Rho := r.map fun o => o.map frz
def frzT (T : List (D × V)) : List (D × V) := T.map fun p => (frz p.1, p.2)
def onlyFo (ow : Ow) : Ow := fun a => match ow a with
  | some l => if l.b = .fo then some l else none
  | none => none
section
variable {X : Cx} {G : GX} {C : Fc} {W : WX} {ow ow' : Ow} {r : Rho} {T T1 T2 : List (D × V)} {s : L2.St} {H H' : Hp} {fa fb fc : Ev} {fs : Av} {f g : Sv}
theorem onlyFo_none {a : Addr} (h : ow a = none) : onlyFo ow a = none := by unfold onlyFo; rw [h]
theorem onlyFo_not {a : Addr} {l : Loc} (h : ow a = some l) (n : l.b ≠ .fo) : onlyFo ow a = none := by unfold onlyFo; rw [h]; exact if_neg n
theorem onlyFo_fo {a : Addr} {l : Loc} (h : ow a = some l) (n : l.b = .fo) : onlyFo ow a = some l := by unfold onlyFo; rw [h]; exact if_pos n
theorem onlyFo_of {a : Addr} {l : Loc} (h : onlyFo ow a = some l) : ow a = some l ∧ l.b = .fo := by
  unfold onlyFo at h
  cases e : ow a with
  | none => rw [e] at h; cases h
  | some m =>
    rw [e] at h
    by_cases n : m.b = .fo
    · have h : (if m.b = .fo then some m else none) = some l := h
      rw [if_pos n] at h; cases h; exact ⟨rfl, n⟩
    · have h : (if m.b = .fo then some m else none) = some l := h
      rw [if_neg n] at h; cases h
theorem StW.reads (S : StW G C ow r T s H) : StW G (C.reads H) (onlyFo ow) (frzR r) (frzT T) s H where
  len := by simpa [frzR] using S.len
  sl := fun i d q => by
    unfold frzR at q
    rw [List.getElem?_map] at q
    cases e : r[i]? with
    | none => rw [e] at q; cases q
    | some o =>
      rw [e] at q
      cases o with
      | none => cases q
      | some d0 =>
        cases q
        obtain ⟨v, y1, y2⟩ := S.sl i d0 e
        refine ⟨v, y1, Rep.frz (l := ⟨.sl i, []⟩) d0 (fun a o z q => ⟨z, ?_⟩) (fun _ _ z _ => z) y2⟩
        rcases q with q | ⟨p, q⟩
        · exact onlyFo_none q
        · exact onlyFo_not q (fun z => nomatch z)
  tm := fun j d v q => by
    unfold frzT at q
    rw [List.getElem?_map] at q
    cases e : T[j]? with
    | none => rw [e] at q; cases q
    | some p =>
      rw [e] at q
      obtain ⟨d0, v0⟩ := p
      cases q
      refine Rep.frz (l := ⟨.tm j, []⟩) d0 (fun a o z q => ⟨z, ?_⟩) (fun _ _ z _ => z) (S.tm j d0 _ e)
      rcases q with q | ⟨p, q⟩
      · exact onlyFo_none q
      · exact onlyFo_not q (fun z => nomatch z)
  old := fun a o _ z => .inl z
  own := fun a l q => .inl (onlyFo_of q).2
  fo := fun a q => onlyFo_fo (S.fo a q) rfl
  mu := fun a l q => S.mu a l (onlyFo_of q).1
  pin := S.pin
  tabs := S.tabs
def cPure (fa : Ev) : Ev := fun r => match fa (frzR r) with
  | .ok (.val d) _ => if noL d = true then .ok (.val d) r else .bad
  | .exc c _ => .exc c r
  | _ => .bad
theorem pure_go {Q : VK} (h : tV G C W (cPure fa) s H Q) : ∃ C' : Fc, C'.pin = C.pin ∧ tV G C' W fa s H Q := by
  obtain ⟨r, T, ⟨ow, S⟩, g⟩ := h
  refine ⟨C.reads H, rfl, frzR r, frzT T, ⟨_, S.reads⟩, ?_⟩
  have g : Goes G C W T s Q (cPure fa r) := g
  unfold cPure at g
  cases e : fa (frzR r) with
  | bad => simp only [e] at g; exact g.elim
  | exc c r1 =>
    simp only [e] at g
    intro H1 S1
    obtain ⟨ow1, S1⟩ := S1
    have hx : Ext H H1 := fun a o z => S1.old a o (fun z => z) z
    exact g H1 ⟨ow, S.ext hx S1.tabs⟩
  | ok x r1 =>
    simp only [e] at g
    cases x with
    | loc i => exact g.elim
    | val d =>
      simp only at g
      split at g
      · rename_i hno
        intro v H1 P1
        obtain ⟨⟨ow1, S1⟩, _⟩ := P1
        have hx : Ext H H1 := fun a o z => S1.old a o (fun z => z) z
        have lt : (frzT T).length = T.length := by simp [frzT]
        have hd : Rep G ow1 H1 d ⟨.tm (frzT T).length, []⟩ v := S1.last
        rw [lt] at hd
        have hr : Rep G (VL.aft H ow ow1 T.length) H1 d ⟨.tm T.length, []⟩ v := Rep.aft (l := ⟨.tm T.length, []⟩) d (fun a k vs _ z y q nz => by
          rcases y with y | y
          · cases k with
            | tup =>
              cases y2 : ow a with
              | none => rfl
              | some m =>
                have mu := S.mu a m y2
                cases z2 : H a with
                | none => exact absurd z2 nz
                | some u =>
                  rw [z2] at mu
                  have z3 := (hx a u z2).get mu.nt
                  rw [show H1 a = some (.tup vs) from z] at z3
                  cases z3
                  exact mu.elim
            | _ => cases y
          · rw [hno] at y; cases y) (fun a m q n => by
            rcases S1.own a m q with z | z | z
            · exact absurd z n
            · exact z
            · exact z.elim) (fun z => nomatch z) rfl rfl hd
        exact g v H1 ⟨⟨_, S.aft hx S1.tabs S1.mu hr⟩, trivial⟩
      · exact g.elim
theorem ve_pure {e : Expr} (h : ∀ C' : Fc, C'.pin = C.pin → VE X G C' W e fa) : VE X G C W e (cPure fa) := ⟨fun pins s σ H Q I w => by
  obtain ⟨C', e', w⟩ := pure_go w
  exact (h C' e').run pins s σ H Q I w⟩
theorem pure_goT {Q : Bool → Hp → Prop} (h : tVT G C W (cPure fa) s H Q) : ∃ C' : Fc, C'.pin = C.pin ∧ tVT G C' W fa s H Q := by
  obtain ⟨r, T, ⟨ow, S⟩, g⟩ := h
  refine ⟨C.reads H, rfl, frzR r, frzT T, ⟨_, S.reads⟩, ?_⟩
  unfold cPure at g
  cases e : fa (frzR r) with
  | bad => simp only [e] at g
  | exc c r1 =>
    simp only [e] at g
    intro H1 S1
    obtain ⟨ow1, S1⟩ := S1
    exact g H1 ⟨ow, S.ext (fun a o z => S1.old a o (fun z => z) z) S1.tabs⟩
  | ok x r1 =>
    simp only [e] at g
    cases x with
    | loc i => exact g.elim
    | val d =>
      simp only at g
      by_cases hno : noL d = true
      · rw [if_pos hno] at g
        cases d with
        | bl b =>
          intro H1 S1
          obtain ⟨ow1, S1⟩ := S1
          exact g H1 ⟨ow, S.ext (fun a o z => S1.old a o (fun z => z) z) S1.tabs⟩
        | _ => exact g.elim
      · rw [if_neg hno] at g
        exact g.elim
theorem vt_pure {e : Expr} (h : ∀ C' : Fc, C'.pin = C.pin → VT X G C' W e fa) : VT X G C W e (cPure fa) := ⟨fun pins s σ H Q I w => by
  obtain ⟨C', e', w⟩ := pure_goT w
  exact (h C' e').run pins s σ H Q I w⟩
end
theorem pure_ok {fa : Ev} {r r1 : Rho} {d : D} (h : fa (frzR r) = .ok (.val d) r1) (hn : noL d = true) : cPure fa r = .ok (.val d) r := by
  unfold cPure
  rw [h]
  exact if_pos hn
def cTake (i : Nat) : Ev := fun r => match r[i]? with
  | some (some d) => .ok (.val d) (r.set i (some .any))
  | _ => .bad
section
variable {X : Cx} {G : GX} {C : Fc} {W : WX}
theorem ve_take {i : Nat} {x : Str} {pos : Pos} (hN : X.N[i]? = some x) (hv : Vis X.env.scope x) (hd : (x == ("__debug__" : Str)) = false := by decide) (hcd : (x == ("__classdict__" : Str)) = false := by decide) : VE X G C W (.Name x pos) (cTake i) := by
  refine PE.imp (pe_var hN hv hd hcd) fun s H Q h => ?_
  obtain ⟨r, T, ⟨ow, S⟩, g⟩ := h
  have g : Goes G C W T s Q (cTake i r) := g
  unfold cTake at g
  split at g
  · rename_i d e
    obtain ⟨v, z1, S2⟩ := S.pull e
    exact ⟨v, z1, g v H ⟨⟨_, S2⟩, trivial⟩⟩
  · exact g.elim
end
theorem take_at {r : Rho} {i : Nat} {d : D} (h : r[i]? = some (some d)) : cTake i r = .ok (.val d) (r.set i (some .any)) := by
  unfold cTake
  rw [h]
end VL

namespace VL
open PySem PySem.Spec PyProof.Rows L2
section
variable {X : Cx} {G : GX} {C : Fc} {W : WX} {fa : Ev}
end
section
variable {X : Cx} {G : GX} {C : Fc} {W : WX} {fk : Ev}
end
end VL

namespace VL
open PySem PySem.Spec PyProof.Rows L2
section
variable {X : Cx} {G : GX} {C : Fc} {W : WX} {ow ow' : Ow} {r : Rho} {T T1 T2 : List (D × V)} {s : L2.St} {H H' : Hp} {fa fb fc fk fj : Ev} {fs : Av} {f g : Sv}
def scal : D → Bool
  | .int _ => true
  | .bl _ => true
  | .non => true
  | .str _ => true
  | _ => false
end
mutual
theorem Rep.own3 {G : GX} {H' : Hp} : ∀ (d : D) {l l' : Loc} {v : V} {ow1 ow3 : Ow}, (∀ a k vs, isR k ≠ true → Holds G H' a k vs → (isTup k = true ∨ VL.noL d = false) → ow1 a = none → ow3 a = none) → (∀ a p, ow1 a = some (l.app p) → ow3 a = some (l'.app p)) → Rep G ow1 H' d l v → Rep G ow3 H' d l' v
  | .any, _, _, _, _, _, _, _, _ => trivial
  | .non, _, _, _, _, _, _, _, h => h
  | .bl _, _, _, _, _, _, _, _, h => h
  | .int _, _, _, _, _, _, _, _, h => h
  | .str _, _, _, _, _, _, _, _, h => h
  | .exc _, _, _, _, _, _, _, _, h => h
  | .ty _, _, _, _, _, _, _, _, h => h
  | .cls _, _, _, _, _, _, _, _, h => h
  | .node k o xs, l, l', v, ow1, ow3, hz, hn, h => by
    obtain ⟨a, vs, ev, h1, h2, h3⟩ := h
    have un : VL.noLs xs = false → VL.noL (.node k o xs) = false := fun z => by
      show ((o || isTup k) && VL.noLs xs) = false
      rw [z, Bool.and_false]
    refine ⟨a, vs, ev, h1, ?_, Reps.own3 xs (fun a k' vs' nr z y => hz a k' vs' nr z (y.imp id un)) hn h3⟩
    by_cases hrd : isR k = true
    · exact .ofR hrd
    have h2 := h2.cases.resolve_left hrd
    refine .mk ?_
    cases o with
    | true =>
      have q : ow1 a = some l := by simpa using h2
      have e0 : l.app [] = l := by unfold Loc.app; rw [List.append_nil]
      have e1 : l'.app [] = l' := by unfold Loc.app; rw [List.append_nil]
      have z := hn a [] (by rw [e0]; exact q)
      rw [e1] at z
      rw [z]; simp
    | false =>
      have q : ow1 a = none := by simpa using h2
      have hk : isTup k = true ∨ VL.noL (.node k false xs) = false := by
        cases e : isTup k with
        | true => exact .inl rfl
        | false =>
          refine .inr ?_
          show ((false || isTup k) && VL.noLs xs) = false
          rw [e]; rfl
      rw [hz a k vs hrd h1 hk q]; simp
theorem Reps.own3 {G : GX} {H' : Hp} : ∀ (ds : List D) {l l' : Loc} {i : Nat} {vs : List V} {ow1 ow3 : Ow}, (∀ a k vs, isR k ≠ true → Holds G H' a k vs → (isTup k = true ∨ VL.noLs ds = false) → ow1 a = none → ow3 a = none) → (∀ a p, ow1 a = some (l.app p) → ow3 a = some (l'.app p)) → Reps G ow1 H' ds l i vs → Reps G ow3 H' ds l' i vs
  | [], _, _, _, _, _, _, _, _, h => h
  | d :: ds, l, l', i, vs, ow1, ow3, hz, hn, h => by
    obtain ⟨v, ws, ev, h1, h2⟩ := h
    have u1 : VL.noL d = false → VL.noLs (d :: ds) = false := fun z => by show (VL.noL d && VL.noLs ds) = false; rw [z]; rfl
    have u2 : VL.noLs ds = false → VL.noLs (d :: ds) = false := fun z => by show (VL.noL d && VL.noLs ds) = false; rw [z, Bool.and_false]
    refine ⟨v, ws, ev, Rep.own3 (l := l.sub i) (l' := l'.sub i) d (fun a k vs nr z y => hz a k vs nr z (y.imp id u1)) (fun a p q => ?_) h1, Reps.own3 ds (fun a k vs nr z y => hz a k vs nr z (y.imp id u2)) hn h2⟩
    have e : ∀ m : Loc, (m.sub i).app p = m.app (i :: p) := fun m => by unfold Loc.sub Loc.app; simp
    rw [e] at q ⊢
    exact hn a _ q
end
section
variable {X : Cx} {G : GX} {C : Fc} {W : WX} {ow ow' : Ow} {r : Rho} {T T1 T2 : List (D × V)} {s : L2.St} {H H' : Hp} {fa fb fc : Ev} {fs : Av} {f g : Sv}
end
section
variable {X : Cx}
end
end VL

namespace VL
open PySem PySem.Spec PyProof.Rows L2
section
variable {G : GX} {H H' : Hp} {ow ow0 : Ow}
end
section
variable {P : Program} {w : World} {K : PySem.W.Frag} {mg : Str → Option Value} {base : Heap} {G : GX}
end
section
variable {X : Cx} {G : GX} {C : Fc} {W : WX} {ow ow' : Ow} {r : Rho} {T T1 T2 : List (D × V)} {s : L2.St} {H H' : Hp} {fs : Av}
end
end VL

namespace VL
open PySem PySem.Spec PyProof.Rows L2
end VL

namespace VL
open PySem PySem.Spec PyProof.Rows L2
end VL

namespace VL
open PySem PySem.Spec PyProof.Rows L2
theorem units1 {k : Nat} {A : Around} (h : Room k A) : A.units + 1 < cLine := by have := h.un; omega
def keyD : D → Option L2.Key
  | .int i => some (.inl i)
  | .str s => some (.inr s)
  | _ => none
def dix (ks : List L2.Key) (k : L2.Key) : Option Nat := ks.findIdx? fun x => decide (x = k)
theorem dix_cons (x : L2.Key) (ks : List L2.Key) (k : L2.Key) : dix (x :: ks) k = if x = k then some 0 else (dix ks k).map (· + 1) := by
  unfold dix
  rw [List.findIdx?_cons]
  by_cases h : x = k
  · rw [decide_eq_true h, if_pos h]; rfl
  · rw [decide_eq_false h, if_neg h]
    rfl
theorem valV_zip (k : L2.Key) : ∀ {ks : List L2.Key} {vs : List V}, ks.length = vs.length → valV (ks.zip vs) k = (dix ks k).bind fun j => vs[j]?
  | [], _, _ => rfl
  | x :: ks, [], h => by simp at h
  | x :: ks, v :: vs, h => by
    rw [dix_cons]
    show valV ((x, v) :: ks.zip vs) k = _
    by_cases e : x = k
    · rw [valV_pos (p := (x, v)) e, if_pos e]; rfl
    · rw [valV_neg (p := (x, v)) e, if_neg e, valV_zip k (by simpa using h)]
      cases dix ks k <;> rfl
theorem dix_lt {ks : List L2.Key} {k : L2.Key} {j : Nat} (h : dix ks k = some j) : j < ks.length ∧ ks[j]? = some k := by
  unfold dix at h
  rw [List.findIdx?_eq_some_iff_getElem] at h
  obtain ⟨h1, h2, _⟩ := h
  exact ⟨h1, by rw [List.getElem?_eq_getElem h1, of_decide_eq_true h2]⟩
theorem dix_none {ks : List L2.Key} {k : L2.Key} : dix ks k = none ↔ k ∉ ks := by
  unfold dix
  rw [List.findIdx?_eq_none_iff]
  exact ⟨fun h m => by have := h k m; simp at this, fun h x hx => decide_eq_false fun e => h (e ▸ hx)⟩
theorem map_off {β : Type} (k : L2.Key) (v : β) : ∀ (kvs : List (L2.Key × β)), k ∉ kvs.map (·.1) → (kvs.map fun kv => if kv.1 = k then (kv.1, v) else kv) = kvs
  | [], _ => rfl
  | p :: r, h => by
    rw [List.map_cons] at h ⊢
    rw [if_neg (fun e => h (by rw [← e]; exact List.mem_cons_self)), map_off k v r (fun m => h (List.mem_cons_of_mem _ m))]
theorem zip_fst {β : Type} : ∀ {ks : List L2.Key} {vs : List β}, ks.length = vs.length → (ks.zip vs).map (·.1) = ks
  | [], _, _ => rfl
  | _ :: _, [], h => by simp at h
  | k :: ks, v :: vs, h => by
    show k :: (ks.zip vs).map (·.1) = k :: ks
    rw [zip_fst (by simpa using h)]
theorem putK_at (k : L2.Key) (v : V) : ∀ {ks : List L2.Key} {vs : List V} {j : Nat}, ks.length = vs.length → ks.Nodup → dix ks k = some j → ((ks.zip vs).map fun kv => if kv.1 = k then (kv.1, v) else kv) = ks.zip (vs.set j v)
  | [], _, _, _, _, h => by cases h
  | x :: ks, [], _, h, _, _ => by simp at h
  | x :: ks, u :: vs, j, hl, hn, h => by
    rw [dix_cons] at h
    have hl' : ks.length = vs.length := by simpa using hl
    by_cases e : x = k
    · rw [if_pos e] at h
      cases h
      show (if x = k then (x, v) else (x, u)) :: (ks.zip vs).map _ = (x, v) :: ks.zip vs
      rw [if_pos e, map_off k v _ (by rw [zip_fst hl', ← e]; exact (List.nodup_cons.mp hn).1)]
    · rw [if_neg e] at h
      cases e2 : dix ks k with
      | none => rw [e2] at h; cases h
      | some i =>
        rw [e2] at h
        cases h
        show (if x = k then (x, v) else (x, u)) :: (ks.zip vs).map _ = (x, u) :: ks.zip (vs.set i v)
        rw [if_neg e, putK_at k v hl' (List.nodup_cons.mp hn).2 e2]
theorem put_some {k : L2.Key} {v : V} {ks : List L2.Key} {vs : List V} {j : Nat} (hl : ks.length = vs.length) (hn : ks.Nodup) (h : dix ks k = some j) : putK (ks.zip vs) k v = ks.zip (vs.set j v) := by
  unfold putK
  rw [if_pos (by rw [valV_any, valV_zip k hl, h]; show (vs[j]?).isSome = true; rw [List.getElem?_eq_getElem (by have := (dix_lt h).1; omega)]; rfl)]
  exact putK_at k v hl hn h
theorem put_none {k : L2.Key} {v : V} {ks : List L2.Key} {vs : List V} (hl : ks.length = vs.length) (h : dix ks k = none) : putK (ks.zip vs) k v = (ks ++ [k]).zip (vs ++ [v]) := by
  rw [putK_new v (by rw [valV_zip k hl, h]; rfl), List.zip_append hl]
  rfl
theorem keyD_rep {G : GX} {ow : Ow} {H : Hp} {d : D} {l : Loc} {u : V} {k : L2.Key} (e : keyD d = some k) (h : Rep G ow H d l u) : u = kV k := by
  cases d with
  | int i => cases e; exact h
  | str s => cases e; exact h
  | _ => cases e
def dgetK : G2 := fun x y r => match opd r x, opd r y with
  | some (.node (.dK ks) _ xs), some e => (match (keyD e).bind (dix ks) with
    | some j => (match xs[j]? with
      | some d => pick r x d
      | none => .bad)
    | none => .bad)
  | _, _ => .bad
section
variable {X : Cx} {G : GX} {C : Fc} {W : WX} {ow ow' : Ow} {r : Rho} {T T1 T2 : List (D × V)} {s : L2.St} {H H' : Hp} {fa fb fc fk : Ev} {f g : Sv} {fs : Av}
theorem pick_okJ {x y : R} {v u : V} {k : Kd} {o : Bool} {xs : List D} {j : Nat} {d : D} {Q : VK} (S : StW G C ow r (T ++ (pushR x v ++ pushR y u)) s H) (lx : LocOk s v x) (e1 : opd r x = some (.node k o xs)) (ej : xs[j]? = some d) (q : Goes G C W T s Q (pick r x d)) :
    ∃ a vs w, v = .ref a ∧ Holds G H a k vs ∧ xs.length = vs.length ∧ vs[j]? = some w ∧ Q w H := by
  by_cases a : atom d = true
  · obtain ⟨p, vs, ev, h1, h2, h3⟩ := opd_rep S lx e1
    obtain ⟨w, ew, rw'⟩ := h3.get j d ej
    unfold pick at q
    rw [if_pos a] at q
    exact ⟨p, vs, w, ev, h1, h3.length, ew, goes_val q ⟨ow, S.drop⟩ a fun _ _ => rw'.of_atom a⟩
  · obtain ⟨ow', p, vs, S', ev, h1, rx, _⟩ := StW.parts (T := T) (StW.drop (T := T ++ pushR x v) (T2 := pushR y u) (by rw [List.append_assoc]; exact S)) lx e1
    have l1 := (rx ⟨.fo, []⟩).length
    rw [frzs_length] at l1
    obtain ⟨w, ew, rw'⟩ := (rx ⟨.fo, []⟩).get j (frz d) (frzs_get ej)
    unfold pick at q
    rw [if_neg a] at q
    exact ⟨p, vs, w, ev, h1, l1, ew, q w H ⟨⟨ow', S'.push (Rep.moveF _ (frz_frz d) (fun a o z q => ⟨z, q⟩) (fun _ _ z _ => z) rw')⟩, trivial⟩⟩
theorem ve_dget {a b : Expr} {pos : Pos} (hu : X.A.units + 1 < cLine) (ha : VE X G C W a fa) (hb : VE X G C W b fb) (hs : NoSl b) : VE X G C W (.Subscript a b pos) (cBin dgetK fa fb) := by
  refine PE.imp (pe_dget hu ha hb hs) fun s H Q h => ?_
  obtain ⟨r, T, S, g⟩ := h
  refine two S g fun x y v u r2 H2 S2 lx ly q => ?_
  obtain ⟨ow, S2⟩ := S2
  unfold dgetK at q
  split at q
  · rename_i ks o xs e e1 e2
    split at q
    · rename_i j ej
      split at q
      · rename_i d ed
        cases ek : keyD e with
        | none => rw [ek] at ej; cases ej
        | some k =>
          rw [ek] at ej
          have ej : dix ks k = some j := ej
          have eu := keyD_rep ek (opd_rep (T := T ++ pushR x v) (T2 := []) (by rw [List.append_nil, List.append_assoc]; exact S2) ly e2)
          obtain ⟨p, vs, w, ev, h1, hl, h2, h3⟩ := pick_okJ S2 lx e1 ed q
          subst ev
          obtain ⟨h1, hkl⟩ : H2 p = some (.dK (ks.zip vs)) ∧ ks.length = vs.length := h1
          refine ⟨p, w, rfl, ?_, h3⟩
          have dg := DGet.k (k := k) h1
          rw [valV_zip k hkl, ej] at dg
          show DGet H2 p u (some w)
          rw [eu]
          have e3 : (some j).bind (fun j => vs[j]?) = some w := h2
          rw [e3] at dg
          exact dg
      · exact q.elim
    · exact q.elim
  · exact q.elim
end
end VL

namespace VL
open PySem PySem.Spec PyProof.Rows L2
section
variable {X : Cx} {G : GX} {C : Fc} {W : WX} {ow ow' : Ow} {r : Rho} {T T1 T2 : List (D × V)} {s : L2.St} {H H' : Hp} {fa fb fc fk : Ev} {f : Sv} {g : G2} {fs : Av}
theorem StW.intoG {kd : Kd} (hkd : isR kd ≠ true) {i k : Nat} {ds ds' : List D} {d : D} {a : Addr} {v : V} (S : StW G C ow r (T ++ [(d, v)]) s H) (q : r[i]? = some (some (.node kd true ds))) (ha : s[i]? = some (some (.ref a)))
    (hds : (ds' = ds.set k d ∧ k < ds.length) ∨ (ds' = ds ++ [d] ∧ k = ds.length)) : ∃ vs, Holds G H a kd vs ∧ vs.length = ds.length ∧
    ∀ (kd' : Kd) (ho : HO), OwnO (some ho) → Holds G (upd H a ho) a kd' (if k < ds.length then vs.set k v else vs ++ [v]) →
    StW G C (intoSl ow T.length i k) (r.set i (some (.node kd' true ds'))) T s (upd H a ho) := by
  obtain ⟨v', z1, a', vs, ev, z2, z3, z4⟩ := S.sl i _ q
  rw [ha] at z1
  cases z1
  cases ev
  have oa : ow a = some ⟨.sl i, []⟩ := by simpa using z3.cases.resolve_left hkd
  have hl := z4.length
  refine ⟨vs, z2, hl.symm, fun kd' ho hm hh => ?_⟩
  have exn : ∀ (b : Addr) (o : HO), H b = some o → ¬ OwnO (some o) → upd H a ho b = some o := fun b o z n => by
    rw [upd_ne (fun e => by have m := S.mu a _ oa; rw [e] at z; rw [z] at m; exact n m)]; exact z
  refine StW.write (k := kd) (ow' := intoSl ow T.length i k) hkd S q ha hm (vs' := if k < ds.length then vs.set k v else vs ++ [v]) hh (fun b n => by unfold intoSl; rw [n]) (fun b j p n hj => ?_) (fun b p n => by unfold intoSl; rw [n]) (fun b l y => ?_) (fun b l y n l' y2 => ?_) ?_ ?_ (fun j d' w y => ?_)
  · unfold intoSl; rw [n]; exact if_neg (fun z => hj z.1)
  · obtain ⟨l', y1, y2⟩ := into_fo y
    exact ⟨l', y1, y2.mp⟩
  · obtain ⟨l2, y1, y3⟩ := into_fo y
    rw [y2] at y1
    cases y1
    exact fun z => n (y3.mpr z)
  · unfold intoSl; rw [oa]; simp
  · -- the parts
    have old : ∀ (m : Nat) dm vm, m ≠ k → ds[m]? = some dm → vs[m]? = some vm → Rep G (intoSl ow T.length i k) (upd H a ho) dm (Loc.sub ⟨.sl i, []⟩ (0 + m)) vm := fun m dm vm hm q1 q2 => by
      obtain ⟨vm', y1, y2⟩ := z4.get m dm q1
      rw [q2] at y1
      cases y1
      refine Rep.mono (l := Loc.sub ⟨.sl i, []⟩ (0 + m)) dm (fun b o z w => by rw [upd_ne (apart oa w (.inr (by simp [Loc.sub])))]; exact .inl z) (fun b o z n => exn b o z n) (fun b o _ n => by unfold intoSl; rw [n]) (fun b o p _ n => ?_) y2
      have n' : ow b = some ⟨.sl i, m :: p⟩ := by rw [n]; simp [Loc.sub, Loc.app]
      unfold intoSl
      rw [n']
      have : ¬ (i = i ∧ (m :: p).head? = some k) := by simp [hm]
      simp [Loc.sub, Loc.app, hm]
    have new : Rep G (intoSl ow T.length i k) (upd H a ho) d (Loc.sub ⟨.sl i, []⟩ (0 + k)) v := by
      refine Rep.mono (l := ⟨.tm T.length, []⟩) d (fun b o z w => by rw [upd_ne (apart oa w (.inl (fun z => nomatch z)))]; exact .inl z) (fun b o z n => exn b o z n) (fun b o _ n => by unfold intoSl; rw [n]) (fun b o p _ n => ?_) S.last
      have n' : ow b = some ⟨.tm T.length, [] ++ p⟩ := n
      unfold intoSl
      rw [n']
      simp [Loc.sub, Loc.app]
    rcases hds with ⟨e, hk⟩ | ⟨e, hk⟩
    · subst e
      refine Reps.of_get (by rw [if_pos hk]; simp [hl]) fun m dm vm q1 q2 => ?_
      rw [if_pos hk] at q2
      by_cases hm : m = k
      · subst hm
        rw [List.getElem?_set_self hk] at q1
        rw [List.getElem?_set_self (by omega)] at q2
        cases q1; cases q2
        exact new
      · rw [List.getElem?_set_ne (Ne.symm hm)] at q1 q2
        exact old m dm vm hm q1 q2
    · subst e
      subst hk
      refine Reps.of_get (by rw [if_neg (by omega)]; simp [hl]) fun m dm vm q1 q2 => ?_
      rw [if_neg (by omega)] at q2
      by_cases hm : m < ds.length
      · rw [List.getElem?_append_left hm] at q1
        rw [List.getElem?_append_left (by omega)] at q2
        exact old m dm vm (by omega) q1 q2
      · rw [List.getElem?_append_right (by omega)] at q1
        rw [List.getElem?_append_right (by omega), ← hl] at q2
        have em : m = ds.length := by
          have := (List.getElem?_eq_some_iff.mp q1).1
          simp at this; omega
        subst em
        simp at q1 q2
        subst q1; subst q2
        exact new
  · have hj : j < T.length := (List.getElem?_eq_some_iff.mp y).1
    have z := S.tm j d' w (by rw [List.getElem?_append_left hj]; exact y)
    refine Rep.mono (l := ⟨.tm j, []⟩) d' (fun b o z w => by rw [upd_ne (apart oa w (.inl (fun z => nomatch z)))]; exact .inl z) (fun b o z n => exn b o z n) (fun b o _ n => by unfold intoSl; rw [n]) (fun b o p _ n => ?_) z
    have n' : ow b = some ⟨.tm j, [] ++ p⟩ := n
    unfold intoSl
    rw [n']
    have : ¬ j = T.length := by omega
    simp [Loc.app, this]
def isDk (r : Rho) (i : Nat) : Bool := match r[i]? with
  | some (some (.node (.dK _) _ _)) => true
  | _ => false
theorem isDk_at {i : Nat} (h : isDk r i = true) : ∃ ks o ds, r[i]? = some (some (.node (.dK ks) o ds)) := by
  unfold isDk at h
  split at h
  · rename_i ks o ds e; exact ⟨ks, o, ds, e⟩
  · cases h
def putD (ks : List L2.Key) (xs : List D) (k : L2.Key) (d : D) : D := match dix ks k with
  | some j => .node (.dK ks) true (xs.set j d)
  | none => .node (.dK (ks ++ [k])) true (xs ++ [d])
def okD (ks : List L2.Key) : Prop := ks.Nodup ∧ ks.length < 16777216
instance (ks : List L2.Key) : Decidable (okD ks) := by unfold okD; exact inferInstance
theorem StW.dput {i : Nat} {ks : List L2.Key} {xs : List D} {k : L2.Key} {d : D} {v : V} (S : StW G C ow r (T ++ [(d, v)]) s H) (q : r[i]? = some (some (.node (.dK ks) true xs))) (hok : okD ks) :
    ∃ a H2, s[i]? = some (some (.ref a)) ∧ DPut H a (kV k) v H2 ∧ StOk G C (r.set i (some (putD ks xs k d))) T s H2 := by
  obtain ⟨w0, v1, a, vs0, ev, v2, v3, v4⟩ := S.sl i _ q
  subst ev
  obtain ⟨v2, hkl⟩ : H a = some (.dK (ks.zip vs0)) ∧ ks.length = vs0.length := v2
  have hl4 := v4.length
  have hlt : (ks.zip vs0).length < sizeLine := by rw [List.length_zip, hkl, Nat.min_self, ← hkl, sizeLine_eq]; exact hok.2
  refine ⟨a, _, v1, DPut.k (k := k) (v := v) v2 hlt, ?_⟩
  unfold putD
  cases e : dix ks k with
  | some j =>
    have hj := (dix_lt e).1
    obtain ⟨vs', w1, w2, w3⟩ := StW.intoG (kd := .dK ks) (fun z => nomatch z) S q v1 (.inl ⟨rfl, show j < xs.length by omega⟩)
    obtain ⟨w1, hkl'⟩ : H a = some (.dK (ks.zip vs')) ∧ ks.length = vs'.length := w1
    rw [v2] at w1
    have ez : ks.zip vs0 = ks.zip vs' := by injection w1 with w1; injection w1
    have ev : vs0 = vs' := by
      have e1 := congrArg (List.map (·.2)) ez
      rwa [List.map_snd_zip (by omega), List.map_snd_zip (by omega)] at e1
    subst ev
    have w4 := w3 (.dK ks) (.dK (putK (ks.zip vs0) k v)) trivial (by
      rw [if_pos (by omega), put_some hkl hok.1 e]
      exact ⟨upd_same, by rw [List.length_set]; exact hkl⟩)
    exact ⟨_, w4⟩
  | none =>
    obtain ⟨vs', w1, w2, w3⟩ := StW.intoG (kd := .dK ks) (fun z => nomatch z) S q v1 (.inr ⟨rfl, rfl⟩)
    obtain ⟨w1, hkl'⟩ : H a = some (.dK (ks.zip vs')) ∧ ks.length = vs'.length := w1
    rw [v2] at w1
    have ez : ks.zip vs0 = ks.zip vs' := by injection w1 with w1; injection w1
    have ev : vs0 = vs' := by
      have e1 := congrArg (List.map (·.2)) ez
      rwa [List.map_snd_zip (by omega), List.map_snd_zip (by omega)] at e1
    subst ev
    have w4 := w3 (.dK (ks ++ [k])) (.dK (putK (ks.zip vs0) k v)) trivial (by
      rw [if_neg (Nat.lt_irrefl _), put_none hkl e]
      exact ⟨upd_same, by rw [List.length_append, List.length_append]; simp [hkl]⟩)
    exact ⟨_, w4⟩
def dputK (i : Nat) (x y : R) (r1 : Rho) : SO := match x, (opd r1 y).bind keyD, r1[i]? with
  | .val d, some k, some (some (.node (.dK ks) true xs)) => if okD ks then .nx (r1.set i (some (putD ks xs k d))) else .bad
  | _, _, _ => .bad
def cDPut (i : Nat) (fk fa : Ev) : Sv := fun r => (cSet fa r).st fun x r1 => if isDk r1 i = true then (fk r1).st (dputK i x) else .bad
theorem vs_dput {i : Nat} {x : Str} {k e : Expr} {p tpos pos : Pos} {fk : Ev} (hu : X.A.units + 1 < cLine) (hN : X.N[i]? = some x) (hv : Vis X.env.scope x) (hd : (x == ("__debug__" : Str)) = false) (hcd : (x == ("__classdict__" : Str)) = false) (hk : VE X G C W k fk) (ha : VE X G C W e fa)
    (hs : swapsWith e (some (.Subscript (.Name x p) k tpos)) pos.line X.env = pure false := by rfl) : VS X G C W (.Assign [.Subscript (.Name x p) k tpos] e pos) (cDPut i fk fa) := by
  refine PS.imp (ps_dput hu (pe_var hN hv hd hcd) hk (ve_set ha) hs) fun D s H h => ?_
  obtain ⟨r, T, S, g⟩ := h
  refine oneS (fa := cSet fa) S g fun x v r1 H1 P g1 => ?_
  split at g1
  · rename_i hi
    obtain ⟨ks, o, ds, hr⟩ := isDk_at hi
    obtain ⟨ow1, S1⟩ := P.1
    obtain ⟨w, v1, a, vs, ev, v2, v3, v4⟩ := S1.sl i _ hr
    subst ev
    refine ⟨_, v1, ?_⟩
    refine ⟨r1, T ++ pushR x v, ⟨ow1, S1⟩, ?_⟩
    cases e1 : fk r1 with
    | exc c r2 => rw [e1] at g1; exact fun H' S' => g1 s H' S'.drop
    | bad => rw [e1] at g1; exact g1.elim
    | ok y r2 =>
      rw [e1] at g1
      simp only [st_ok] at g1
      intro u H2 P2
      unfold dputK at g1
      split at g1
      · rename_i d k' ks' xs' e2 q
        split at g1
        · rename_i hok
          cases e3 : opd r2 y with
          | none => rw [e3] at e2; cases e2
          | some z =>
            rw [e3] at e2
            have e2 : keyD z = some k' := e2
            obtain ⟨ow2, S2⟩ := P2.1
            have eu := keyD_rep e2 (opd_rep (T := T ++ pushR (.val d) v) (T2 := []) (by rw [List.append_nil]; exact S2) P2.2 e3)
            have S3 : StW G C ow2 r2 (T ++ [(d, v)]) s H2 := StW.drop (T := T ++ [(d, v)]) (T2 := pushR y u) S2
            obtain ⟨a', H3, z1, z2, z3⟩ := S3.dput (k := k') q hok
            rw [v1] at z1
            cases z1
            subst eu
            exact ⟨a, H3, rfl, z2, g1 _ _ z3⟩
        · exact g1.elim
      · exact g1.elim
  · exact g1.elim
end
end VL

namespace VL
open PySem PySem.Spec PyProof.Rows L2
def leP (p q : Int × Int) : Bool := decide (p.1 < q.1) || (decide (p.1 = q.1) && decide (p.2 ≤ q.2))
theorem leP_iff {p q : Int × Int} : leP p q = true ↔ p.1 < q.1 ∨ (p.1 = q.1 ∧ p.2 ≤ q.2) := by
  unfold leP
  rw [Bool.or_eq_true, Bool.and_eq_true, decide_eq_true_eq, decide_eq_true_eq, decide_eq_true_eq]
def insP (x : Int × Int) : List (Int × Int) → List (Int × Int)
  | [] => [x]
  | y :: ys => if leP x y = true then x :: y :: ys else y :: insP x ys
def srtP : List (Int × Int) → List (Int × Int)
  | [] => []
  | x :: xs => insP x (srtP xs)
theorem insP_perm (x : Int × Int) : ∀ ys : List (Int × Int), (insP x ys).Perm (x :: ys)
  | [] => List.Perm.refl _
  | y :: ys => by
    unfold insP
    split
    · exact List.Perm.refl _
    · exact ((insP_perm x ys).cons y).trans (List.Perm.swap x y ys)
theorem srtP_perm : ∀ xs : List (Int × Int), (srtP xs).Perm xs
  | [] => List.Perm.refl _
  | x :: xs => (insP_perm x (srtP xs)).trans ((srtP_perm xs).cons x)
theorem leP_trans {x y z : Int × Int} (h : leP x y = true) (h' : leP y z = true) : leP x z = true := by
  rw [leP_iff] at *
  omega
theorem leP_total {x y : Int × Int} (h : ¬ leP x y = true) : leP y x = true := by
  rw [leP_iff] at *
  omega
theorem insP_up (x : Int × Int) : ∀ ys : List (Int × Int), ys.Pairwise (fun p q => leP p q = true) → (insP x ys).Pairwise (fun p q => leP p q = true)
  | [], _ => by simp [insP]
  | y :: ys, h => by
    unfold insP
    have h1 := List.pairwise_cons.mp h
    split
    · rename_i hx
      refine List.pairwise_cons.mpr ⟨fun z hz => ?_, h⟩
      rcases List.mem_cons.mp hz with e | e
      · rw [e]; exact hx
      · exact leP_trans hx (h1.1 z e)
    · rename_i hx
      refine List.pairwise_cons.mpr ⟨fun z hz => ?_, insP_up x ys h1.2⟩
      rcases List.mem_cons.mp ((insP_perm x ys).mem_iff.mp hz) with e | e
      · rw [e]; exact leP_total hx
      · exact h1.1 z e
theorem srtP_up : ∀ xs : List (Int × Int), (srtP xs).Pairwise (fun p q => leP p q = true)
  | [] => List.Pairwise.nil
  | x :: xs => insP_up x _ (srtP_up xs)
section
variable {X : Cx} {G : GX} {C : Fc} {W : WX} {ow ow' : Ow} {r : Rho} {T T1 T2 : List (D × V)} {s : L2.St} {H H' : Hp} {fa fb fc fk : Ev} {f : Sv} {g : G2} {fs : Av}
end
end VL

namespace VL
open PySem PySem.Spec PyProof.Rows L2
theorem lcL_step {t : Tg} {fe : Ev} {vs : List Nat} {d e : D} {ds acc : List D} {r r1 r3 : Rho} (h1 : tgt t d r = some r1) (h3 : cSet fe r1 = .ok (.val e) r3) (h4 : acc.length < 16777216) :
    lcL t none fe vs (d :: ds) acc r = lcL t none fe vs ds (acc ++ [e]) (wipeR r3 vs) := by
  conv => lhs; unfold lcL
  rw [h1]
  show (match cSet fe r1 with
        | .ok (.val e) r3 => if acc.length < 16777216 then lcL t none fe vs ds (acc ++ [e]) (wipeR r3 vs) else .bad
        | _ => LO.bad) = _
  rw [h3]
  exact if_pos h4
theorem lcL_all {α : Type} {t : Tg} {fe : Ev} {vs : List Nat} (st : α → Rho) (P : α → List D → Prop) : ∀ (ds : List D) (a : α) (acc : List D), acc.length + ds.length < 16777216 → P a acc →
    (∀ a acc d, d ∈ ds → P a acc → ∃ r1 r3 e a', tgt t d (st a) = some r1 ∧ cSet fe r1 = .ok (.val e) r3 ∧ wipeR r3 vs = st a' ∧ P a' (acc ++ [e])) →
    ∃ a' acc', lcL t none fe vs ds acc (st a) = .ok acc' (st a') ∧ P a' acc' ∧ acc'.length = acc.length + ds.length
  | [], a, acc, _, p, _ => ⟨a, acc, rfl, p, rfl⟩
  | d :: ds, a, acc, hl, p, h => by
    obtain ⟨r1, r3, e, a1, h1, h3, h4, p1⟩ := h a acc d List.mem_cons_self p
    rw [List.length_cons] at hl
    obtain ⟨a2, acc2, e2, p2, l2⟩ := lcL_all st P ds a1 (acc ++ [e]) (by rw [List.length_append, List.length_singleton]; omega) p1 fun a acc d hd => h a acc d (List.mem_cons_of_mem _ hd)
    refine ⟨a2, acc2, ?_, p2, by rw [l2, List.length_append, List.length_singleton, List.length_cons]; omega⟩
    rw [lcL_step h1 h3 (by omega), h4, e2]
end VL

namespace VL
open PySem PySem.Spec PyProof.Rows L2
section
variable {X : Cx} {G : GX} {C : Fc} {W : WX} {ow ow' : Ow} {r : Rho} {T T1 T2 : List (D × V)} {s : L2.St} {H H' : Hp} {fa fb fc fk : Ev} {fs : Av}
end
end VL

namespace VL
open PySem PySem.Spec PyProof.Rows L2
def IsIl (h : Heap) (v : Value) (ns : List Int) : Prop := ∃ (a : Addr) (items : List Value) (n : Nat), v = .ref a ∧ h.get? a = some (seqObj "list" items.toArray n) ∧ IntsAre items ns
theorem IsIl.type {M : Model} {h : Heap} {v : Value} {ns : List Int} (x : IsIl h v ns) : PySem.W.Looks M h (typeOf v) (.type "list") := by
  obtain ⟨a, items, n, rfl, g, i⟩ := x
  exact (PySem.W.Looks.ld g).andThen .now
section
variable {prog : Program} {w : World} {A : Around} {E : Value → Shared → Prop} {s : Shared}
end
section
variable {prog : Program} {w : World} {A : Around} {s : Shared}
end
def insL (x : List Int) : List (List Int) → List (List Int)
  | [] => [x]
  | y :: ys => if HT.lexLt y x = false then x :: y :: ys else y :: insL x ys
def srtL : List (List Int) → List (List Int)
  | [] => []
  | x :: xs => insL x (srtL xs)
abbrev UpL (xs : List (List Int)) : Prop := xs.Pairwise fun p q => HT.lexLt q p = false
theorem insL_perm (x : List Int) : ∀ ys : List (List Int), (insL x ys).Perm (x :: ys)
  | [] => List.Perm.refl _
  | y :: ys => by
    unfold insL
    split
    · exact List.Perm.refl _
    · exact ((insL_perm x ys).cons y).trans (List.Perm.swap x y ys)
theorem srtL_perm : ∀ xs : List (List Int), (srtL xs).Perm xs
  | [] => List.Perm.refl _
  | x :: xs => (insL_perm x (srtL xs)).trans ((srtL_perm xs).cons x)
theorem insL_up (x : List Int) : ∀ ys : List (List Int), UpL ys → UpL (insL x ys)
  | [], _ => by simp [insL, UpL]
  | y :: ys, h => by
    unfold insL
    have h1 := List.pairwise_cons.mp h
    split
    · rename_i hx
      refine List.pairwise_cons.mpr ⟨fun z hz => ?_, h⟩
      rcases List.mem_cons.mp hz with e | e
      · rw [e]; exact hx
      · exact NtL.lex_tr _ _ _ hx (h1.1 z e)
    · rename_i hx
      rw [Bool.not_eq_false] at hx
      refine List.pairwise_cons.mpr ⟨fun z hz => ?_, insL_up x ys h1.2⟩
      rcases List.mem_cons.mp ((insL_perm x ys).mem_iff.mp hz) with e | e
      · rw [e]; exact NtL.lex_asym _ _ hx
      · exact h1.1 z e
theorem srtL_up : ∀ xs : List (List Int), UpL (srtL xs)
  | [] => List.Pairwise.nil
  | x :: xs => insL_up x _ (srtL_up xs)
theorem lex_eq : ∀ {xs ys : List Int}, HT.lexLt xs ys = false → HT.lexLt ys xs = false → xs = ys
  | [], [], _, _ => rfl
  | [], y :: ys, h, _ => by rw [HT.lexLt_nil_cons] at h; cases h
  | x :: xs, [], _, h => by rw [HT.lexLt_nil_cons] at h; cases h
  | x :: xs, y :: ys, h1, h2 => by
    rw [HT.lexLt_cons] at h1 h2
    by_cases e : x = y
    · rw [if_pos e] at h1
      rw [if_pos e.symm] at h2
      rw [e, lex_eq h1 h2]
    · rw [if_neg e] at h1
      rw [if_neg (Ne.symm e)] at h2
      have a := of_decide_eq_false h1
      have b := of_decide_eq_false h2
      omega
abbrev il (o : Bool) (ns : List Int) : D := .node .lst o (ns.map .int)
section
variable {X : Cx} {G : GX} {C : Fc} {W : WX} {ow ow' : Ow} {r : Rho} {T T1 T2 : List (D × V)} {s : L2.St} {H H' : Hp}
end
section
variable {X : Cx} {G : GX} {C : Fc} {W : WX} {ow ow' : Ow} {r : Rho} {T T1 T2 : List (D × V)} {s : L2.St} {H H' : Hp} {fa fb fc : Ev}
end
theorem fp_il (o : Bool) (ns : List Int) : FP 1 (il o ns) := fp_lst (k := 0) fun x hx => by
  obtain ⟨n, _, rfl⟩ := List.mem_map.mp hx
  exact ⟨rfl, Nat.zero_le _⟩
end VL

namespace RT
open PySem PySem.Spec PyProof.Rows L2
section
variable {prog : Program} {w : World} {A : Around} {E : Value → Shared → Prop} {s : Shared}
end
end RT
namespace RT
open PySem PySem.Spec PyProof.Rows L2
section
variable {prog : Program} {w : World} {A : Around} {E : Value → Shared → Prop} {s : Shared}
end
end RT

namespace L2
open PySem PySem.Spec PyProof.Rows RT
section
variable {X : Cx}
end
end L2
namespace VL
open PySem PySem.Spec PyProof.Rows L2
def gLRev (x : R) (r : Rho) : EO := match opd r x with
  | some (.node .lst _ xs) => .ok (.val (.node .lst true (frzs xs).reverse)) (touch r x)
  | some (.node .rd _ xs) => .ok (.val (.node .lst true (frzs xs).reverse)) (touch r x)
  | some (.node .tup _ xs) => if xs.isEmpty = true then .bad else .ok (.val (.node .lst true (frzs xs).reverse)) (touch r x)
  | _ => .bad
def cLRev (fa : Ev) : Ev := fun r => (fa r).bd gLRev
section
variable {X : Cx} {G : GX} {C : Fc} {W : WX} {ow ow' : Ow} {r : Rho} {T T1 T2 : List (D × V)} {s : L2.St} {H H' : Hp} {fa fb fc : Ev}
end
theorem lrev_ok {fa : Ev} {r r1 : Rho} {x : R} {k : Kd} {o : Bool} {xs : List D} (h : fa r = .ok x r1) (ho : opd r1 x = some (.node k o xs)) (hk : k = .lst ∨ k = .rd ∨ (k = .tup ∧ xs ≠ [])) (f : frzs xs = xs) (t : touch r1 x = r1) : cLRev fa r = .ok (.val (.node .lst true xs.reverse)) r1 := by
  unfold cLRev
  rw [h, bd_ok]
  unfold gLRev
  rw [ho]
  rcases hk with z | z | ⟨z, hne⟩ <;> subst z
  · show EO.ok (.val (.node .lst true (frzs xs).reverse)) (touch r1 x) = _
    rw [f, t]
  · show EO.ok (.val (.node .lst true (frzs xs).reverse)) (touch r1 x) = _
    rw [f, t]
  · show (if xs.isEmpty = true then EO.bad else .ok (.val (.node .lst true (frzs xs).reverse)) (touch r1 x)) = _
    rw [if_neg (by cases xs with | nil => exact absurd rfl hne | cons _ _ => exact Bool.false_ne_true), f, t]
end VL

namespace VL
open PySem PySem.Spec PyProof.Rows L2
section
variable {X : Cx} {G : GX} {C : Fc} {W : WX} {ow ow' : Ow} {r : Rho} {T T1 T2 : List (D × V)} {s : L2.St} {H H' : Hp} {fa fb fc : Ev}
end
end VL

namespace VH
abbrev nt (k : Nat) : D := .int (k : Nat)
abbrev I (o : Bool) (xs : List Int) : D := .node .lst o (xs.map .int)
abbrev L (o : Bool) (ks : List Nat) : D := .node .lst o (ks.map nt)
class Fz (d : D) (d' : outParam D) : Prop where
  e : frz d = d'
class Fzs (ds : List D) (ds' : outParam (List D)) : Prop where
  e : frzs ds = ds'
instance : Fz (.int i) (.int i) := ⟨rfl⟩
instance : Fz (.bl i) (.bl i) := ⟨rfl⟩
instance : Fz .non .non := ⟨rfl⟩
instance : Fz (.str i) (.str i) := ⟨rfl⟩
instance : Fz (.exc i) (.exc i) := ⟨rfl⟩
instance : Fz (.cls i) (.cls i) := ⟨rfl⟩
instance : Fz (.ty i) (.ty i) := ⟨rfl⟩
instance [h : Fzs xs ys] : Fz (.node k o xs) (.node k false ys) := ⟨by show D.node k false (frzs xs) = _; rw [h.e]⟩
instance : Fz (script ns) (script ns) := ⟨by
  show D.node .rd false (frzs (ns.map D.int)) = _
  rw [frzs_ints]; rfl⟩
instance : Fzs [] [] := ⟨rfl⟩
instance [h : Fz x y] [h2 : Fzs xs ys] : Fzs (x :: xs) (y :: ys) := ⟨by show frz x :: frzs xs = _; rw [h.e, h2.e]⟩
instance [h : Fzs xs xs'] [h2 : Fzs ys ys'] : Fzs (xs ++ ys) (xs' ++ ys') := ⟨by rw [frzs_append, h.e, h2.e]⟩
theorem frzs_nt (ks : List Nat) : frzs (ks.map nt) = ks.map nt := by
  rw [frzs_map, List.map_map]
  exact List.map_congr_left fun _ _ => rfl
instance : Fzs (List.map nt ks) (List.map nt ks) := ⟨frzs_nt ks⟩
instance : Fzs (List.map D.int ks) (List.map D.int ks) := ⟨frzs_ints ks⟩
instance : Fzs (List.map pr ks) (List.map pr ks) := ⟨frzs_pr ks⟩
theorem frzs_enc {α : Type} {f g : α → D} (h : ∀ a, frz (f a) = g a) (xs : List α) : frzs (xs.map f) = xs.map g := by
  rw [frzs_map, List.map_map]
  exact List.map_congr_left fun a _ => h a
theorem frzs_take (n : Nat) (xs : List D) : frzs (xs.take n) = (frzs xs).take n := by rw [frzs_map, frzs_map, List.map_take]
theorem frzs_drop (n : Nat) (xs : List D) : frzs (xs.drop n) = (frzs xs).drop n := by rw [frzs_map, frzs_map, List.map_drop]
theorem frzs_set (xs : List D) (n : Nat) (d : D) : frzs (xs.set n d) = (frzs xs).set n (frz d) := by rw [frzs_map, frzs_map, List.map_set]
theorem frzs_replicate (n : Nat) (d : D) : frzs (List.replicate n d) = List.replicate n (frz d) := by rw [frzs_map, List.map_replicate]
instance [h : Fzs xs ys] : Fzs (xs.take n) (ys.take n) := ⟨by rw [frzs_take, h.e]⟩
instance [h : Fzs xs ys] : Fzs (xs.drop n) (ys.drop n) := ⟨by rw [frzs_drop, h.e]⟩
instance [h : Fzs xs ys] [h2 : Fz d e] : Fzs (xs.set n d) (ys.set n e) := ⟨by rw [frzs_set, h.e, h2.e]⟩
instance [h2 : Fz d e] : Fzs (List.replicate n d) (List.replicate n e) := ⟨by rw [frzs_replicate, h2.e]⟩
theorem fz {d d' : D} [h : Fz d d'] : frz d = d' := h.e
class Nl (d : D) : Prop where
  e : noL d = true
class Nls (ds : List D) : Prop where
  e : noLs ds = true
instance : Nl (.int i) := ⟨rfl⟩
instance : Nl (.bl i) := ⟨rfl⟩
instance : Nl .non := ⟨rfl⟩
instance : Nl (.str i) := ⟨rfl⟩
instance : Nl (.exc i) := ⟨rfl⟩
instance : Nl (.cls i) := ⟨rfl⟩
instance : Nl (.ty i) := ⟨rfl⟩
instance [h : Nls xs] : Nl (.node k true xs) := ⟨by show ((true || isTup k) && noLs xs) = true; rw [h.e]; rfl⟩
instance (priority := low) [h : Nls xs] : Nl (.node .tup o xs) := ⟨by show ((o || true) && noLs xs) = true; rw [h.e]; cases o <;> rfl⟩
instance : Nls [] := ⟨rfl⟩
instance [h : Nl x] [h2 : Nls xs] : Nls (x :: xs) := ⟨by show (noL x && noLs xs) = true; rw [h.e, h2.e]; rfl⟩
theorem noLs_of {xs : List D} (h : ∀ x ∈ xs, noL x = true) : noLs xs = true := by
  induction xs with
  | nil => rfl
  | cons x xs ih =>
    show (noL x && noLs xs) = true
    rw [h x List.mem_cons_self, ih fun y hy => h y (List.mem_cons_of_mem _ hy)]; rfl
theorem noLs_app {xs ys : List D} (h : noLs xs = true) (h2 : noLs ys = true) : noLs (xs ++ ys) = true := by
  induction xs with
  | nil => exact h2
  | cons x xs ih =>
    have h : (noL x && noLs xs) = true := h
    rw [Bool.and_eq_true] at h
    show (noL x && noLs (xs ++ ys)) = true
    rw [h.1, ih h.2]; rfl
instance [h : Nls xs] [h2 : Nls ys] : Nls (xs ++ ys) := ⟨noLs_app h.e h2.e⟩
theorem noLs_enc {α : Type} {f : α → D} (h : ∀ a, noL (f a) = true) (xs : List α) : noLs (xs.map f) = true := noLs_of fun x hx => by
  obtain ⟨a, _, rfl⟩ := List.mem_map.mp hx
  exact h a
instance : Nls (List.map nt ks) := ⟨noLs_enc (fun _ => rfl) _⟩
instance : Nls (List.map D.int ks) := ⟨noLs_enc (fun _ => rfl) _⟩
instance : Nls (List.map pr ks) := ⟨noLs_prs _⟩
instance [h : Nl d] : Nls (List.replicate n d) := ⟨noLs_of fun x hx => by rw [List.eq_of_mem_replicate hx]; exact h.e⟩
class Fq (k : outParam Nat) (d : D) : Prop where
  e : FP k d
class Fqs (k : outParam Nat) (ds : List D) : Prop where
  e : ∀ x ∈ ds, FP k x
instance : Fq 0 (.int i) := ⟨fp_int i 0⟩
instance : Fq 0 (.bl i) := ⟨fp_bl i 0⟩
instance : Fq 0 .non := ⟨fp_non 0⟩
instance [h : Fqs k xs] : Fq (k + 1) (.node .lst o xs) := ⟨fp_lst h.e⟩
instance [h : Fqs k xs] : Fq (k + 1) (.node .tup o xs) := ⟨fp_tup h.e⟩
instance : Fqs 0 [] := ⟨fun x hx => by cases hx⟩
instance [h : Fq k x] [h2 : Fqs m xs] : Fqs (max k m) (x :: xs) := ⟨fun y hy => by
  rcases List.mem_cons.mp hy with e | hy
  · rw [e]; exact h.e.mono (Nat.le_max_left _ _)
  · exact (h2.e y hy).mono (Nat.le_max_right _ _)⟩
instance [h : Fqs k xs] [h2 : Fqs m ys] : Fqs (max k m) (xs ++ ys) := ⟨fun y hy => by
  rcases List.mem_append.mp hy with hy | hy
  · exact (h.e y hy).mono (Nat.le_max_left _ _)
  · exact (h2.e y hy).mono (Nat.le_max_right _ _)⟩
theorem fqs_enc {α : Type} {f : α → D} {k : Nat} (h : ∀ a, FP k (f a)) (xs : List α) : ∀ x ∈ xs.map f, FP k x := fun x hx => by
  obtain ⟨a, _, rfl⟩ := List.mem_map.mp hx
  exact h a
instance : Fqs 0 (List.map nt ks) := ⟨fqs_enc (fun _ => fp_int _ 0) _⟩
instance : Fqs 0 (List.map D.int ks) := ⟨fqs_enc (fun _ => fp_int _ 0) _⟩
instance : Fqs 1 (List.map pr ks) := ⟨fp_prs ks⟩
def sq3 : Kd → Bool
  | .lst => true
  | .rd => true
  | .tup => true
  | _ => false
def sq2 : Kd → Bool
  | .lst => true
  | .rd => true
  | _ => false
section
variable {fa fb fc : Ev} {fs : Av} {r r1 r2 r3 : Rho} {x y : R} {d e z : D} {b c : Bool} {i j : Int}
theorem cc_d (d : D) (r : Rho) : cC d r = .ok (.val d) r := rfl
theorem cc (n : Int) (r : Rho) : cC (.int n) r = .ok (.val (.int n)) r := rfl
theorem set_val (h : fa r = .ok (.val d) r1) : cSet fa r = .ok (.val d) r1 := by
  rw [q_set, h, bd_ok]
theorem set_loc {i : Nat} {d d' : D} (h : r[i]? = some (some d)) (a : atom d = false) (f : Fz d d') (h2 : r.set i (some d') = r1) : cSet (cVar i) r = .ok (.val d') r1 := by
  rw [q_set, cvar_loc h a, bd_ok]
  show (match opd r (.loc i) with | some d => EO.ok (.val (frz d)) (settle r (.loc i)) | none => .bad) = _
  rw [opd_loc' h, q_settle2, h]
  show EO.ok (R.val (frz d)) (r.set i (some (frz d))) = _
  rw [f.e, h2]
theorem cons_ok {xs : List R} (h : fa r = .ok x r1) (h2 : fs r1 = .ok xs r2) : cCons fa fs r = .ok (x :: xs) r2 := by
  rw [q_cons, h]
  show (match fs r1 with | .ok xs r2 => AO.ok (x :: xs) r2 | .exc c r2 => .exc c r2 | .bad => .bad) = _
  rw [h2]
theorem nil_ok (r : Rho) : cNil r = .ok [] r := rfl
theorem lst_ok {xs : List R} {ds : List D} (h : fs r = .ok xs r1) (h2 : valsR xs = some ds) (hl : ds.length ≤ 16777216) : cLst fs r = .ok (.val (.node .lst true ds)) r1 := by
  rw [q_lst, h]
  show (match valsR xs with | some ds => if ds.length ≤ 16777216 then EO.ok (.val (.node .lst true ds)) r1 else .bad | none => .bad) = _
  rw [h2]
  show (if ds.length ≤ 16777216 then EO.ok (.val (.node .lst true ds)) r1 else .bad) = _
  rw [if_pos hl]
theorem tup_ok {xs : List R} {ds : List D} (h : fs r = .ok xs r1) (h2 : valsR xs = some ds) (hl : ds.length ≤ 16777216) : cTup fs r = .ok (.val (.node .tup false ds)) r1 := by
  rw [q_tup, h]
  show (match valsR xs with | some ds => if ds.length ≤ 16777216 then EO.ok (.val (.node .tup false ds)) r1 else .bad | none => .bad) = _
  rw [h2]
  show (if ds.length ≤ 16777216 then EO.ok (.val (.node .tup false ds)) r1 else .bad) = _
  rw [if_pos hl]
theorem call_go {n : Nat} {F : List D → FO} {xs : List R} {ds ds' : List D} (h : fs r = .ok xs r1) (h2 : opds r1 xs = some ds) (hf : Fzs ds ds') (hn : xs.length = n) (hF : F ds' = .ok d) (nl : Nl d) : cCall n F fs r = .ok (.val d) r1 := by
  rw [q_call, h]
  show (if xs.length = n then callK F xs r1 else .bad) = _
  rw [if_pos hn, q_callK, h2]
  show (match F (frzs ds) with | .ok d => if noL d = true then EO.ok (.val d) r1 else .ok (.val d) (settles r1 xs) | .exc c => .exc c r1 | .bad => .bad) = _
  rw [hf.e, hF]
  show (if noL d = true then EO.ok (.val d) r1 else .ok (.val d) (settles r1 xs)) = _
  rw [if_pos nl.e]
theorem call_set {n : Nat} {F : List D → FO} {xs : List R} {ds ds' : List D} (h : fs r = .ok xs r1) (h2 : opds r1 xs = some ds) (hf : Fzs ds ds') (hn : xs.length = n) (hF : F ds' = .ok d) (nl : noL d = false) (hs : settles r1 xs = r2) : cCall n F fs r = .ok (.val d) r2 := by
  rw [q_call, h]
  show (if xs.length = n then callK F xs r1 else .bad) = _
  rw [if_pos hn, q_callK, h2]
  show (match F (frzs ds) with | .ok d => if noL d = true then EO.ok (.val d) r1 else .ok (.val d) (settles r1 xs) | .exc c => .exc c r1 | .bad => .bad) = _
  rw [hf.e, hF]
  show (if noL d = true then EO.ok (.val d) r1 else .ok (.val d) (settles r1 xs)) = _
  rw [if_neg (by rw [nl]; decide), hs]
theorem call_exc {n k : Nat} {F : List D → FO} {xs : List R} {ds ds' : List D} (h : fs r = .ok xs r1) (h2 : opds r1 xs = some ds) (hf : Fzs ds ds') (hn : xs.length = n) (hF : F ds' = .exc k) : cCall n F fs r = .exc k r1 := by
  rw [q_call, h]
  show (if xs.length = n then callK F xs r1 else .bad) = _
  rw [if_pos hn, q_callK, h2]
  show (match F (frzs ds) with | .ok d => if noL d = true then EO.ok (.val d) r1 else .ok (.val d) (settles r1 xs) | .exc c => .exc c r1 | .bad => .bad) = _
  rw [hf.e, hF]
theorem expr_exc {k : Nat} (h : fa r = .exc k r1) : cExpr fa r = .exc k r1 := by
  rw [q_expr, h]; rfl
theorem asg_exc {k : Nat} {t : Tg} (h : fa r = .exc k r1) : cAsg t fa r = .exc k r1 := by
  rw [q_asg, q_set, h]; rfl
theorem len_go {k : Kd} {o : Bool} {xs : List D} (h : fa r = .ok x r1) (ho : opd r1 x = some (.node k o xs)) (hk : sq3 k = true) : cB (b1 lenD) (cCons fa cNil) r = .ok (.val (.int xs.length)) r1 :=
  b1_ok h ho (by cases k <;> first | rfl | cases hk) rfl
theorem lenE_go {α : Type} {k : Kd} {o : Bool} {f : α → D} {xs : List α} (h : fa r = .ok x r1) (ho : opd r1 x = some (.node k o (xs.map f))) (hk : sq3 k = true) : cB (b1 lenD) (cCons fa cNil) r = .ok (.val (.int xs.length)) r1 := by
  have e := len_go h ho hk
  rw [List.length_map] at e
  exact e
theorem neg_ok {n : Int} (h : fa r = .ok (.val (.int n)) r1) : cNeg fa r = .ok (.val (.int (-n))) r1 := by
  unfold cNeg
  rw [h]
  rfl
theorem max_ok (h1 : fa r = .ok (.val (.int i)) r1) (h2 : fb r1 = .ok (.val (.int j)) r2) : cB gMax2 (cCons fa (cCons fb cNil)) r = .ok (.val (.int (max i j))) r2 := by
  rw [q_B, cons_ok h1 (cons_ok h2 (nil_ok r2))]
  show gMax2 [.val (.int i), .val (.int j)] r2 = _
  rw [q_max2]
  congr 3
  by_cases hn : j > i
  · rw [if_pos hn]; omega
  · rw [if_neg hn]; omega
theorem min_ok (h1 : fa r = .ok (.val (.int i)) r1) (h2 : fb r1 = .ok (.val (.int j)) r2) : cB gMin2 (cCons fa (cCons fb cNil)) r = .ok (.val (.int (min i j))) r2 := by
  rw [q_B, cons_ok h1 (cons_ok h2 (nil_ok r2))]
  show gMin2 [.val (.int i), .val (.int j)] r2 = _
  rw [q_min2]
  congr 3
  by_cases hn : j < i
  · rw [if_pos hn]; omega
  · rw [if_neg hn]; omega
theorem and_no (h : fa r = .ok (.val (.bl false)) r1) : cAnd fa fb r = .ok (.val (.bl false)) r1 := by
  rw [q_and, h, bd_ok]
theorem and_go (h : fa r = .ok (.val (.bl true)) r1) {o : EO} (h2 : fb r1 = o) : cAnd fa fb r = o := by
  rw [q_and, h, bd_ok]; exact h2
theorem or_yes (h : fa r = .ok (.val (.bl true)) r1) : cOr fa fb r = .ok (.val (.bl true)) r1 := by
  rw [q_or, h, bd_ok]
theorem or_go (h : fa r = .ok (.val (.bl false)) r1) {o : EO} (h2 : fb r1 = o) : cOr fa fb r = o := by
  rw [q_or, h, bd_ok]; exact h2
theorem and_b (h : fa r = .ok (.val (.bl b)) r) (h2 : fb r = .ok (.val (.bl c)) r) : cAnd fa fb r = .ok (.val (.bl (b && c))) r := by
  rw [q_and, h, bd_ok]
  cases b with
  | true => exact h2
  | false => rfl
theorem or_b (h : fa r = .ok (.val (.bl b)) r) (h2 : fb r = .ok (.val (.bl c)) r) : cOr fa fb r = .ok (.val (.bl (b || c))) r := by
  rw [q_or, h, bd_ok]
  cases b with
  | true => rfl
  | false => exact h2
theorem tru_bl (h : fa r = .ok (.val (.bl b)) r1) : cTru fa r = .ok (.val (.bl b)) r1 := by
  unfold cTru
  rw [h]
  rfl
theorem ix_go {k : Kd} {o : Bool} {xs : List D} {n : Int} (h : fa r = .ok x r1) (h2 : fb r1 = .ok (.val (.int n)) r2) (ho : opd r2 x = some (.node k o xs)) (hk : sq3 k = true) (hd : atI xs n = some d) (fd : Fz d e) (t : touch r2 x = r3) (ht : atom d = true → r3 = r2) : cBin gIx fa fb r = .ok (.val e) r3 := by
  refine bin_ok h h2 ?_
  have z : gIx x (.val (.int n)) r2 = pick r2 x d := by
    rw [q_ix, ho]
    cases k <;> first | (cases hk; done) | (show (match atI xs n with | some d => pick r2 x d | none => EO.bad) = _; rw [hd])
  rw [z, q_pick]
  by_cases a : atom d = true
  · rw [if_pos a, ht a, ← fd.e, frz_atom a]
  · rw [if_neg a, fd.e, t]
theorem at_enc {α : Type} {f : α → D} {xs : List α} {i : Nat} (h : i < xs.length) : atI (xs.map f) (i : Int) = some (f xs[i]) := by
  rw [VL.atI_nat, List.getElem?_map, List.getElem?_eq_getElem h]; rfl
theorem touch_v (d : D) (r : Rho) : touch r (.val d) = r := rfl
theorem touch_l {i : Nat} {k : Kd} {o : Bool} {ys : List D} (h : r[i]? = some (some (.node k o ys))) (f : Fzs ys ys) : touch r (.loc i) = r := touch_fz h f.e
theorem addL_go {o o' : Bool} {xs ys xs' ys' : List D} (h1 : fa r = .ok x r1) (h2 : fb r1 = .ok y r2) (e1 : opd r2 x = some (.node .lst o xs)) (e2 : opd r2 y = some (.node .lst o' ys)) (f1 : Fzs xs xs') (f2 : Fzs ys ys') (hl : xs.length + ys.length ≤ 16777216) (t1 : touch r2 y = r2) (t2 : touch r2 x = r2) : cBin gAdd fa fb r = .ok (.val (.node .lst true (xs' ++ ys'))) r2 := by
  refine bin_ok h1 h2 ?_
  rw [q_addL e1 e2 hl, f1.e, f2.e, t1, t2]
theorem listOf_go {o : Bool} {k : Kd} {xs xs' : List D} (h : fa r = .ok x r1) (ho : opd r1 x = some (.node k o xs)) (hk : sq3 k = true) (f : Fzs xs xs') (t : touch r1 x = r2) : cB gListOf (cCons fa cNil) r = .ok (.val (.node .lst true xs')) r2 := by
  rw [q_B, cons_ok h (nil_ok r1), q_abd1, q_listOf, ho]
  cases k <;> first | (cases hk; done) | (show EO.ok (.val (.node .lst true (frzs xs))) (touch r1 x) = _; rw [f.e, t])
theorem isi_go {n : String} {E : ETab} (h : fa r = .ok x r1) (ho : opd r1 x = some d) (hb : isi1 E d (.ty n) = some b) : cB (gIsi E) (cCons fa (cCons (cC (.ty n)) cNil)) r = .ok (.val (.bl b)) r1 := by
  rw [q_B, cons_ok h (cons_ok (cc_d _ _) (nil_ok r1)), q_abd1]
  show (match opd r1 x with | some d => (match isi1 E d (.ty n) with | some b => EO.ok (.val (.bl b)) r1 | none => .bad) | none => .bad) = _
  rw [ho]
  show (match isi1 E d (.ty n) with | some b => EO.ok (.val (.bl b)) r1 | none => .bad) = _
  rw [hb]
theorem g2_go {f : D → D → Option D} (h1 : fa r = .ok x r1) (h2 : fb r1 = .ok y r2) (e1 : opd r2 x = some d) (e2 : opd r2 y = some e) (h : f d e = some z) (a : atom z = true) : cBin (g2 f) fa fb r = .ok (.val z) r2 := bin_ok h1 h2 (g2_ok e1 e2 h a)
theorem eqD_go (h1 : fa r = .ok x r1) (h2 : fb r1 = .ok y r2) (e1 : opd r2 x = some d) (e2 : opd r2 y = some e) (h : eqD d e = some (.bl b)) : cBin gEq fa fb r = .ok (.val (.bl b)) r2 := bin_ok h1 h2 (g2_ok e1 e2 h rfl)
theorem neD_go (h1 : fa r = .ok x r1) (h2 : fb r1 = .ok y r2) (e1 : opd r2 x = some d) (e2 : opd r2 y = some e) (h : neD d e = some (.bl b)) : cBin gNe fa fb r = .ok (.val (.bl b)) r2 := bin_ok h1 h2 (g2_ok e1 e2 h rfl)
theorem seq_go {f g : Sv} {o : SO} (h : f r = .nx r1) (h2 : g r1 = o) : cSeq f g r = o := (seq_nx h).trans h2
theorem skip_go (r : Rho) : cSkip r = .nx r := rfl
theorem asg_go {i : Nat} (h : cSet fa r = .ok (.val d) r1) (h2 : r1.set i (some d) = r2) : cAsg (.nm i) fa r = .nx r2 := by
  rw [q_asg, h]
  show SO.nx (r1.set i (some d)) = _
  rw [h2]
theorem asgT_go {t : Tg} (h : cSet fa r = .ok (.val d) r1) (h2 : tgt t d r1 = some r2) : cAsg t fa r = .nx r2 := by
  rw [q_asg, h]
  show asgK t (.val d) r1 = _
  rw [q_asgK, h2]
theorem expr_go (h : fa r = .ok x r1) : cExpr fa r = .nx r1 := by
  rw [q_expr, h]; rfl
theorem app_go {i : Nat} {ds : List D} (hi : isLst r i = true) (h : cSet fa r = .ok (.val d) r1) (h2 : r1[i]? = some (some (.node .lst true ds))) (hl : ds.length < 16777216) (h3 : r1.set i (some (.node .lst true (ds ++ [d]))) = r2) : cExpr (cApp i fa) r = .nx r2 := by
  rw [q_expr, q_app, if_pos hi, h, bd_ok]
  show (appK i (.val d) r1).st _ = _
  rw [q_appK, h2]
  show (if ds.length < 16777216 then EO.ok (.val .non) (r1.set i (some (.node .lst true (ds ++ [d])))) else .bad).st _ = _
  rw [if_pos hl, h3]
  rfl
theorem ext_go {i : Nat} {o : Bool} {ds es ds' es' : List D} (hi : isLst r i = true) (h : fa r = .ok x r1) (ho : opd r1 x = some (.node .lst o es)) (ht : touch r1 x = r1) (h2 : r1[i]? = some (some (.node .lst true ds))) (f1 : Fzs ds ds') (f2 : Fzs es es') (hl : ds.length + es.length ≤ 16777216) (h3 : r1.set i (some (.node .lst true (ds' ++ es'))) = r2) : cExpr (cExt i fa) r = .nx r2 := by
  rw [q_expr]
  have e : cExt i fa r = (fa r).bd (extK i) := by
    unfold cExt; rw [if_pos hi]
  rw [e, h, bd_ok]
  have e2 : extK i x r1 = .ok (.val .non) r2 := by
    unfold extK
    rw [ho]
    simp only
    rw [ht, h2]
    simp only
    rw [if_pos hl, f1.e, f2.e, List.set_set, h3]
  rw [e2]
  rfl
theorem ret_go (h : fa r = .ok x r1) : cRet fa r = .rt x r1 := ret_ok h
theorem for_go {t : Tg} {fi : Iv} {f : Sv} {ds : List D} {o : SO} (h : fi r = .ok ds r1) (h2 : forL t f ds r1 = o) : cFor t fi f r = o := for_ok h h2
theorem aug_go {i : Nat} {a c : Int} (h : r[i]? = some (some (.int a))) (h2 : fa r = .ok (.val (.int c)) r1) (h3 : r1.set i (some (.int (a + c))) = r2) : cAug i (g2 iAdd) fa r = .nx r2 := by
  rw [q_aug, h]
  show (if true = true then (fa r).st fun y r1 => (g2 iAdd (.val (.int a)) y r1).st fun z r2 => match z with
    | .val d' => SO.nx (r2.set i (some d'))
    | .loc _ => .bad else .bad) = _
  rw [h2]
  show SO.nx (r1.set i (some (.int (a + c)))) = _
  rw [h3]
theorem augG_go {i : Nat} {g : G2} (h : r[i]? = some (some d)) (a : atom d = true) (h2 : fa r = .ok y r1) (h4 : g (.val d) y r1 = .ok (.val e) r2) (h3 : r2.set i (some e) = r3) : cAug i g fa r = .nx r3 := by
  rw [q_aug, h]
  show (if atom d = true then (fa r).st fun y r1 => (g (.val d) y r1).st fun z r2 => match z with
    | .val d' => SO.nx (r2.set i (some d'))
    | .loc _ => .bad else .bad) = _
  rw [if_pos a, h2]
  show (g (.val d) y r1).st _ = _
  rw [h4]
  show SO.nx (r2.set i (some e)) = _
  rw [h3]
theorem par_go {is : List Nat} {xs : List R} {ds : List D} (h : fs r = .ok xs r1) (h2 : valsR xs = some ds) (hl : is.length = ds.length) (h3 : setAll r1 is ds = r2) : cPar is fs r = .nx r2 := by
  rw [← h3]; exact par_ok h h2 hl
theorem setIx_go {i : Nat} {fk : Ev} {k : Int} {jj : Nat} {ds : List D} (h : cSet fa r = .ok (.val d) r1) (h1 : isLst r1 i = true) (h2 : fk r1 = .ok (.val (.int k)) r2) (h3 : r2[i]? = some (some (.node .lst true ds))) (h4 : ixN ds.length k = some jj) (h5 : r2.set i (some (.node .lst true (ds.set jj d))) = r3) : cSetIx i fk fa r = .nx r3 := by
  rw [q_setIx, h, q_st1, if_pos h1, h2, q_st1, q_setIxK]
  show (match opd r2 (.val (.int k)), r2[i]? with
  | some (.int k), some (some (.node .lst true ds)) => (match ixN ds.length k with
    | some j => SO.nx (r2.set i (some (.node .lst true (ds.set j d))))
    | none => .bad)
  | _, _ => .bad) = _
  rw [h3]
  show (match ixN ds.length k with
    | some j => SO.nx (r2.set i (some (.node .lst true (ds.set j d))))
    | none => .bad) = _
  rw [h4]
  show SO.nx (r2.set i (some (.node .lst true (ds.set jj d)))) = _
  rw [h5]
theorem ixN_nat {n k : Nat} (h : k < n) : ixN n (k : Int) = some k := by
  unfold ixN
  rw [if_pos (by omega), if_pos (by omega), Int.toNat_natCast]
theorem wh_go {ft : Ev} {f : Sv} {n : Nat} (h : ft r = .ok (.val (.bl true)) r1) (h2 : f r1 = .nx r2) : whileL ft f (n + 1) r = whileL ft f n r2 := by
  conv => lhs; unfold whileL
  rw [h]
  show (match f r1 with | .nx r2 => whileL ft f n r2 | .ct r2 => whileL ft f n r2 | .bk r2 => .nx r2 | o => o) = _
  rw [h2]
theorem wh_no {ft : Ev} {f : Sv} {n : Nat} (h : ft r = .ok (.val (.bl false)) r1) : whileL ft f (n + 1) r = .nx r1 := by
  unfold whileL
  rw [h]
  rfl
end
theorem it_rngI {fa : Ev} {r r1 : Rho} {n : Int} (h : fa r = .ok (.val (.int n)) r1) (h1 : within n = true) : iRng rngI1 (cCons fa cNil) r = .ok (rngD 0 1 n.toNat) r1 := by
  rw [q_iRng, cons_ok h (nil_ok r1)]
  show rngI1 r1 [.val (.int n)] = _
  rw [q_rng1, if_pos h1]
theorem it_rng2 {fa fb : Ev} {r r1 r2 : Rho} {n m : Int} (h : fa r = .ok (.val (.int n)) r1) (h2 : fb r1 = .ok (.val (.int m)) r2) (hn : within n = true) (hm : within m = true) : iRng rngI2 (cCons fa (cCons fb cNil)) r = .ok (rngD n 1 (m - n).toNat) r2 := by
  rw [q_iRng, cons_ok h (cons_ok h2 (nil_ok r2))]
  show rngI2 r2 [.val (.int n), .val (.int m)] = _
  rw [q_rng2, if_pos (by rw [hn, hm]; rfl)]
theorem it_lstG {fa : Ev} {r r1 : Rho} {o : Bool} {k : Kd} {ds : List D} (h : cSet fa r = .ok (.val (.node k o ds)) r1) (hk : sq2 k = true) : iLst fa r = .ok ds r1 := by
  rw [q_iLst, h]
  cases k <;> first | (cases hk; done) | rfl
theorem it_enumG {fa : Ev} {r r1 : Rho} {o : Bool} {ds ds' : List D} (h : fa r = .ok (.val (.node .lst o ds)) r1) (f : Fzs ds ds') : iRng gEn (cCons fa cNil) r = .ok (enumD 0 ds') r1 := by
  rw [q_iEn (cons_ok h (nil_ok r1)), f.e]
theorem rng_nt (n : Nat) : rngD 0 1 n = (List.range n).map nt := by
  unfold rngD
  refine List.map_congr_left fun i _ => ?_
  show D.int ((0 : Int) + (i : Nat) * 1) = D.int (i : Nat)
  congr 1; omega
end VH
namespace VH
section
variable {fa fb fc : Ev} {fs : Av} {f g h : Sv} {r r1 r2 r3 : Rho} {x y : R} {d e z : D} {b c : Bool} {i j : Int} {o : SO}
theorem set_0 {a : Option D} {x : Option D} {l : Rho} : (a :: l).set 0 x = x :: l := rfl
theorem set_s {a : Option D} {x : Option D} {l l' : Rho} {n : Nat} (h : l.set n x = l') : (a :: l).set (n + 1) x = a :: l' := by
  rw [List.set_cons_succ, h]
theorem setAll_n (r : Rho) : setAll r [] [] = r := rfl
theorem setAll_c {i : Nat} {is : List Nat} {ds : List D} (h : r.set i (some d) = r1) (h2 : setAll r1 is ds = r2) : setAll r (i :: is) (d :: ds) = r2 := by
  show setAll (r.set i (some d)) is ds = _
  rw [h, h2]
theorem tgt_nm {i : Nat} (h : r.set i (some d) = r1) : tgt (.nm i) d r = some r1 := by
  show some (r.set i (some d)) = _
  rw [h]
theorem tgt_tp {is : List Nat} {o : Bool} {ds : List D} (hl : is.length = ds.length) (h : setAll r is ds = r1) : tgt (.tp is) (.node .tup o ds) r = some r1 := by
  show (if is.length = ds.length then some (setAll r is ds) else none) = _
  rw [if_pos hl, h]
theorem tgt_tl {is : List Nat} {o : Bool} {ds : List D} (hl : is.length = ds.length) (h : setAll r is ds = r1) : tgt (.tl is) (.node .lst o ds) r = some r1 := by
  show (if is.length = ds.length then some (setAll r is ds) else none) = _
  rw [if_pos hl, h]
theorem seq_as (h1 : cSeq f (cSeq g h) r = o) : cSeq (cSeq f g) h r = o := by
  rw [← h1]
  simp only [q_seq]
  cases f r <;> rfl
theorem seq_ret (h1 : fa r = .ok x r1) (h2 : SO.rt x r1 = o) : cSeq (cRet fa) h r = o := by
  rw [seq_rt (ret_ok h1), h2]
theorem seq_yes (h1 : fa r = .ok (.val (.bl b)) r1) (hb : b = true) (h2 : cSeq f h r1 = o) : cSeq (cIfS fa f g) h r = o := by
  subst hb
  rw [← h2]
  simp only [q_seq]
  rw [ifs_yes h1 rfl]
theorem seq_no (h1 : fa r = .ok (.val (.bl b)) r1) (hb : b = false) (h2 : cSeq g h r1 = o) : cSeq (cIfS fa f g) h r = o := by
  subst hb
  rw [← h2]
  simp only [q_seq]
  rw [ifs_not h1 rfl]
theorem ifs_y (h1 : fa r = .ok (.val (.bl b)) r1) (hb : b = true) (h2 : f r1 = o) : cIfS fa f g r = o := by
  subst hb
  exact ifs_yes h1 h2
theorem ifs_n (h1 : fa r = .ok (.val (.bl b)) r1) (hb : b = false) (h2 : g r1 = o) : cIfS fa f g r = o := by
  subst hb
  exact ifs_not h1 h2
theorem seq_sk (h2 : h r = o) : cSeq cSkip h r = o := by
  rw [q_seq, q_skip]; exact h2
theorem seq_ra {k : Nat} (h2 : SO.exc k r = o) : cSeq (cRaise k) h r = o := by
  rw [q_seq, q_raise]; exact h2
theorem runF_go {n : Nat} {ds : List D} (h1 : startR n ds = r) (h2 : f r = .rt x r1) (ho : opd r1 x = some d) : runF n f ds = .ok d := by
  subst h1
  exact runF_ok h2 ho
theorem runF_nx {n : Nat} {ds : List D} (h1 : startR n ds = r) (h2 : f r = .nx r1) : runF n f ds = .ok .non := by
  subst h1
  unfold runF
  rw [h2]
theorem runF_exc {n k : Nat} {ds : List D} (h1 : startR n ds = r) (h2 : f r = .exc k r1) : runF n f ds = .exc k := by
  subst h1
  unfold runF
  rw [h2]
theorem forL_c {t : Tg} {ds : List D} (h1 : tgt t d r = some r1) (h2 : f r1 = .nx r2) (h3 : forL t f ds r2 = o) : forL t f (d :: ds) r = o := (forL_cons h1 h2).trans h3
end
theorem mulOk_l {i j : Int} (h : i.natAbs < 2 ^ 64) : mulOk i j = true := by
  unfold mulOk
  rw [decide_eq_true h]; rfl
theorem mulOk_r {i j : Int} (h : j.natAbs < 2 ^ 64) : mulOk i j = true := by
  unfold mulOk
  rw [decide_eq_true h, Bool.or_true, Bool.true_or]
end VH
namespace VH
theorem set_any {r : Rho} {i : Nat} {d : D} (h : r[i]? = some (some d)) (f : frz d = d) : cSet (cVar i) r = .ok (.val d) r := by
  cases ha : atom d with
  | true => rw [q_set, cvar_at h ha, bd_ok]
  | false => exact set_loc h ha ⟨f⟩ (set_same h)
theorem start_c {n : Nat} {d : D} {ds : List D} {r : Rho} (h : startR n ds = r) : startR (n + 1) (d :: ds) = some d :: r := by
  subst h
  unfold startR
  simp
theorem start_n {n : Nat} {r : Rho} (h : startR n [] = r) : startR (n + 1) [] = none :: r := by
  subst h
  unfold startR
  simp [List.replicate_succ]
theorem start_z : startR 0 [] = [] := rfl
end VH
namespace VH
end VH
namespace VH
end VH
namespace VH
theorem touch_g {r r1 : Rho} {i : Nat} {k : Kd} {o : Bool} {ys ys' : List D} (h : r[i]? = some (some (.node k o ys))) (f : Fzs ys ys') (h2 : r.set i (some (.node k o ys')) = r1) : touch r (.loc i) = r1 := by
  rw [q_touch2, h, ← h2, ← f.e]
  rfl
end VH
namespace VH
theorem se_n (r : Rho) : settles r [] = r := rfl
theorem se_v {r r1 : Rho} {d : D} {xs : List R} (h : settles r xs = r1) : settles r (.val d :: xs) = r1 := h
theorem se_l {r r1 r2 : Rho} {i : Nat} {d d' : D} {xs : List R} (h : r[i]? = some (some d)) (f : Fz d d') (h2 : r.set i (some d') = r1) (h3 : settles r1 xs = r2) : settles r (.loc i :: xs) = r2 := by
  rw [q_settles1, q_settle2, h, ← h3, ← h2, ← f.e]
end VH
namespace VH
theorem not_t {fa : Ev} {r r1 : Rho} (h : fa r = .ok (.val (.bl true)) r1) : cNot fa r = .ok (.val (.bl false)) r1 := not_ok h
theorem not_f {fa : Ev} {r r1 : Rho} (h : fa r = .ok (.val (.bl false)) r1) : cNot fa r = .ok (.val (.bl true)) r1 := not_ok h
end VH
namespace VH
theorem wh_y {ft : Ev} {f : Sv} {n : Nat} {r r1 r2 : Rho} {b : Bool} {o : SO} (h : ft r = .ok (.val (.bl b)) r1) (hb : b = true) (h2 : f r1 = .nx r2) (h3 : whileL ft f n r2 = o) : whileL ft f (n + 1) r = o := by
  subst hb
  exact (wh_go h h2).trans h3
theorem wh_n {ft : Ev} {f : Sv} {n : Nat} {r r1 : Rho} {b : Bool} (h : ft r = .ok (.val (.bl b)) r1) (hb : b = false) : whileL ft f (n + 1) r = .nx r1 := by
  subst hb
  exact wh_no h
theorem int_bl {fa : Ev} {r r1 : Rho} {b : Bool} (h : fa r = .ok (.val (.bl b)) r1) : cB (b1 intD) (cCons fa cNil) r = .ok (.val (.int (if b then 1 else 0))) r1 := b1_ok h rfl rfl rfl
theorem int_int {fa : Ev} {r r1 : Rho} {i : Int} (h : fa r = .ok (.val (.int i)) r1) : cB (b1 intD) (cCons fa cNil) r = .ok (.val (.int i)) r1 := b1_ok h rfl rfl rfl
theorem call_any {n : Nat} {F : List D → FO} {fs : Av} {r r1 : Rho} {d : D} {xs : List R} {ds ds' : List D} (h : fs r = .ok xs r1) (h2 : opds r1 xs = some ds) (hf : Fzs ds ds') (hn : xs.length = n) (hF : F ds' = .ok d) (hs : settles r1 xs = r1) : cCall n F fs r = .ok (.val d) r1 := by
  cases nl : noL d with
  | true => exact call_go h h2 hf hn hF ⟨nl⟩
  | false => exact call_set h h2 hf hn hF nl hs
theorem lt_fuel {n : Nat} (h : n < 1000000000) : n < fuel := Nat.lt_of_lt_of_le h fuel_ge
end VH
namespace VH
end VH
namespace VH
theorem nx_to {f : Sv} {r r1 r2 : Rho} (h : f r = .nx r1) (h2 : r1 = r2) : f r = .nx r2 := by rw [← h2]; exact h
end VH
namespace VH
theorem augS_go {fa : Ev} {r r1 r2 : Rho} {i : Nat} {a c : Int} (h : r[i]? = some (some (.int a))) (h2 : fa r = .ok (.val (.int c)) r1) (h3 : r1.set i (some (.int (a - c))) = r2) : cAug i VL.gSub fa r = .nx r2 :=
  augG_go h rfl h2 (g2_ok rfl rfl rfl rfl) h3
theorem augM_go {fa : Ev} {r r1 r2 : Rho} {i : Nat} {a c : Int} (h : r[i]? = some (some (.int a))) (h2 : fa r = .ok (.val (.int c)) r1) (hm : mulOk a c = true) (h3 : r1.set i (some (.int (a * c))) = r2) : cAug i VL.gMul fa r = .nx r2 :=
  augG_go h rfl h2 (by rw [q_mulI, if_pos hm]) h3
theorem pop_go {r r2 : Rho} {i : Nat} {xs ys : List D} {d : D} (h : r[i]? = some (some (.node .lst true ys))) (e : ys = xs ++ [d]) (f : Fzs (xs ++ [d]) (xs ++ [d])) (h3 : r.set i (some (.node .lst true xs)) = r2) : cPop i r = .ok (.val d) r2 := by
  subst e
  rw [← h3]
  exact pop_fz h f.e
theorem lrev_go {fa : Ev} {r r1 : Rho} {o : Bool} {xs : List D} {x : R} {d : D} (h : fa r = .ok x r1) (ho : opd r1 x = some (.node .tup o (d :: xs))) (f : Fzs (d :: xs) (d :: xs)) (t : touch r1 x = r1) : cLRev fa r = .ok (.val (.node .lst true (d :: xs).reverse)) r1 :=
  lrev_ok (k := .tup) (o := o) (xs := d :: xs) h ho (.inr (.inr ⟨rfl, fun h => by cases h⟩)) f.e t
theorem lrevL_go {fa : Ev} {r r1 : Rho} {o : Bool} {xs : List D} {x : R} (h : fa r = .ok x r1) (ho : opd r1 x = some (.node .lst o xs)) (f : Fzs xs xs) (t : touch r1 x = r1) : cLRev fa r = .ok (.val (.node .lst true xs.reverse)) r1 :=
  lrev_ok (k := .lst) (o := o) (xs := xs) h ho (.inl rfl) f.e t
end VH
namespace VH
theorem frzs_reverse (xs : List D) : frzs xs.reverse = (frzs xs).reverse := by rw [frzs_map, frzs_map, List.map_reverse]
instance [h : Fzs xs ys] : Fzs xs.reverse ys.reverse := ⟨by rw [frzs_reverse, h.e]⟩
end VH
namespace VH
theorem nt_lst (o : Bool) (xs : List Nat) : D.node .lst o (xs.map nt) = .node .lst o ((xs.map fun x => ((x : Nat) : Int)).map .int) := by
  rw [List.map_map]; rfl
theorem cast_inj {xs ys : List Nat} : (xs.map fun x => ((x : Nat) : Int)) = (ys.map fun x => ((x : Nat) : Int)) ↔ xs = ys := by
  constructor
  · intro h
    have := congrArg (List.map Int.toNat) h
    simpa [List.map_map, Function.comp_def] using this
  · intro h; rw [h]
theorem neL (o o' : Bool) (xs ys : List Nat) : neD (L o xs) (L o' ys) = some (.bl (!decide (xs = ys))) := by
  rw [L, L, nt_lst, nt_lst, ne_lints]
  congr 3
  exact decide_eq_decide.mpr cast_inj
theorem eqL (o o' : Bool) (xs ys : List Nat) : eqD (L o xs) (L o' ys) = some (.bl (decide (xs = ys))) := by
  rw [L, L, nt_lst, nt_lst, eq_lints]
  congr 2
  exact decide_eq_decide.mpr cast_inj
section
variable {fa fl fh : Ev} {r r1 r2 r3 : Rho} {x : R} {k : Kd} {o : Bool} {xs xs' : List D} {i j : Int}
theorem cutD_ss (xs : List D) (h1 : 0 ≤ i) (h2 : 0 ≤ j) : VL.cutD xs (some i) (some j) = (xs.drop i.toNat).take (j.toNat - i.toNat) := by
  obtain ⟨a, rfl⟩ : ∃ a : Nat, i = a := ⟨i.toNat, by omega⟩
  obtain ⟨b, rfl⟩ : ∃ b : Nat, j = b := ⟨j.toNat, by omega⟩
  exact cutD_some xs a b
theorem cutD_ns (xs : List D) (h2 : 0 ≤ j) : VL.cutD xs none (some j) = xs.take j.toNat := by
  obtain ⟨b, rfl⟩ : ∃ b : Nat, j = b := ⟨j.toNat, by omega⟩
  exact cutD_to xs b
theorem cutD_sn (xs : List D) (h1 : 0 ≤ i) : VL.cutD xs (some i) none = xs.drop i.toNat := by
  obtain ⟨b, rfl⟩ : ∃ b : Nat, i = b := ⟨i.toNat, by omega⟩
  exact cutD_of xs b
theorem part_ok {f : Ev} {r r1 : Rho} {i : Int} {k : Option Int → Rho → EO} (h : f r = .ok (.val (.int i)) r1) : VL.part (some f) r k = k (some i) r1 := by
  show (f r).bd _ = _
  rw [h]
  rfl
theorem sl_ss (h : fa r = .ok x r1) (ho : opd r1 x = some (.node k o xs)) (hk : sq2 k = true) (f : Fzs xs xs') (h1 : fl r1 = .ok (.val (.int i)) r1) (h2 : fh r1 = .ok (.val (.int j)) r1) (t : touch r1 x = r2) (p1 : 0 ≤ i) (p2 : 0 ≤ j) : cSl fa (some fl) (some fh) r = .ok (.val (.node .lst true ((xs'.drop i.toNat).take (j.toNat - i.toNat)))) r2 := by
  rw [q_sl, h, bd_ok, part_ok h1, part_ok h2, q_gSl, ho]
  cases k <;> first | (cases hk; done) | (show EO.ok (.val (.node .lst true (VL.cutD (frzs xs) (some i) (some j)))) (touch r1 x) = _; rw [f.e, t, cutD_ss _ p1 p2])
theorem sl_ns (h : fa r = .ok x r1) (ho : opd r1 x = some (.node k o xs)) (hk : sq2 k = true) (f : Fzs xs xs') (h2 : fh r1 = .ok (.val (.int j)) r1) (t : touch r1 x = r2) (p2 : 0 ≤ j) : cSl fa none (some fh) r = .ok (.val (.node .lst true (xs'.take j.toNat))) r2 := by
  rw [q_sl, h, bd_ok, q_part0, part_ok h2, q_gSl, ho]
  cases k <;> first | (cases hk; done) | (show EO.ok (.val (.node .lst true (VL.cutD (frzs xs) none (some j)))) (touch r1 x) = _; rw [f.e, t, cutD_ns _ p2])
theorem sl_sn (h : fa r = .ok x r1) (ho : opd r1 x = some (.node k o xs)) (hk : sq2 k = true) (f : Fzs xs xs') (h1 : fl r1 = .ok (.val (.int i)) r1) (t : touch r1 x = r2) (p1 : 0 ≤ i) : cSl fa (some fl) none r = .ok (.val (.node .lst true (xs'.drop i.toNat))) r2 := by
  rw [q_sl, h, bd_ok, part_ok h1, q_part0, q_gSl, ho]
  cases k <;> first | (cases hk; done) | (show EO.ok (.val (.node .lst true (VL.cutD (frzs xs) (some i) none))) (touch r1 x) = _; rw [f.e, t, cutD_sn _ p1])
theorem pow_go {fb : Ev} {v : Int} (h1 : fa r = .ok (.val (.int i)) r1) (h2 : fb r1 = .ok (.val (.int j)) r2) (hp : powOk i j = true) (hv : i ^ j.toNat = v) : cBin gPow fa fb r = .ok (.val (.int v)) r2 := by
  rw [← hv]
  exact bin_ok h1 h2 (pow_ok i j hp r2)
theorem sum_go {ns : List Int} (h : fa r = .ok x r1) (ho : opd r1 x = some (.node .lst o (ns.map .int))) : cB (b1 VL.sumD) (cCons fa cNil) r = .ok (.val (.int ns.sum)) r1 := by
  refine b1_ok h ho ?_ rfl
  show (intsOf (ns.map D.int)).map _ = _
  rw [intsOf_map]; rfl
end
theorem lc_filt {fi : Iv} {v : Nat} {fc : Ev} {r r1 r0 : Rho} (ks : List Nat) (p : Nat → Bool) (hi : fi r = .ok (ks.map nt) r1) (h0 : r1.set v none = r0) (hv : r0[v]? = some none) (hl : ks.length < 16777216)
    (hs : ∀ k ∈ ks, fc (r0.set v (some (nt k))) = .ok (.val (.bl (p k))) (r0.set v (some (nt k)))) : cLc [v] (.nm v) fi (some fc) (cVar v) r = .ok (.val (L true (ks.filter p))) (backR r1 r0 [v]) := by
  have hv2 : v < r0.length := (List.getElem?_eq_some_iff.mp hv).1
  have hw : ∀ d : D, (r0.set v (some d)).set v none = r0 := fun d => by
    rw [List.set_set]
    refine List.ext_getElem? fun j => ?_
    by_cases hj : v = j
    · subst hj
      rw [List.getElem?_set_self hv2, hv]
    · rw [List.getElem?_set_ne hj]
  have e := lc_map (t := .nm v) (fc := some fc) (fe := cVar v) (vs := [v]) (ds := ks.map nt) (p := fun d => match d with | .int n => p n.toNat | _ => false) (q := id) hi h0 (by rw [List.length_map]; exact hl) fun d hd => by
    obtain ⟨k, hk, rfl⟩ := List.mem_map.mp hd
    refine ⟨r0.set v (some (nt k)), rfl, r0.set v (some (nt k)), ?_, hw _, fun _ => ⟨r0.set v (some (nt k)), ?_, hw _⟩⟩
    · exact hs k hk
    · exact set_val (cvar_at (List.getElem?_set_self hv2) rfl)
  rw [e, List.map_id, List.filter_map]
  rfl
theorem lcL_all {α : Type} {enc g : α → D} {t : Tg} {fe : Ev} {vs : List Nat} {r0 : Rho} : ∀ (xs : List α) (acc : List D), acc.length + xs.length < 16777216 →
    (∀ a ∈ xs, ∃ r2, tgt t (enc a) r0 = some r2 ∧ ∃ r3, cSet fe r2 = .ok (.val (g a)) r3 ∧ wipeR r3 vs = r0) → lcL t none fe vs (xs.map enc) acc r0 = .ok (acc ++ xs.map g) r0
  | [], acc, _, _ => by simp [lcL]
  | a :: xs, acc, hl, hs => by
    simp only [List.length_cons] at hl
    obtain ⟨r2, e1, r3, e2, e3⟩ := hs a List.mem_cons_self
    rw [List.map_cons]
    unfold lcL
    rw [e1]
    show (match cSet fe r2 with | .ok (.val e) r3 => if acc.length < 16777216 then lcL t none fe vs (xs.map enc) (acc ++ [e]) (wipeR r3 vs) else .bad | _ => LO.bad) = _
    rw [e2]
    show (if acc.length < 16777216 then lcL t none fe vs (xs.map enc) (acc ++ [g a]) (wipeR r3 vs) else LO.bad) = _
    rw [if_pos (by omega), e3, lcL_all xs (acc ++ [g a]) (by rw [List.length_append, List.length_singleton]; omega) (fun x hx => hs x (List.mem_cons_of_mem _ hx)), List.append_assoc]
    rfl
theorem lc_all {α : Type} {enc g : α → D} {fi : Iv} {t : Tg} {fe : Ev} {vs : List Nat} {r r1 r0 : Rho} (xs : List α) (hi : fi r = .ok (xs.map enc) r1) (h0 : wipeR r1 vs = r0) (hl : xs.length < 16777216)
    (hs : ∀ a ∈ xs, ∃ r2, tgt t (enc a) r0 = some r2 ∧ ∃ r3, cSet fe r2 = .ok (.val (g a)) r3 ∧ wipeR r3 vs = r0) : cLc vs t fi none fe r = .ok (.val (.node .lst true (xs.map g))) (backR r1 r0 vs) := by
  rw [q_lc, hi]
  show (match lcL t none fe vs (xs.map enc) [] (wipeR r1 vs) with | .ok acc r2 => EO.ok (.val (.node .lst true acc)) (backR r1 r2 vs) | .bad => .bad) = _
  rw [h0, lcL_all xs [] (by simpa using hl) hs]
  rfl
end VH

namespace VL
open PySem PySem.Spec PyProof PyProof.Rows L2
section
variable {X : Cx}
end
section
variable {X : Cx} {G : GX} {C : Fc} {W : WX} {ow ow' : Ow} {r : Rho} {T T1 T2 : List (D × V)} {s : L2.St} {H H' : Hp} {fa fb fc : Ev}
end
end VL

namespace VH
section
variable {fa fb fl fh : Ev} {fs : Av} {r r1 r2 r3 : Rho} {x : R} {d : D} {b : Bool} {i j : Int} {k : Kd} {o : Bool} {xs xs' : List D}
theorem isiC_go {c : Nat} {E : ETab} (h : fa r = .ok x r1) (ho : opd r1 x = some d) (hb : isi1 E d (.cls c) = some b) : cB (gIsi E) (cCons fa (cCons (cC (.cls c)) cNil)) r = .ok (.val (.bl b)) r1 := by
  rw [q_B, cons_ok h (cons_ok (cc_d _ _) (nil_ok r1)), q_abd1]
  show (match opd r1 x with | some d => (match isi1 E d (.cls c) with | some b => EO.ok (.val (.bl b)) r1 | none => .bad) | none => .bad) = _
  rw [ho]
  show (match isi1 E d (.cls c) with | some b => EO.ok (.val (.bl b)) r1 | none => .bad) = _
  rw [hb]
theorem it_rng3 {fc : Ev} {z : Int} (h : fa r = .ok (.val (.int i)) r1) (h2 : fb r1 = .ok (.val (.int j)) r2) (h3 : fc r2 = .ok (.val (.int z)) r3) (hc : (decide (z ≠ 0) && decide (z.natAbs < 1073741824) && Builtin.Range.small i j z) = true) : iRng rngI3 (cCons fa (cCons fb (cCons fc cNil))) r = .ok (rngD i z (turns i j z)) r3 := by
  rw [q_iRng, cons_ok h (cons_ok h2 (cons_ok h3 (nil_ok r3)))]
  show (if (decide (z ≠ 0) && decide (z.natAbs < 1073741824) && Builtin.Range.small i j z) = true then IO.ok (rngD i z (turns i j z)) r3 else .bad) = _
  rw [if_pos hc]
theorem try_go {tb : Nat → Option Bool} {f g : Sv} {c jj : Nat} (h : f r = .exc c r1) (ht : tb c = some true) (h0 : r1.set jj (some (.exc c)) = r2) (h2 : g r2 = .nx r3) {r4 : Rho} (h3 : r3.set jj none = r4) : cTry tb (some jj) f g r = .nx r4 := by
  rw [q_try, h]
  show (match tb c with | some true => inClause (some jj) (g (putE (some jj) c r1)) | some false => SO.exc c r1 | none => SO.bad) = _
  rw [ht]
  show inClause (some jj) (g (r1.set jj (some (.exc c)))) = _
  rw [h0, h2]
  show SO.nx (r3.set jj none) = _
  rw [h3]
theorem try_no {tb : Nat → Option Bool} {f g : Sv} {jj : Option Nat} (h : f r = .nx r1) : cTry tb jj f g r = .nx r1 := by
  rw [q_try, h]
end
end VH
namespace VH
end VH
namespace VH
theorem ixA_go {fa fb : Ev} {r r1 r2 : Rho} {x : R} {k : Kd} {o : Bool} {xs : List D} {n : Int} {d : D} (h : fa r = .ok x r1) (h2 : fb r1 = .ok (.val (.int n)) r2) (ho : opd r2 x = some (.node k o xs)) (hk : sq3 k = true) (hd : atI xs n = some d) (a : atom d = true) : cBin gIx fa fb r = .ok (.val d) r2 := by
  refine bin_ok h h2 ?_
  have z : gIx x (.val (.int n)) r2 = pick r2 x d := by
    rw [q_ix, ho]
    cases k <;> first | (cases hk; done) | (show (match atI xs n with | some d => pick r2 x d | none => EO.bad) = _; rw [hd])
  rw [z, q_pick, if_pos a]
theorem mulL_go {fa fb : Ev} {r r1 r2 : Rho} {o : Bool} {xs xs' : List D} {n : Int} (h : fa r = .ok (.val (.node .lst o xs)) r1) (h2 : fb r1 = .ok (.val (.int n)) r2) (f : Fzs xs xs') (h0 : 0 ≤ n) (h1 : n < 1000000) (hl : xs.length * n.toNat ≤ 16777216) : cBin gMul fa fb r = .ok (.val (.node .lst true (List.replicate n.toNat xs').flatten)) r2 := by
  refine bin_ok h h2 ?_
  rw [q_mulL ⟨h0, by omega, hl⟩, f.e]
end VH

namespace L2
open PySem PySem.Spec PyProof.Rows
section
variable {P : Program} {w : World} {A : Around} {E : Value → Shared → Prop} {s : Shared}
end
section
variable {X : Cx}
end
end L2
namespace VL
open PySem PySem.Spec PyProof.Rows L2
section
variable {X : Cx} {G : GX} {C : Fc} {W : WX} {ow ow' : Ow} {r : Rho} {T T1 T2 : List (D × V)} {s : L2.St} {H H' : Hp} {fa fb fc : Ev}
end
end VL

namespace L2
open PySem PySem.Spec PyProof.Rows
section
variable {X : Cx} {CX : CXT} {k : Nat} {f C : Addr} {fd : FuncData} {ps : List Str} {sp : Sp} {E : L2.St → XK} {x m : Str} {p pos apos : Pos} {e o : Expr} {es : List Expr} {ta : TE} {t : TA}
end
end L2
namespace VL
open PySem PySem.Spec PyProof.Rows L2
section
variable {P : Program} {w : World} {K : PySem.W.Frag} {mg : Str → Option Value} {base : Heap} {G : GX}
end
section
variable {X : Cx} {G : GX} {C : Fc} {W : WX} {ow ow' : Ow} {r : Rho} {T T1 T2 : List (D × V)} {s : L2.St} {H H' : Hp} {fa fo : Ev} {fs : Av}
variable {fb fd fk fz : Ev}
end
end VL
namespace VH
section
variable {fa fb fo fk fz fd : Ev} {fs : Av} {r r1 r2 r3 : Rho} {x : R} {d e : D}
end
end VH

namespace LamY
open PySem PySem.Spec PyProof.Rows L2 LamX
section
variable {X : Cx} {pins : List (Addr × Obj)} {σ : L2.St} {H : Hp} {s : Shared}
end
end LamY

namespace LamY
open PySem PySem.Spec PySem.Calls PySem.W PyProof.Rows L2 LamX SrtO
section
variable {prog : Program} {w : World} {A : Around} {E : Value → Shared → Prop} {s : Shared} {a kS : Addr} {keys : Array Value} {e e1 : Nat} {P : PySem.Fin → Shared → Prop} {vs : List Value} {k : Value → List Int}
end
end LamY

namespace LamY
open PySem PySem.Spec PySem.Calls PySem.W PyProof.Rows L2 LamX SrtO
section
variable {X : Cx} {pins pins' : List (Addr × Obj)} {σ : L2.St} {H : Hp} {s : Shared}
end
section
variable {X : Cx} {pins : List (Addr × Obj)} {σ : L2.St} {H1 : Hp} {s : Shared}
end
end LamY

namespace LamY
open PySem PySem.Spec PySem.Calls PySem.W PyProof.Rows L2 LamX SrtO
section
variable {X : Cx} {pins : List (Addr × Obj)} {σ : L2.St} {H : Hp} {s : Shared}
end
end LamY

namespace LamY
open PySem PySem.Spec PySem.Calls PySem.W PyProof.Rows L2 LamX SrtO
section
variable {X : Cx} {pins : List (Addr × Obj)} {σ : L2.St} {H1 : Hp} {s : Shared}
end
end LamY
namespace VL
open PySem PySem.Spec PySem.Calls PySem.W PyProof.Rows L2 LamX LamY
section
variable {X : Cx} {G : GX} {C : Fc} {W : WX} {ow ow' : Ow} {r : Rho} {T T1 T2 : List (D × V)} {s : L2.St} {H H' : Hp} {fa fe fk : Ev}
end
end VL

namespace VL
open PySem PySem.Spec PyProof.Rows L2 LamX LamY
structure FunC (K : PySem.W.Frag) (x qual : Str) (st : Stmt) (f : Addr) (fd : FuncData) (cdv : Value) : Prop where
  ex : ∃ (oc : Value) (od : Option Addr) (kV doc pm : Value) (an : Option Addr) (ct : Value) (osl : Array (Option Value)),
    fd = PySem.W.fnOf x qual (defArgs st) (defBody st) (defScope st) .none kV doc pm an cdv ct ∧ K.lookup f = some ⟨oc, od, .func fd, osl⟩ ∧ PySem.W.codeIn K cdv qual = true
  kp : PySem.W.keepIn K (.ref f) = true
section
variable {P : Program} {w : World} {K : PySem.W.Frag} {mg : Str → Option Value} {base : Heap} {G : GX}
theorem FunC.fn {x qual : Str} {st : Stmt} {f : Addr} {fd : FuncData} {cdv : Value} (F : FunC K x qual st f fd cdv) : Fun K x qual st f fd := by
  obtain ⟨oc, od, kV, doc, pm, an, ct, osl, e, lk, hcd⟩ := F.ex
  exact ⟨⟨oc, od, kV, doc, pm, an, cdv, ct, osl, e, lk, hcd⟩, F.kp⟩
theorem FunC.okX {x qual : Str} {st : Stmt} {f : Addr} {fd : FuncData} {N ps : List Str} {k : Nat} {sp : Sp} {cdv : Value} (F : FunC K x qual st f fd cdv) (S : FnScope N ps (defScope st)) (len : ∀ vs H Q E, sp vs H Q E → vs.length = ps.length)
    (hbody : ∀ (A : Around) (outer : List Env) (s : Shared) (H : Hp) (vs : List V) (Q : VK) (E : XK), Room k (A.deeper (envOfC qual (defScope st) s.heap.objs.size f cdv)) → sp vs H Q E →
      ∃ t, PSs (cxOf (L2.CX P w) P w K mg base N qual (defScope st) f cdv A outer s H E) (defBody st) t ∧ t { nx := fun _ H' => Q .non H', rt := Q } (start N vs) H) : FnOk P w K mg base (L2.CX P w) (k + 1) f fd ps sp := by
  obtain ⟨oc, od, kV, doc, pm, an, ct, osl, rfl, lk, hcd⟩ := F.ex
  exact fn_of lk hcd S len fun A outer s H vs Q E hr hsp => hbody A outer s H vs Q E hr hsp
end
end VL

namespace VL
open PySem PySem.Spec PyProof.Rows L2
section
variable {X : Cx}
end
end VL

namespace VL
open PySem PySem.Spec PyProof.Rows L2
section
variable {X : Cx} {G : GX} {C : Fc} {W : WX} {ow : Ow} {r : Rho} {T : List (D × V)} {s : L2.St} {H : Hp} {fk f1 f2 ft : Ev}
end
end VL

namespace VL
open PySem PySem.Spec PyProof.Rows L2
section
variable {X : Cx} {G : GX} {C : Fc} {W : WX} {ow ow' : Ow} {r : Rho} {T T1 T2 : List (D × V)} {s : L2.St} {H H' : Hp} {fa : Ev}
end
end VL

namespace VL
open PySem PySem.Spec PyProof.Rows L2
section
variable {X : Cx} {G : GX} {C C' : Fc} {W : WX} {ow ow' : Ow} {r : Rho} {T T1 T2 : List (D × V)} {s : L2.St} {H H' : Hp} {fa fk : Ev}
def scV : D → V
  | .int i => .int i
  | .bl b => .bl b
  | .str x => .str x
  | _ => .non
theorem rep_sc {d : D} {l : Loc} {v : V} (a : scal d = true) (h : Rep G ow H d l v) : v = scV d := by
  cases d with
  | int _ => exact h
  | bl _ => exact h
  | non => exact h
  | str _ => exact h
  | _ => cases a
theorem sc_rep {d : D} {l : Loc} (a : scal d = true) : Rep G ow H d l (scV d) := by
  cases d with
  | int _ => rfl
  | bl _ => rfl
  | non => rfl
  | str _ => rfl
  | _ => cases a
theorem sc_reps : ∀ {ds : List D} {l : Loc} {i : Nat}, ds.all scal = true → Reps G ow H ds l i (ds.map scV)
  | [], l, i, _ => rfl
  | d :: ds, l, i, a => by
    rw [List.all_cons, Bool.and_eq_true] at a
    exact ⟨scV d, ds.map scV, rfl, sc_rep a.1, sc_reps a.2⟩
def Fc.lk (C : Fc) (H : Hp) (ow : Ow) (i : Nat) (a : Addr) : Fc := ⟨H, fun b => ∃ l, ow b = some l ∧ l.b ≠ .fo ∧ b ≠ a, C.fo, (i, .ref a) :: (i, .ref a) :: C.pin⟩
mutual
theorem Rep.unlk {G : GX} {H H' : Hp} {ow ow' : Ow} {a : Addr} {od : Obj} {kvs : List (L2.Key × V)} (hne : ∀ b, b ≠ a → H' b = H b) (how : ∀ b, b ≠ a → ow' b = ow b) (ha : H a = some (.frz od (.dK kvs))) : ∀ (d : D) {l : Loc} {v : V}, Rep G ow H d l v → Rep G ow' H' d l v
  | .any, _, _, _ => trivial
  | .non, _, _, h => h
  | .bl _, _, _, h => h
  | .int _, _, _, h => h
  | .str _, _, _, h => h
  | .exc c, _, _, h => by
    obtain ⟨b, e, q⟩ := h
    have nb : b ≠ a := fun z => by subst z; rw [ha] at q; cases q
    exact ⟨b, e, by rw [hne b nb]; exact q⟩
  | .ty _, _, _, h => h
  | .cls _, _, _, h => h
  | .node k o xs, l, v, h => by
    obtain ⟨b, vs, ev, h1, h2, h3⟩ := h
    have h3' := Reps.unlk hne how ha xs h3
    cases k with
    | lst =>
      have h1 : H b = some (.lst vs) := h1
      have nb : b ≠ a := fun z => by subst z; rw [ha] at h1; cases h1
      exact ⟨b, vs, ev, (hne b nb).trans h1, by rw [how b nb]; exact h2, h3'⟩
    | tup =>
      have h1 : H b = some (.tup vs) := h1
      have nb : b ≠ a := fun z => by subst z; rw [ha] at h1; cases h1
      exact ⟨b, vs, ev, (hne b nb).trans h1, by rw [how b nb]; exact h2, h3'⟩
    | rd =>
      refine ⟨b, vs, ev, ?_, trivial, h3'⟩
      rcases h1 with ⟨o2, h1⟩ | h1
      · have nb : b ≠ a := fun z => by subst z; rw [ha] at h1; cases h1
        exact .inl ⟨o2, (hne b nb).trans h1⟩
      · exact .inr h1
    | dK ks =>
      obtain ⟨h1, h4⟩ : H b = some (.dK (ks.zip vs)) ∧ ks.length = vs.length := h1
      have nb : b ≠ a := fun z => by subst z; rw [ha] at h1; cases h1
      exact ⟨b, vs, ev, ⟨(hne b nb).trans h1, h4⟩, by rw [how b nb]; exact h2, h3'⟩
    | dT ks =>
      obtain ⟨h1, h4⟩ : H b = some (.dT (ks.zip vs)) ∧ ks.length = vs.length := h1
      have nb : b ≠ a := fun z => by subst z; rw [ha] at h1; cases h1
      exact ⟨b, vs, ev, ⟨(hne b nb).trans h1, h4⟩, by rw [how b nb]; exact h2, h3'⟩
    | ins c fs =>
      obtain ⟨⟨dx, h1⟩, h4⟩ : (∃ dx, H b = some (.ins (G c) dx (fs.zip vs))) ∧ fs.length = vs.length := h1
      have nb : b ≠ a := fun z => by subst z; rw [ha] at h1; cases h1
      exact ⟨b, vs, ev, ⟨⟨dx, (hne b nb).trans h1⟩, h4⟩, by rw [how b nb]; exact h2, h3'⟩
theorem Reps.unlk {G : GX} {H H' : Hp} {ow ow' : Ow} {a : Addr} {od : Obj} {kvs : List (L2.Key × V)} (hne : ∀ b, b ≠ a → H' b = H b) (how : ∀ b, b ≠ a → ow' b = ow b) (ha : H a = some (.frz od (.dK kvs))) : ∀ (ds : List D) {l : Loc} {i : Nat} {vs : List V}, Reps G ow H ds l i vs → Reps G ow' H' ds l i vs
  | [], _, _, _, h => h
  | d :: ds, _, _, _, h => by
    obtain ⟨v, ws, e, h1, h2⟩ := h
    exact ⟨v, ws, e, Rep.unlk hne how ha d h1, Reps.unlk hne how ha ds h2⟩
end
end
end VL

namespace VL
open PySem PySem.Spec PyProof.Rows L2
section
variable {X : Cx} {G : GX} {C C' : Fc} {W : WX} {ow ow' : Ow} {r : Rho} {T T1 T2 : List (D × V)} {s : L2.St} {H H' : Hp} {fa fk : Ev}
end
section
variable {X : Cx} {G : GX} {C C' : Fc} {W : WX} {ow ow' : Ow} {r : Rho} {T T1 T2 : List (D × V)} {s : L2.St} {H H' : Hp} {fa fk : Ev}
end
end VL

namespace VL
open PySem PySem.Spec PyProof.Rows L2
section
variable {X : Cx} {G : GX} {C C' : Fc} {W : WX} {ow ow' : Ow} {r : Rho} {T T1 T2 : List (D × V)} {s : L2.St} {H H' : Hp} {fa fk : Ev}
end
end VL

namespace VL
open PySem PySem.Spec PyProof.Rows L2
section
variable {X : Cx} {G : GX} {C C' : Fc} {W : WX} {ow ow' : Ow} {r : Rho} {T T1 T2 : List (D × V)} {s : L2.St} {H H' : Hp} {fa fb fc fk fv : Ev} {fs : Av} {f g : Sv}
def gRv (r : Rho) (xs : List R) : IO := match xs with
  | [.val (.node .lst _ ds)] => .ok (frzs ds).reverse r
  | _ => .bad
def augIK (i : Nat) (c : Int) (f : Int → Int → Int) (y : R) (r1 : Rho) : SO := match opd r1 y, r1[i]? with
  | some (.int k), some (some (.node .lst true ds)) => (match ixN ds.length k with
    | some j => (match ds[j]? with
      | some (.int n) => .nx (r1.set i (some (.node .lst true (ds.set j (.int (f n c))))))
      | _ => .bad)
    | none => .bad)
  | _, _ => .bad
theorem StW.dtm {ks ks' : List L2.Key} {xs xs' : List D} {a : Addr} (S : StW G C ow r (T ++ [(.node (.dK ks) true xs, .ref a)]) s H) (hl : ks'.length = xs'.length) (hx : xs'.all scal = true) :
    ∃ vs, H a = some (.dK (ks.zip vs)) ∧ ks.length = vs.length ∧ Reps G ow H xs ⟨.tm T.length, []⟩ 0 vs ∧ ow a = some ⟨.tm T.length, []⟩ ∧ StW G C ow r (T ++ [(.node (.dK ks') true xs', .ref a)]) s (upd H a (.dK (ks'.zip (xs'.map scV)))) := by
  have z0 := S.tm T.length (.node (.dK ks) true xs) (.ref a) (by simp)
  obtain ⟨a', vs, ev, h1, h2, h3⟩ := z0
  cases ev
  obtain ⟨h1, hkl⟩ : H a = some (.dK (ks.zip vs)) ∧ ks.length = vs.length := h1
  have h2 : ow a = some ⟨.tm T.length, []⟩ := by simpa [OwnAt] using h2
  have ne : ∀ (b : Addr) (l : Loc), ow b = none ∨ (∃ q, ow b = some (l.app q)) → l.b ≠ .tm T.length → b ≠ a := fun b l hb hl e => by
    subst e
    rw [h2] at hb
    rcases hb with hb | ⟨q, hb⟩
    · cases hb
    · have hb := Option.some.inj hb
      unfold Loc.app at hb
      injection hb with e1 e2
      exact hl e1.symm
  have exn : ∀ (b : Addr) (o : HO), H b = some o → ¬ OwnO (some o) → upd H a (.dK (ks'.zip (xs'.map scV))) b = some o := fun b o z n => by
    rw [upd_ne (fun e => by rw [e, h1] at z; cases z; exact n trivial)]; exact z
  refine ⟨vs, h1, hkl, h3, h2, S.len, fun i d' q => ?_, fun n d' v' q => ?_, fun b o n q => ?_, fun b l q => S.own b l q, fun b q => S.fo b q, fun b l q => ?_, S.pin, tabs_own S.tabs h1 trivial⟩
  · obtain ⟨v', z1, z2⟩ := S.sl i d' q
    exact ⟨v', z1, Rep.mono (l := ⟨.sl i, []⟩) d' (fun b o z y => by rw [upd_ne (ne b ⟨.sl i, []⟩ y (fun z => nomatch z))]; exact .inl z) (fun b o z n => .inl (exn b o z n)) (fun a o _ n => n) (fun a o q _ n => n) z2⟩
  · by_cases hj : n < T.length
    · rw [List.getElem?_append_left hj] at q
      have z := S.tm n d' v' (by rw [List.getElem?_append_left hj]; exact q)
      exact Rep.mono (l := ⟨.tm n, []⟩) d' (fun b o z y => by rw [upd_ne (ne b ⟨.tm n, []⟩ y (fun z => by injection z with z; omega))]; exact .inl z) (fun b o z n => .inl (exn b o z n)) (fun a o _ n => n) (fun a o q _ n => n) z
    · rw [List.getElem?_append_right (by omega)] at q
      have e : n = T.length := by
        have := (List.getElem?_eq_some_iff.mp q).1
        simp at this; omega
      subst e
      simp at q
      obtain ⟨e1, e2⟩ := q
      subst e1; subst e2
      refine ⟨a, xs'.map scV, rfl, ⟨upd_same, by rw [List.length_map]; exact hl⟩, .mk ?_, sc_reps hx⟩
      rw [h2]; simp
  · by_cases hb : b = a
    · subst hb
      have z := S.old b o n q
      rcases S.own b _ h2 with z2 | z2 | z2
      · cases z2
      · rw [z2] at q; cases q
      · exact absurd z2 n
    · rw [upd_ne hb]; exact S.old b o n q
  · by_cases hb : b = a
    · subst hb; rw [upd_same]; trivial
    · rw [upd_ne hb]; exact S.mu b l q
def putP (q : List L2.Key × List D) (p : L2.Key × D) : List L2.Key × List D := match dix q.1 p.1 with
  | some j => (q.1, q.2.set j p.2)
  | none => (q.1 ++ [p.1], q.2 ++ [p.2])
structure DOk (q : List L2.Key × List D) : Prop where
  nd : q.1.Nodup
  ln : q.1.length = q.2.length
  sc : q.2.all scal = true
theorem all_set {xs : List D} {d : D} {j : Nat} (h : xs.all scal = true) (hd : scal d = true) : (xs.set j d).all scal = true := by
  rw [List.all_eq_true] at *
  intro x hx
  rcases List.mem_or_eq_of_mem_set hx with z | z
  · exact h x z
  · rw [z]; exact hd
theorem DOk.put {q : List L2.Key × List D} {k : L2.Key} {d : D} (h : DOk q) (hd : scal d = true) : DOk (putP q (k, d)) ∧ putK (q.1.zip (q.2.map scV)) k (scV d) = (putP q (k, d)).1.zip ((putP q (k, d)).2.map scV) := by
  have hl : q.1.length = (q.2.map scV).length := by rw [List.length_map]; exact h.ln
  unfold putP
  cases e : dix q.1 k with
  | some j =>
    refine ⟨⟨h.nd, by show q.1.length = (q.2.set j d).length; rw [List.length_set]; exact h.ln, all_set h.sc hd⟩, ?_⟩
    rw [put_some hl h.nd e]
    show _ = q.1.zip ((q.2.set j d).map scV)
    rw [List.map_set]
  | none =>
    refine ⟨⟨?_, by show (q.1 ++ [k]).length = (q.2 ++ [d]).length; simp [h.ln], ?_⟩, ?_⟩
    · show (q.1 ++ [k]).Nodup
      rw [List.nodup_append]
      refine ⟨h.nd, by simp, fun a ha b hb e2 => ?_⟩
      rw [List.mem_singleton.mp hb] at e2
      exact dix_none.mp e (e2 ▸ ha)
    · show (q.2 ++ [d]).all scal = true
      rw [List.all_append, h.sc]
      simp [hd]
    · rw [put_none hl e]
      show _ = (q.1 ++ [k]).zip ((q.2 ++ [d]).map scV)
      rw [List.map_append]
      rfl
theorem merge_P : ∀ (acc : List (L2.Key × D)) (q : List L2.Key × List D), DOk q → (∀ p ∈ acc, scal p.2 = true) → DOk (acc.foldl putP q) ∧ mergeK (q.1.zip (q.2.map scV)) (acc.map fun p => (p.1, scV p.2)) = (acc.foldl putP q).1.zip ((acc.foldl putP q).2.map scV)
  | [], q, h, _ => ⟨h, rfl⟩
  | (k, d) :: acc, q, h, hs => by
    obtain ⟨h1, h2⟩ := h.put (k := k) (hs (k, d) List.mem_cons_self)
    obtain ⟨h3, h4⟩ := merge_P acc (putP q (k, d)) h1 fun p hp => hs p (List.mem_cons_of_mem _ hp)
    refine ⟨h3, ?_⟩
    show mergeK (putK (q.1.zip (q.2.map scV)) k (scV d)) (acc.map fun p => (p.1, scV p.2)) = _
    rw [h2]
    exact h4
def mkD (acc : List (L2.Key × D)) : D := .node (.dK (acc.foldl putP ([], [])).1) true (acc.foldl putP ([], [])).2
def dispE : List (Ev × Ev) → List (L2.Key × D) → Ev
  | [], acc => fun r => if acc.length ≤ 15 then .ok (.val (mkD acc)) r else .bad
  | (fk, fv) :: ps, acc => fun r => (fk r).bd fun y r1 => match y with
    | .val kd => (match keyD kd with
      | some k => (fv r1).bd fun z r2 => match z with
        | .val d => if scal d = true then dispE ps (acc ++ [(k, d)]) r2 else .bad
        | _ => .bad
      | none => .bad)
    | _ => .bad
def cDDisp (ps : List (Ev × Ev)) : Ev := dispE ps []
theorem disp_walk {a : Addr} {Q : VK} : ∀ (ps : List (Ev × Ev)) (acc : List (L2.Key × D)) (r : Rho) (H : Hp) (K : List (V × V) → Hp → Prop), (∀ p ∈ acc, scal p.2 = true) → StOk G C r (T ++ [(.node (.dK []) true [], .ref a)]) s H → Goes G C W T s Q (dispE ps acc r) →
    (∀ qs H2, (H2 a = some (.dK []) ∧ ∃ kvs : List (L2.Key × V), (acc.map fun p => (kV p.1, scV p.2)) ++ qs = kvs.map (fun kv => (kV kv.1, kv.2)) ∧ kvs.length ≤ 15 ∧ Q (.ref a) (upd H2 a (.dK (mergeK [] kvs)))) → K qs H2) →
    tPairs (ps.map fun q => (tV G C W q.1, tV G C W q.2)) s H K
  | [], acc, r, H, K, hs, S, g, hk => by
    have g : Goes G C W T s Q (if acc.length ≤ 15 then .ok (.val (mkD acc)) r else .bad) := g
    by_cases hl : acc.length ≤ 15
    · rw [if_pos hl] at g
      obtain ⟨ow, S⟩ := S
      obtain ⟨hD, hm⟩ := merge_P acc ([], []) ⟨List.nodup_nil, rfl, rfl⟩ hs
      obtain ⟨vs, h1, h2, _, _, S2⟩ := S.dtm (ks' := (acc.foldl putP ([], [])).1) (xs' := (acc.foldl putP ([], [])).2) hD.ln hD.sc
      have h1 : H a = some (.dK []) := h1
      refine hk [] H ⟨h1, acc.map fun p => (p.1, scV p.2), by rw [List.append_nil, List.map_map]; rfl, by rw [List.length_map]; exact hl, ?_⟩
      have hm : mergeK [] (acc.map fun p => (p.1, scV p.2)) = (acc.foldl putP ([], [])).1.zip ((acc.foldl putP ([], [])).2.map scV) := hm
      rw [hm]
      exact g _ _ ⟨⟨_, S2⟩, trivial⟩
    · rw [if_neg hl] at g
      exact g.elim
  | (fk, fv) :: ps, acc, r, H, K, hs, S, g, hk => by
    have g : Goes G C W T s Q ((fk r).bd fun y r1 => match y with
      | .val kd => (match keyD kd with
        | some k => (fv r1).bd fun z r2 => match z with
          | .val d => if scal d = true then dispE ps (acc ++ [(k, d)]) r2 else .bad
          | _ => .bad
        | none => .bad)
      | _ => .bad) := g
    refine ⟨r, _, S, ?_⟩
    dsimp only
    cases e1 : fk r with
    | bad => rw [e1] at g; exact g.elim
    | exc c r1 =>
      rw [e1] at g
      intro H' S'
      exact g H' (StOk.drop S')
    | ok y r1 =>
      rw [e1] at g
      intro u H1 P1
      cases y with
      | loc i => exact g.elim
      | val kd =>
        simp only [bd_ok] at g
        cases ek : keyD kd with
        | none => rw [ek] at g; exact g.elim
        | some k =>
          rw [ek] at g
          obtain ⟨ow1, S1⟩ := P1.1
          have eu : u = kV k := keyD_rep ek (StW.last (T := T ++ [(.node (.dK []) true [], .ref a)]) (d := kd) S1)
          refine ⟨r1, T ++ [(.node (.dK []) true [], .ref a)], ⟨ow1, StW.drop (T2 := pushR (.val kd) u) S1⟩, ?_⟩
          dsimp only
          cases e2 : fv r1 with
          | bad => simp only [e2] at g; exact g.elim
          | exc c r2 =>
            simp only [e2] at g
            intro H' S'
            exact g H' (StOk.drop (T2 := [(D.node (.dK []) true [], V.ref a)]) S')
          | ok z r2 =>
            simp only [e2] at g
            intro w H2 P2
            cases z with
            | loc i => exact g.elim
            | val d =>
              simp only [bd_ok] at g
              by_cases hd : scal d = true
              · rw [if_pos hd] at g
                obtain ⟨ow2, S2⟩ := P2.1
                have ew : w = scV d := rep_sc hd (StW.last (T := T ++ [(.node (.dK []) true [], .ref a)]) (d := d) S2)
                refine disp_walk ps (acc ++ [(k, d)]) r2 H2 _ (fun p hp => ?_) ⟨ow2, StW.drop (T2 := pushR (.val d) w) S2⟩ g fun qs H3 h3 => hk ((u, w) :: qs) H3 ?_
                · rcases List.mem_append.mp hp with hp | hp
                  · exact hs p hp
                  · rw [List.mem_singleton.mp hp]; exact hd
                · rw [List.map_append, List.append_assoc] at h3
                  rw [eu, ew]
                  exact h3
              · rw [if_neg hd] at g
                exact g.elim
theorem ve_disp {keys : List (Option Expr)} {values : List Expr} {ps : List (Ev × Ev)} {pos : Pos} (h : PPs X pos keys values (ps.map fun q => (tV G C W q.1, tV G C W q.2))) (hall : keys.all (·.isSome) = true := by rfl) (hl : keys.length = values.length := by rfl) (h0 : keys ≠ [] := by decide) (h15 : keys.length ≤ 15 := by decide) :
    VE X G C W (.Dict keys values pos) (cDDisp ps) := by
  refine PE.imp (pe_disp h hall hl h0 h15) fun s H Q q => ?_
  obtain ⟨r, T, S, g⟩ := q
  intro p hp
  obtain ⟨ow, S⟩ := S
  have S1 : StOk G C r (T ++ [(.node (.dK []) true [], .ref p)]) s (upd H p (.dK [])) := StOk.alloc (k := .dK []) (ds := []) (vs := []) true ⟨ow, by simpa using S⟩ rfl hp ⟨upd_same, rfl⟩ (fun _ => trivial)
  refine disp_walk ps [] r _ _ (fun p hp => by cases hp) S1 g fun qs H2 h2 => ?_
  simpa using h2
end
end VL

namespace VL
open PySem PySem.Spec PyProof.Rows L2
section
variable {prog : Program} {w : World} {A : Around} {E : Value → Shared → Prop} {s : Shared}
end
section
variable {X : Cx} {G : GX} {C : Fc} {W : WX} {ow ow' : Ow} {r : Rho} {T T1 T2 : List (D × V)} {s : L2.St} {H H' : Hp}
end
end VL

namespace VL
open PySem PySem.Spec PyProof.Rows L2
section
variable {X : Cx} {G : GX} {C C' : Fc} {W : WX} {ow ow' : Ow} {r : Rho} {T T1 T2 : List (D × V)} {s : L2.St} {H H' : Hp} {fa fb fc fk : Ev} {fs : Av} {f g : Sv} {i j n : Nat}
def cRvs (i : Nat) : Ev := fun r => match r[i]? with
  | some (some (.node .lst true ds)) => .ok (.val .non) ((r.set i (some (.node .lst true (frzs ds)))).set i (some (.node .lst true (frzs ds).reverse)))
  | _ => .bad
def HbOk (G : GX) (C : Fc) (i j n : Nat) (r : Rho) (T : List (D × V)) (s : L2.St) (H : Hp) : Prop :=
  StOk G C r T s H ∧ ∃ (a : Addr) (vs : List V) (v : V), s[i]? = some (some (.ref a)) ∧ H a = some (.lst vs) ∧ vs[n]? = some v ∧ s[j]? = some (some v)
def GoesB (G : GX) (C : Fc) (T : List (D × V)) (D : Ends) (i j n : Nat) (o : SO) : Prop := match o with
  | .nx r' => ∀ s' H', HbOk G C i j n r' T s' H' → D.nx s' H'
  | _ => False
def tVB (G : GX) (C : Fc) (i j n : Nat) (f : Sv) : TS := fun D s H => ∃ r T, HbOk G C i j n r T s H ∧ GoesB G C T D i j n (f r)
abbrev VB (X : Cx) (G : GX) (C : Fc) (i j : Nat) (st : Stmt) (f : Sv) : Prop := ∀ n, PS X st (tVB G C i j n f)
def cAppH (i : Nat) (fa : Ev) : Sv := fun r => match r[i]? with
  | some (some (.node .lst true ds)) => (match cSet fa (r.set i (some .any)) with
    | .ok (.val d) r2 => if ds.length < 16777216 then .nx (r2.set i (some (.node .lst true (ds ++ [d])))) else .bad
    | _ => .bad)
  | _ => .bad
theorem vb_app {x : Str} {e : Expr} {p apos cpos pos : Pos} (hN : X.N[i]? = some x) (hv : Vis X.env.scope x) (hd : (x == ("__debug__" : Str)) = false) (hcd : (x == ("__classdict__" : Str)) = false)
    (ha : ∀ C' : Fc, (∃ u v, C'.pin = (i, v) :: (i, u) :: C.pin) → VE X G C' W e fa)
    (hbase : attributeBase (.Name x p) "append" X.env (eval (.Name x p) X.env) = eval (.Name x p) X.env := by rfl)
    (hfew : ((backTo cpos (starEach [e] X.env)).all (fun x => !x.1) && (backToKw cpos (keywordEach [] X.env)).all (fun x => x.1.isSome)
      && decide ([e].length + ([] : List Keyword).length + (if ([] : List Keyword).isEmpty then 0 else 1) < 30)) = true := by rfl)
    (hline : (apos.endLine == cpos.line) = true := by rfl) (hs : starEach [e] X.env = (false, eval e X.env) :: starEach [] X.env := by rfl) (hplain : (backTo cpos (starEach [] X.env)).any (·.1) = false := by rfl)
    (hsw : swapsWith (.Call (.Attribute (.Name x p) "append" apos) [e] [] cpos) none pos.line X.env = pure false := by rfl) :
    VB X G C i j (.Expr (.Call (.Attribute (.Name x p) "append" apos) [e] [] cpos) pos) (cAppH i fa) := fun n => by
  have he : PE X e (fun s H Q => ∃ C' : Fc, (∃ u v, C'.pin = (i, v) :: (i, u) :: C.pin) ∧ tV G C' W (cSet fa) s H Q) := ⟨fun pins s σ H Q I w => by
    obtain ⟨C', e', w⟩ := w
    exact (ve_set (ha C' e')).run pins s σ H Q I w⟩
  refine PS.imp (ps_expr (pe_bm PySem.F.plainAttrs_list PySem.F.slot_list_append PySem.F.type_list_append mt_append (pe_var hN hv hd hcd) (pa_cons he pa_nil hs) hbase hfew hline hs hplain) hsw) fun D s H h => ?_
  obtain ⟨r, T, ⟨S, a, vs, v, v1, hA, hn, hj⟩, g⟩ := h
  unfold cAppH at g
  split at g
  · rename_i ds q
    obtain ⟨ow, S0⟩ := S
    have hkr : isR Kd.lst ≠ true := fun z => nomatch z
    have hH : Holds G H a .lst vs := hA
    have one : ∀ {H : Hp} {us : List V}, Holds G H a .lst vs → Holds G H a .lst us → us = vs := fun {H us} h1 h2 => by
      have h1 : H a = some (.lst vs) := h1
      have h2 : H a = some (.lst us) := h2
      rw [h1] at h2
      injection h2 with h2; injection h2 with h2; exact h2.symm
    have S3 := S0.lend v1 v1
    refine ⟨_, v1, .inl ⟨rfl, vs, SqL.of hA⟩, _, ⟨_, _, rfl⟩, r.set i (some .any), T, ⟨_, S3⟩, ?_⟩
    cases e3 : cSet fa (r.set i (some .any)) with
    | bad => simp only [e3] at g; exact g.elim
    | exc c r2 => simp only [e3] at g; exact g.elim
    | ok x r2 =>
      simp only [e3] at g
      cases x with
      | loc l => exact g.elim
      | val dv =>
        simp only at g
        split at g
        · rename_i hz
          intro v' H4 P4
          obtain ⟨⟨ow4, S4⟩, _⟩ := P4
          obtain ⟨S5, hA5, s5⟩ := S0.unlend0 q hkr v1 hH (fun us h => one hH h) S4
          have S5 : StW G C (unl0 ow ow4 i) (r2.set i (some (.node .lst true ds))) (T ++ [(dv, v')]) s H4 := by simpa [pushR] using S5
          have hA5 : H4 a = some (.lst vs) := hA5
          have hil2 : i < r2.length := by
            have := S5.len
            have h2 := (List.getElem?_eq_some_iff.mp v1).1
            simp at this; omega
          obtain ⟨vs', w1, w2, S6⟩ := StW.into S5 (List.getElem?_set_self hil2) v1 (.inr ⟨rfl, rfl⟩)
          have ev : vs' = vs := by
            rw [hA5] at w1
            injection w1 with w1; injection w1 with w1; exact w1.symm
          subst ev
          rw [if_neg (Nat.lt_irrefl _), List.set_set] at S6
          refine ⟨a, vs', v', rfl, rfl, hA5, by rw [w2, sizeLine_eq]; exact hz, ?_⟩
          refine g s _ ⟨⟨_, S6⟩, a, _, v, v1, upd_same, ?_, hj⟩
          rw [List.getElem?_append_left (List.getElem?_eq_some_iff.mp hn).1]
          exact hn
        · exact g.elim
  · exact g.elim
theorem HbOk.fin {ds2 : List D} {d2 : D} (h : HbOk G C i j n r T s H) (hij : i ≠ j) (q : r[i]? = some (some (.node .lst true ds2))) (q2 : r[j]? = some (some d2)) : StOk G C ((r.set j (some .any)).set i (some (.node .lst true (ds2.set n d2)))) T s H := by
  obtain ⟨⟨ow, S⟩, a, vs, v, v1, hA, hn, hj⟩ := h
  obtain ⟨v', z1, S2⟩ := S.pull q2
  rw [hj] at z1
  cases z1
  exact ⟨_, S2.giveBack (k := .lst) (o := true) (by rw [List.getElem?_set_ne (Ne.symm hij)]; exact q) v1 (fun z => nomatch z) hA hn (fun us h2 => by
    have h2 : H a = some (.lst us) := h2
    rw [hA] at h2
    injection h2 with h2; injection h2 with h2; exact h2.symm)⟩
end
end VL

namespace VL
open PySem PySem.Spec PyProof.Rows L2
section
variable {X : Cx} {G : GX} {C C' : Fc} {W : WX} {ow ow' : Ow} {r : Rho} {T T1 T2 : List (D × V)} {s : L2.St} {H H' : Hp} {fa fb fc fk fo : Ev} {fs : Av} {f g : Sv} {i j n : Nat}
end
end VL

namespace VL
open PySem PySem.Spec PyProof.Rows L2
section
variable {X : Cx} {G : GX} {C : Fc} {W : WX} {ow ow' : Ow} {r : Rho} {T T1 T2 : List (D × V)} {s : L2.St} {H H' : Hp} {fa fb fc fk : Ev} {f g : Sv} {fs : Av}
def okT (ks : List (List L2.Key)) : Prop := ks.Nodup ∧ ks.length < 16777216
instance (ks : List (List L2.Key)) : Decidable (okT ks) := by unfold okT; exact inferInstance
end
end VL

namespace VL
open PySem PySem.Spec PyProof.Rows L2
abbrev T3 := Int × Int × Int
section
variable {prog : Program} {w : World} {A : Around}
end
end VL

namespace VL
open PySem PySem.Spec PyProof.Rows L2
section
variable {X : Cx} {G : GX} {C C' : Fc} {W : WX} {ow ow' : Ow} {r : Rho} {T T1 T2 : List (D × V)} {s : L2.St} {H H' : Hp} {fa fk : Ev}
mutual
theorem Rep.unlkT {G : GX} {H H' : Hp} {ow ow' : Ow} {a : Addr} {od : Obj} {kvs : List ((List L2.Key) × V)} (hne : ∀ b, b ≠ a → H' b = H b) (how : ∀ b, b ≠ a → ow' b = ow b) (ha : H a = some (.frz od (.dT kvs))) : ∀ (d : D) {l : Loc} {v : V}, Rep G ow H d l v → Rep G ow' H' d l v
  | .any, _, _, _ => trivial
  | .non, _, _, h => h
  | .bl _, _, _, h => h
  | .int _, _, _, h => h
  | .str _, _, _, h => h
  | .exc c, _, _, h => by
    obtain ⟨b, e, q⟩ := h
    have nb : b ≠ a := fun z => by subst z; rw [ha] at q; cases q
    exact ⟨b, e, by rw [hne b nb]; exact q⟩
  | .ty _, _, _, h => h
  | .cls _, _, _, h => h
  | .node k o xs, l, v, h => by
    obtain ⟨b, vs, ev, h1, h2, h3⟩ := h
    have h3' := Reps.unlkT hne how ha xs h3
    cases k with
    | lst =>
      have h1 : H b = some (.lst vs) := h1
      have nb : b ≠ a := fun z => by subst z; rw [ha] at h1; cases h1
      exact ⟨b, vs, ev, (hne b nb).trans h1, by rw [how b nb]; exact h2, h3'⟩
    | tup =>
      have h1 : H b = some (.tup vs) := h1
      have nb : b ≠ a := fun z => by subst z; rw [ha] at h1; cases h1
      exact ⟨b, vs, ev, (hne b nb).trans h1, by rw [how b nb]; exact h2, h3'⟩
    | rd =>
      refine ⟨b, vs, ev, ?_, trivial, h3'⟩
      rcases h1 with ⟨o2, h1⟩ | h1
      · have nb : b ≠ a := fun z => by subst z; rw [ha] at h1; cases h1
        exact .inl ⟨o2, (hne b nb).trans h1⟩
      · exact .inr h1
    | dK ks =>
      obtain ⟨h1, h4⟩ : H b = some (.dK (ks.zip vs)) ∧ ks.length = vs.length := h1
      have nb : b ≠ a := fun z => by subst z; rw [ha] at h1; cases h1
      exact ⟨b, vs, ev, ⟨(hne b nb).trans h1, h4⟩, by rw [how b nb]; exact h2, h3'⟩
    | dT ks =>
      obtain ⟨h1, h4⟩ : H b = some (.dT (ks.zip vs)) ∧ ks.length = vs.length := h1
      have nb : b ≠ a := fun z => by subst z; rw [ha] at h1; cases h1
      exact ⟨b, vs, ev, ⟨(hne b nb).trans h1, h4⟩, by rw [how b nb]; exact h2, h3'⟩
    | ins c fs =>
      obtain ⟨⟨dx, h1⟩, h4⟩ : (∃ dx, H b = some (.ins (G c) dx (fs.zip vs))) ∧ fs.length = vs.length := h1
      have nb : b ≠ a := fun z => by subst z; rw [ha] at h1; cases h1
      exact ⟨b, vs, ev, ⟨⟨dx, (hne b nb).trans h1⟩, h4⟩, by rw [how b nb]; exact h2, h3'⟩
theorem Reps.unlkT {G : GX} {H H' : Hp} {ow ow' : Ow} {a : Addr} {od : Obj} {kvs : List ((List L2.Key) × V)} (hne : ∀ b, b ≠ a → H' b = H b) (how : ∀ b, b ≠ a → ow' b = ow b) (ha : H a = some (.frz od (.dT kvs))) : ∀ (ds : List D) {l : Loc} {i : Nat} {vs : List V}, Reps G ow H ds l i vs → Reps G ow' H' ds l i vs
  | [], _, _, _, h => h
  | d :: ds, _, _, _, h => by
    obtain ⟨v, ws, e, h1, h2⟩ := h
    exact ⟨v, ws, e, Rep.unlkT hne how ha d h1, Reps.unlkT hne how ha ds h2⟩
end
end
end VL

namespace VL
open PySem PySem.Spec PyProof.Rows L2
section
variable {prog : Program} {w : World} {A : Around} {E : Value → Shared → Prop} {s : Shared}
end
section
variable {X : Cx} {G : GX} {C : Fc} {W : WX} {ow ow' : Ow} {r : Rho} {T T1 T2 : List (D × V)} {s : L2.St} {H H' : Hp}
end
end VL

namespace VL
open PySem PySem.Spec PyProof PyProof.Rows L2
section
variable {prog : Program} {w : World} {A : Around} {E : Value → Shared → Prop} {s : Shared}
end
section
variable {X : Cx} {G : GX} {C : Fc} {W : WX} {ow : Ow} {r : Rho} {T : List (D × V)} {s : L2.St} {H : Hp} {fa fb : Ev}
end
section
variable {fa fb : Ev} {r r1 r2 r3 : Rho}
end
end VL

namespace VL
open PySem PySem.Spec PyProof PyProof.Rows L2
section
variable {X : Cx} {G : GX} {C : Fc} {W : WX} {ow : Ow} {r : Rho} {T : List (D × V)} {s : L2.St} {H : Hp} {fa fb : Ev}
end
end VL

namespace VL
open PySem PySem.Spec PyProof PyProof.Rows L2
section
variable {X : Cx} {G : GX} {C : Fc} {W : WX} {ow : Ow} {r : Rho} {T : List (D × V)} {s : L2.St} {H : Hp} {fa : Ev}
end
end VL

namespace VL
open PySem PySem.Spec PyProof PyProof.Rows L2
end VL

namespace VL
open PySem PySem.Spec PyProof PyProof.Rows L2
section
variable {X : Cx} {G : GX} {C : Fc} {W : WX} {ow : Ow} {r : Rho} {T : List (D × V)} {s : L2.St} {H : Hp} {fa fb : Ev}
def unrd : D → D
  | .node .rd o xs => .node .lst o xs
  | d => d
theorem dp_unrd {K : PySem.W.Frag} (hK : G.K = K) {d : D} {l : Loc} {v : V} (c : (toPy (unrd d)).canLay0 = true) (h : Rep G ow H d l v) : Dp K H v (toPy (unrd d)) := by
  cases d with
  | node k o xs =>
    cases k with
    | rd =>
      obtain ⟨a, vs, e, h1, h2, h3⟩ := h
      subst e
      have c' : PyData.canLayAll0 (toPys xs) = true := by simpa [unrd, toPy, PyData.canLay0] using c
      have z := dps_of (K := K) xs c' h3
      show Dp K H (.ref a) (.list (toPys xs))
      exact .lst (hK ▸ h1.seq) z
    | _ => exact dp_of _ c h
  | _ => exact dp_of _ c h
def eqR (d e : D) : Option D := eqD (unrd d) (unrd e)
theorem eqR_core (hK : G.K = X.K) {x y : R} {v u : V} {Q : VK} (S : StOk G C r (T ++ (pushR x v ++ pushR y u)) s H) (lx : LocOk s v x) (ly : LocOk s u y) (q : Goes G C W T s Q (g2 eqR x y r)) : rEqD X.K v u H Q := by
  obtain ⟨ow, S⟩ := S
  unfold g2 at q
  cases e1 : opd r x with
  | none => rw [e1] at q; exact q.elim
  | some d =>
    cases e2 : opd r y with
    | none => rw [e1, e2] at q; exact q.elim
    | some e =>
      rw [e1, e2] at q
      cases e3 : eqR d e with
      | none => simp only [e3] at q; exact q.elim
      | some z =>
        simp only [e3] at q
        by_cases a : atom z = true
        · rw [if_pos a] at q
          have r1 := opd_rep S lx e1
          have r2 := opd_rep (T := T ++ pushR x v) (T2 := []) (by rw [List.append_nil, List.append_assoc]; exact S) ly e2
          unfold eqR eqD at e3
          split at e3
          · rename_i c
            rw [Bool.and_eq_true] at c
            cases e3
            refine ⟨_, _, dp_unrd hK (SeqAt.canLay_of_shaped c.1) r1, dp_unrd hK (SeqAt.canLay_of_shaped c.2) r2, c.1, c.2, ?_⟩
            exact q _ H ⟨StOk.pushA ⟨ow, S.drop⟩ a fun _ _ => rfl, trivial⟩
          · cases e3
        · rw [if_neg a] at q
          exact q.elim
theorem vt_eqR {a b : Expr} {pos : Pos} (hK : G.K = X.K) (hu : X.A.units + 64 < cLine) (ha : VE X G C W a fa) (hb : VE X G C W b fb) (hm : behindInMarks .Eq b = false) : VT X G C W (.Compare a [.Eq] [b] pos) (cBin (g2 eqR) fa fb) := by
  refine PT.imp (pt_cmpR (op_eqD hu) ha hb hm) fun s H Q h => ?_
  have z := tV_bl h
  obtain ⟨r, T, S, gg⟩ := z
  exact two S gg fun x y v u r2 H2 S2 lx ly g2 => eqR_core hK S2 lx ly g2
theorem eqR_sc {i : Nat} {ns : List Int} {r : Rho} (h : r[i]? = some (some (.node .rd false (ns.map .int)))) : cBin (g2 eqR) (cVar i) (cLst cNil) r = .ok (.val (.bl (decide (ns = [])))) r :=
  bin_ok (x := .loc i) (y := .val (.node .lst true [])) (cvar_loc h rfl) rfl (g2_ok (opd_loc' h) rfl (eq_lints (o := false) (o' := true) ns []) rfl)
end
end VL

namespace ZL
open PySem PySem.Spec PyProof PyProof.Rows L2
section
variable {prog : Program} {w : World} {A : Around} {E : Value → Shared → Prop} {s : Shared}
def TA (h : Heap) (base : Addr) (xs ys : Array Value) (as : List Addr) : Prop :=
  as.Pairwise (· < ·) ∧ ∀ (j : Nat) (c : Addr), as[j]? = some c → base ≤ c ∧ c < h.objs.size ∧ ∃ x y, xs[j]? = some x ∧ ys[j]? = some y ∧ IsPair h c x y
theorem TA.keep {h h' : Heap} {base : Addr} {xs ys : Array Value} {as : List Addr} (t : TA h base xs ys as) (hk : ∀ c o, base ≤ c → h.get? c = some o → h'.get? c = some o) : TA h' base xs ys as := by
  refine ⟨t.1, fun j c hj => ?_⟩
  obtain ⟨h1, h2, x, y, h3, h4, h5⟩ := t.2 j c hj
  have h6 := hk c _ h1 h5
  exact ⟨h1, Heap.lt_size h6, x, y, h3, h4, h6⟩
theorem TA.snoc {h : Heap} {base c : Addr} {xs ys : Array Value} {as : List Addr} {x y : Value} (t : TA h base xs ys as) (hb : base ≤ c) (hc : ∀ d ∈ as, d < c) (hl : c < h.objs.size) (hx : xs[as.length]? = some x) (hy : ys[as.length]? = some y) (hp : IsPair h c x y) : TA h base xs ys (as ++ [c]) := by
  refine ⟨List.pairwise_append.mpr ⟨t.1, List.pairwise_singleton _ _, fun a ha b hb => by rw [List.mem_singleton.mp hb]; exact hc a ha⟩, fun j d hj => ?_⟩
  rcases Nat.lt_or_ge j as.length with q | q
  · rw [List.getElem?_append_left q] at hj
    exact t.2 j d hj
  · rw [List.getElem?_append_right q] at hj
    have hj0 : j - as.length = 0 := by
      rcases Nat.eq_zero_or_pos (j - as.length) with e | e
      · exact e
      · rw [List.getElem?_eq_none (by simp; omega)] at hj; cases hj
    rw [hj0] at hj
    cases hj
    have ej : j = as.length := by omega
    subst ej
    exact ⟨hb, hl, x, y, hx, hy, hp⟩
end
end ZL
namespace L2
open PySem PySem.Spec PyProof PyProof.Rows ZL
section
variable {X : Cx}
end
end L2
namespace VL
open PySem PySem.Spec PyProof PyProof.Rows L2
section
variable {X : Cx} {G : GX} {C : Fc} {W : WX} {ow : Ow} {r : Rho} {T : List (D × V)} {s : L2.St} {H : Hp} {fs : Av}
end
end VL

namespace VL
open PySem PySem.Spec PyProof.Rows L2
section
variable {X : Cx} {pins : List (Addr × Obj)} {Wout : WX} {D : Ends}
end

section
variable {X : Cx} {G : GX} {C : Fc} {W : WX} {ow ow' : Ow} {r : Rho} {T T1 T2 : List (D × V)} {s : L2.St} {H H' : Hp}
end
end VL

namespace VL
open PySem PySem.Spec PyProof.Rows L2
section
variable {X : Cx} {a b c d : Expr} {pos : Pos} {ta tb tc td : TE}
end
section
variable {X : Cx} {G : GX} {C : Fc} {W : WX} {ow ow' : Ow} {r : Rho} {T T1 T2 : List (D × V)} {s : L2.St} {H H' : Hp} {fa fb fc fd : Ev} {fs : Av} {f g h : Int → Int → Bool}
end
end VL

namespace VL
open PySem PySem.Spec PyProof.Rows L2
section
variable {X : Cx}
end
section
variable {X : Cx} {G : GX} {C : Fc} {W : WX} {fs : Av} {x : Str} {p pos kp kp2 : Pos} {e : Expr}
end
end VL

namespace VL
open PySem PySem.Spec PyProof.Rows L2
section
variable {G : GX} {C : Fc} {ow : Ow} {r : Rho} {T : List (D × V)} {s : L2.St} {H : Hp}
end
section
variable {X : Cx} {G : GX} {C : Fc} {W : WX} {fk : Ev}
end
end VL

namespace VL
open PySem PySem.Spec PyProof PyProof.Rows L2
structure FnQ (N L gs ps : List Str) (sc : Scope) : Prop where
  fs : FnScope N ps sc
  pl : N.take L.length = L
  lo : ∀ x ∈ L, sc.names.lookup x = some .local ∨ sc.names.lookup x = some .cell
  no : ∀ x ∈ N, (x == ("__debug__" : Str)) = false ∧ (x == ("__classdict__" : Str)) = false
  gl : ∀ x ∈ gs, sc.names.lookup x = some .globalImplicit ∧ (x == ("__debug__" : Str)) = false
section
variable {N L gs ps : List Str} {sc : Scope} {x : Str}
theorem get_mem {l : List Str} {i : Nat} (h : l[i]? = some x) : x ∈ l := List.mem_of_getElem? h
theorem FnQ.nd (q : FnQ N L gs ps sc) : N.Nodup := q.fs.nd
theorem FnQ.n (q : FnQ N L gs ps sc) (i : Nat) (h : L[i]? = some x := by rfl) : N[i]? = some x := by
  have hi : i < L.length := (List.getElem?_eq_some_iff.mp h).1
  rw [← q.pl, List.getElem?_take, if_pos hi] at h
  exact h
theorem FnQ.l (q : FnQ N L gs ps sc) (i : Nat) (h : L[i]? = some x := by rfl) : L2.Loc sc x := q.lo x (get_mem h)
theorem FnQ.v (q : FnQ N L gs ps sc) (i : Nat) (h : L[i]? = some x := by rfl) : Vis sc x := (q.lo x (get_mem h)).elim .inl fun z => .inr (.inl z)
theorem FnQ.d (q : FnQ N L gs ps sc) (i : Nat) (h : N[i]? = some x := by rfl) : (x == ("__debug__" : Str)) = false := (q.no x (get_mem h)).1
theorem FnQ.c (q : FnQ N L gs ps sc) (i : Nat) (h : N[i]? = some x := by rfl) : (x == ("__classdict__" : Str)) = false := (q.no x (get_mem h)).2
theorem FnQ.g (q : FnQ N L gs ps sc) (i : Nat) (h : gs[i]? = some x := by rfl) : sc.names.lookup x = some .globalImplicit := (q.gl x (get_mem h)).1
theorem FnQ.h (q : FnQ N L gs ps sc) (i : Nat) (h : gs[i]? = some x := by rfl) : (x == ("__debug__" : Str)) = false := (q.gl x (get_mem h)).2
end
section
variable {X : Cx} {G : GX} {C : Fc} {W : WX} {ow : Ow} {r : Rho} {T : List (D × V)} {s : L2.St} {H : Hp} {fa fb : Ev} {fs : Av} {L gs ps : List Str}
theorem ve_v {i : Nat} {x : Str} {pos : Pos} (q : FnQ X.N L gs ps X.env.scope) (h : L[i]? = some x := by rfl) : VE X G C W (.Name x pos) (cVar i) :=
  ve_var (q.n i h) (q.v i h) (q.d i (q.n i h)) (q.c i (q.n i h))
theorem vs_s {i : Nat} {x : Str} {e : Expr} {pos pos' : Pos} (q : FnQ X.N L gs ps X.env.scope) (hp : C.pin = []) (he : VE X G C W e fa) (h : L[i]? = some x := by rfl) (hs : swapsWith e (some (.Name x pos')) pos.line X.env = pure false := by rfl)
    (hf : X.fn x = true ∨ X.env.scope.names.lookup x = some .local := by first | exact .inl rfl | exact .inr rfl | assumption) : VS X G C W (.Assign [.Name x pos'] e pos) (cAsg (.nm i) fa) :=
  vs_set q.nd (q.n i h) (q.l i h) (pinV hp i) he hs hf
theorem vs_a {i : Nat} {x : Str} {e : Expr} {op : Operator} {g : G2} {pos' pos : Pos} (q : FnQ X.N L gs ps X.env.scope) (hp : C.pin = []) (ho : OpS X (inplaceOp op) g) (he : VE X G C W e fb) (h : L[i]? = some x := by rfl)
    (hf : X.fn x = true ∨ X.env.scope.names.lookup x = some .local := by first | exact .inl rfl | exact .inr rfl | assumption) : VS X G C W (.AugAssign (.Name x pos') op e pos) (cAug i g fb) :=
  vs_aug q.nd (q.n i h) (q.l i h) (pinV hp i) ho he hf
theorem vg_n {i : Nat} {x : Str} {pos : Pos} (q : FnQ X.N L gs ps X.env.scope) (hp : C.pin = []) (h : L[i]? = some x := by rfl) (hf : X.fn x = true ∨ X.env.scope.names.lookup x = some .local := by first | exact .inl rfl | exact .inr rfl | assumption) : VG X G C (.Name x pos) (.nm i) :=
  vg_name q.nd (q.n i h) (q.l i h) (pinV hp i) hf
theorem vgs_c {i : Nat} {x : Str} {pos : Pos} {es : List Expr} {is : List Nat} (q : FnQ X.N L gs ps X.env.scope) (hp : C.pin = []) (h2 : VGs X G C es is) (h : L[i]? = some x := by rfl)
    (hf : X.fn x = true ∨ X.env.scope.names.lookup x = some .local := by first | exact .inl rfl | exact .inr rfl | assumption)
    (hs : (assignEach (.Name x pos :: es) X.env).map (·.2) = assign (.Name x pos) X.env :: (assignEach es X.env).map (·.2) := by rfl) : VGs X G C (.Name x pos :: es) (i :: is) :=
  vgs_cons q.nd (q.n i h) (q.l i h) (pinV hp i) h2 hf hs
theorem vs_f {tg iter : Expr} {body : List Stmt} {fi : Iv} {t : Tg} {f : Sv} {pos : Pos} {K : Value → Shared → Prop} {E₁ : Value → Shared → Prop} (hi : VI X G C W tg iter fi) (hg : VG X G C tg t) (hb : VSs X G C W body f) (hx : X.xe = fun e s' => wpAny (model X.prog X.w) X.A (leaving X.env e) (fun _ s'' => K e s'') E₁ s' := by rfl) (hc : X.calm = true := by rfl)
    (hs : ∀ x, foldedSetIterable iter X.env x = pure x := by intro _; rfl) : VS X G C W (.For tg iter body [] pos) (cFor t fi f) := vs_for (passes_of hx) hc hi hg hb hs
end
structure DF (K : PySem.W.Frag) (mg : Str → Option Value) (x y : Str) (st : Stmt) (ps : List Str) where
  a : Addr
  fd : FuncData
  F : Fun K y y st a fd
  m : mg x = some (.ref a)
  k : PySem.W.keepIn K (.ref a) = true
  bs : ∀ us : List Value, us.length = ps.length → bindArgs fd ⟨us, []⟩ = pure (ps.zip us)
def DF.of {K : PySem.W.Frag} {mg : Str → Option Value} {h : Heap} {x y : Str} {st : Stmt} {ps : List Str} {a : Addr} {oc kV doc pm cdv ct : Value} {od an : Option Addr} {osl : Array (Option Value)} (X : K.In h) (G : h.Ns mainGlobals mg)
    (n : PySem.W.nsIn K mainGlobals x = some (some (.ref a))) (l : K.lookup a = some ⟨oc, od, .func (PySem.W.fnOf y y (defArgs st) (defBody st) (defScope st) .none kV doc pm an cdv ct), osl⟩)
    (c : PySem.W.codeIn K cdv y = true) (k : PySem.W.keepIn K (.ref a) = true)
    (b : ∀ (kV doc pm : Value) (an : Option Addr) (cdv ct : Value) (us : List Value), us.length = ps.length → bindArgs (PySem.W.fnOf y y (defArgs st) (defBody st) (defScope st) .none kV doc pm an cdv ct) ⟨us, []⟩ = pure (ps.zip us)) : DF K mg x y st ps :=
  ⟨a, _, fun_mk l c k, PySem.W.mg_of X G n, k, b kV doc pm an cdv ct⟩
theorem DF.b {K : PySem.W.Frag} {mg : Str → Option Value} {x y : Str} {st : Stmt} {ps : List Str} (d : DF K mg x y st ps) : Binds K d.fd ps [] := .all d.bs
section
variable {K : PySem.W.Frag} {mg : Str → Option Value} {x y : Str} {st : Stmt} {ps : List Str}
abbrev OkD (P : Program) (w : World) (base : Heap) (k : Nat) (d : DF K mg x y st ps) (sp : Sp) : Prop := FnOk P w K mg base (L2.CX P w) k d.a d.fd ps sp
abbrev OkV (P : Program) (w : World) (base : Heap) (k : Nat) (d : DF K mg x y st ps) (G : GX) (n : Nat) (F : List D → FO) : Prop := OkD P w base k d (spV G n F)
variable {P : Program} {w : World} {base : Heap} {G : GX} {N L gs : List Str} {k n : Nat} {fb : Sv} {d : DF K mg x y st ps}
theorem fnV3 (S : FnQ N L gs ps (defScope st))
    (hbody : ∀ (cdv : Value) (A : Around) (outer : List Env) (s : Shared) (H : Hp) (E : XK) (C : Fc), Room k (A.deeper (envOfC y (defScope st) s.heap.objs.size d.a cdv)) → C.pin = [] → FnQ (cxOf (L2.CX P w) P w K mg base N y (defScope st) d.a cdv A outer s H E).N L gs ps (cxOf (L2.CX P w) P w K mg base N y (defScope st) d.a cdv A outer s H E).env.scope → VSs (cxOf (L2.CX P w) P w K mg base N y (defScope st) d.a cdv A outer s H E) G C (fun cls d _ H => E cls d H) (defBody st) fb) (hps : ps.length = n := by rfl) :
    OkV P w base (k + 1) d G n (runF N.length fb) := by
  subst hps
  exact fnV2 d.F S.fs fun cdv A outer s H E C hr hp => hbody cdv A outer s H E C hr hp S
theorem fnQ3 {q : Nat} (S : FnQ N L gs ps (defScope st))
    (hbody : ∀ (cdv : Value) (A : Around) (outer : List Env) (s : Shared) (H : Hp) (E : XK) (C : Fc), Room k (A.deeper (envOfC y (defScope st) s.heap.objs.size d.a cdv)) → (∀ p ∈ C.pin, p.1 = q) → FnQ (cxOf (L2.CX P w) P w K mg base N y (defScope st) d.a cdv A outer s H E).N L gs ps (cxOf (L2.CX P w) P w K mg base N y (defScope st) d.a cdv A outer s H E).env.scope → VSs (cxOf (L2.CX P w) P w K mg base N y (defScope st) d.a cdv A outer s H E) G C (fun cls d _ H => E cls d H) (defBody st) fb) (hps : ps.length = n + 1 := by rfl) :
    OkD P w base (k + 1) d (spQ G q n (runQ q N.length fb)) :=
  fnQ2 d.F S.fs hps fun cdv A outer s H E C hr hp => hbody cdv A outer s H E C hr hp S
end
section
variable {X : Cx} {G : GX} {C : Fc} {W : WX} {fs : Av} {x y : Str} {st : Stmt} {ps : List Str} {f : DF X.K X.mg x y st ps} {n k k' : Nat} {F : List D → FO} {p pos : Pos} {e : Expr} {es : List Expr}
theorem ve_callD (Fk : FnOk X.prog X.w X.K X.mg X.base (L2.CX X.prog X.w) k f.a f.fd ps (spV G n F)) (hr : Room k' X.A) (hg : Gl X x) (hdb : (x == ("__debug__" : Str)) = false) (ha : VA X G C W (e :: es) fs) (hk : k ≤ k' := by decide) (tk : Takes X W := by exact takes_of rfl rfl rfl rfl)
    (he : starEach (e :: es) X.env = (false, eval e X.env) :: starEach es X.env := by rfl) (hpl : (backTo pos (starEach es X.env)).any (·.1) = false := by rfl) : VE X G C W (.Call (.Name x p) (e :: es) [] pos) (cCall n F fs) :=
  ve_call tk Fk (hr.mono hk) hg f.m f.k f.b ha hdb he hpl
theorem ve_f {N L gs pq : List Str} (Fk : FnOk X.prog X.w X.K X.mg X.base (L2.CX X.prog X.w) k f.a f.fd ps (spV G n F)) (hr : Room k' X.A) (q : FnQ N L gs pq X.env.scope) (i : Nat) (ha : VA X G C W (e :: es) fs) (h : gs[i]? = some x := by rfl) (hk : k ≤ k' := by decide) (tk : Takes X W := by exact takes_of rfl rfl rfl rfl)
    (he : starEach (e :: es) X.env = (false, eval e X.env) :: starEach es X.env := by rfl) (hpl : (backTo pos (starEach es X.env)).any (·.1) = false := by rfl) : VE X G C W (.Call (.Name x p) (e :: es) [] pos) (cCall n F fs) :=
  ve_call tk Fk (hr.mono hk) (q.g i h) f.m f.k f.b ha (q.h i h) he hpl
end
structure KI (mg : Str → Option Value) (x : Str) (i : Int) where
  t : Tok
  m : mg x = some (.int i t)
def KI.of {K : PySem.W.Frag} {mg : Str → Option Value} {h : Heap} {x : Str} {i : Int} {t : Tok} (X : K.In h) (G : h.Ns mainGlobals mg) (n : PySem.W.nsIn K mainGlobals x = some (some (.int i t))) : KI mg x i := ⟨t, PySem.W.mg_of X G n⟩
structure CF (K : PySem.W.Frag) (mg : Str → Option Value) (x : Str) (S : Addr) : Prop where
  m : mg x = some (.ref S)
  ic : PySem.W.isClsIn K S = true
  tc : PySem.W.typeIn K (.ref S) = some (.type "type")
  bc : PySem.W.subIn K (.ref S) (.type "BaseException") = some true
theorem CF.of {K : PySem.W.Frag} {mg : Str → Option Value} {h : Heap} {x : Str} {S : Addr} (X : K.In h) (G : h.Ns mainGlobals mg) (n : PySem.W.nsIn K mainGlobals x = some (some (.ref S)))
    (ic : PySem.W.isClsIn K S = true) (tc : PySem.W.typeIn K (.ref S) = some (.type "type")) (bc : PySem.W.subIn K (.ref S) (.type "BaseException") = some true) : CF K mg x S := ⟨PySem.W.mg_of X G n, ic, tc, bc⟩
theorem CF.f {K : PySem.W.Frag} {mg : Str → Option Value} {x : Str} {S : Addr} (c : CF K mg x S) : ClsF K S := ⟨c.ic, c.tc, c.bc⟩
structure RF (K : PySem.W.Frag) (S : Addr) : Prop where
  x : PySem.W.excIn K S [.type "ValueError", .type "Exception", .type "BaseException", .type "object"] "ValueError.__new__" = true
  kc : PySem.W.keepIn K (.ref S) = true
  hg : PySem.W.findIn K (.ref S) "__getattribute__" = some (some (.builtin "BaseException.__getattribute__"))
  hk : PySem.W.findIn K (.ref S) "__getattr__" = some none
  hd : PySem.W.hasDictIn K S = true
  ha : PySem.W.findIn K (.ref S) "__class__" = some (some (.builtin "object.__class__"))
  hm : PySem.W.mroIn K S (.type "object") = some true
  se : PySem.W.subIn K (.ref S) (.ref S) = some true
structure EF (K : PySem.W.Frag) : Prop where
  hn : PySem.W.specialIn K (.builtin "object.__class__") "__get__" = some (some (.builtin "getset_descriptor.__get__"))
  ht : PySem.W.takesIn K (.builtin "object.__class__") = some true
section
variable {K : PySem.W.Frag} {mg : Str → Option Value} {G : GX} {k j : Nat} {b : Bool} {x y : Str}
theorem exc_of (c : CF K mg x (G k)) (r : RF K (G k)) (e : EF K) : ExcC K (G k) := ⟨r.hg, r.hk, c.bc, r.hd, r.ha, e.hn, e.ht, r.hm⟩
theorem rowC (c : CF K mg x (G k)) (r : RF K (G k)) (e : EF K) (t : CF K mg y (G j)) (h : PySem.W.subIn K (.ref (G k)) (.ref (G j)) = some b) : RowT K G k (.inl j) b := row_cls (exc_of c r e) t.f r.se h
theorem rowT {n : String} (c : CF K mg x (G k)) (r : RF K (G k)) (e : EF K) (h : PySem.W.subIn K (.ref (G k)) (.type n) = some b) (hm : PySem.W.kitMeta n = true := by decide +kernel) : RowT K G k (.inr n) b := row_ty (exc_of c r e) hm h
end
section
variable {X : Cx} {G : GX} {C : Fc} {W : WX} {c : Nat} {x m : Str} {j : Nat} {p p2 pos pos' : Pos}
theorem vs_raiseC (cf : CF X.K X.mg x (G c)) (r : RF X.K (G c)) (hg : Gl X x) (hdb : (x == ("__debug__" : Str)) = false) (tk : Takes X W := by exact takes_of rfl rfl rfl rfl) (hcm : X.calm = true := by rfl) : VS X G C W (.Raise (some (.Call (.Name x p) [.Constant (.str m) j p2] [] pos)) none pos') (cRaise c) :=
  vs_raise hcm tk r.x cf.m r.kc (raises_own cf.bc cf.tc) hg hdb
end
theorem bl_len : bootBuiltins "len" = some (.builtin "len") ∧ ("len" : Str) ≠ "__name__" := ⟨rfl, by decide +kernel⟩
section
variable {X : Cx} {G : GX} {C : Fc} {W : WX} {fa : Ev} {N L gs ps : List Str} {p pos : Pos} {e : Expr}
theorem ve_len (hm : X.mg "len" = none) (hg : Gl X "len") (ha : VE X G C W e fa) (hK : G.K = X.K := by rfl) (he : starEach [e] X.env = (false, eval e X.env) :: starEach [] X.env := by rfl) (hpl : (backTo pos (starEach [] X.env)).any (·.1) = false := by rfl) : VE X G C W (.Call (.Name "len" p) [e] [] pos) (cB (b1 lenD) (cCons fa cNil)) :=
  ve_callB hK cs_len hg hm rfl (va_cons ha va_nil he) bl_len.2 (by decide +kernel) he hpl
end
end VL

namespace VL
open PySem PySem.Spec PyProof.Rows L2
def atP : List Nat → D → Option D
  | [], d => some d
  | m :: p, .node k _ xs => if seqK k = true then (match xs[m]? with | some d => atP p d | none => none) else none
  | _ :: _, _ => none
def setP : List Nat → D → D → D
  | [], e, _ => e
  | m :: p, e, .node k o xs => .node k o (match xs[m]? with | some d => xs.set m (setP p e d) | none => xs)
  | _ :: _, _, d => d
def PathV (H : Hp) : V → List Nat → V → Prop
  | v, [], u => u = v
  | v, m :: p, u => ∃ a vs w, v = .ref a ∧ (H a = some (.lst vs) ∨ H a = some (.tup vs)) ∧ vs[m]? = some w ∧ PathV H w p u
theorem PathV.one {H : Hp} : ∀ {p : List Nat} {v u u' : V}, PathV H v p u → PathV H v p u' → u = u'
  | [], v, u, u', h, h' => h.trans h'.symm
  | m :: p, v, u, u', h, h' => by
    obtain ⟨a, vs, w, e1, h1, h2, h3⟩ := h
    obtain ⟨a', vs', w', e1', h1', h2', h3'⟩ := h'
    subst e1
    cases e1'
    have ev : vs = vs' := by
      rcases h1 with z | z <;> rcases h1' with z' | z' <;> (rw [z] at z'; first | (cases z'; done) | (cases z'; rfl))
    subst ev
    rw [h2] at h2'
    cases h2'
    exact PathV.one h3 h3'
theorem PathV.snoc {H : Hp} : ∀ {p : List Nat} {v : V} {a : Addr} {vs : List V} {m : Nat} {w : V}, PathV H v p (.ref a) → (H a = some (.lst vs) ∨ H a = some (.tup vs)) → vs[m]? = some w → PathV H v (p ++ [m]) w
  | [], v, a, vs, m, w, h, h1, h2 => ⟨a, vs, w, h.symm, h1, h2, rfl⟩
  | k :: p, v, a, vs, m, w, h, h1, h2 => by
    obtain ⟨a', vs', w', e1, g1, g2, g3⟩ := h
    exact ⟨a', vs', w', e1, g1, g2, PathV.snoc g3 h1 h2⟩
theorem atP_cons {m : Nat} {p : List Nat} {d e : D} (h : atP (m :: p) d = some e) : ∃ k o xs x, d = .node k o xs ∧ seqK k = true ∧ xs[m]? = some x ∧ atP p x = some e := by
  cases d with
  | node k o xs =>
    have h : (if seqK k = true then (match xs[m]? with | some d => atP p d | none => none) else none) = some e := h
    split at h
    · rename_i hk
      cases ex : xs[m]? with
      | none => rw [ex] at h; cases h
      | some x => rw [ex] at h; exact ⟨k, o, xs, x, rfl, hk, ex, h⟩
    · cases h
  | _ => cases h
theorem atP_mk {m : Nat} {p : List Nat} {k : Kd} {o : Bool} {xs : List D} {x : D} {e : Option D} (hk : seqK k = true) (ex : xs[m]? = some x) (h : atP p x = e) : atP (m :: p) (.node k o xs) = e := by
  show (if seqK k = true then (match xs[m]? with | some d => atP p d | none => none) else none) = e
  rw [if_pos hk, ex]
  exact h
theorem setP_mk {m : Nat} {p : List Nat} {k : Kd} {o : Bool} {xs : List D} {x e : D} (ex : xs[m]? = some x) : setP (m :: p) e (.node k o xs) = .node k o (xs.set m (setP p e x)) := by
  show D.node k o (match xs[m]? with | some d => xs.set m (setP p e d) | none => xs) = _
  rw [ex]
theorem setP_app : ∀ {p q : List Nat} {d f e : D}, atP p d = some f → setP (p ++ q) e d = setP p (setP q e f) d
  | [], q, d, f, e, h => by cases h; rfl
  | m :: p, q, d, f, e, h => by
    obtain ⟨k, o, xs, x, rfl, hk, ex, h⟩ := atP_cons h
    show setP (m :: (p ++ q)) e _ = _
    rw [setP_mk ex, setP_mk ex, setP_app h]
theorem atP_setP : ∀ {p : List Nat} {d f e : D}, atP p d = some f → atP p (setP p e d) = some e
  | [], d, f, e, _ => rfl
  | m :: p, d, f, e, h => by
    obtain ⟨k, o, xs, x, rfl, hk, ex, h⟩ := atP_cons h
    rw [setP_mk ex]
    exact atP_mk hk (List.getElem?_set_self (List.getElem?_eq_some_iff.mp ex).1) (atP_setP h)
theorem setP_setP : ∀ {p : List Nat} {d f e e' : D}, atP p d = some f → setP p e' (setP p e d) = setP p e' d
  | [], d, f, e, e', _ => rfl
  | m :: p, d, f, e, e', h => by
    obtain ⟨k, o, xs, x, rfl, hk, ex, h⟩ := atP_cons h
    rw [setP_mk ex, setP_mk (List.getElem?_set_self (List.getElem?_eq_some_iff.mp ex).1), setP_mk ex, setP_setP h, List.set_set]
section
variable {G : GX} {ow : Ow} {H : Hp} {C : Fc} {r : Rho} {T : List (D × V)} {s : L2.St}
theorem holdsK {k : Kd} {a : Addr} {vs : List V} (hk : seqK k = true) (h : Holds G H a k vs) : H a = some (.lst vs) ∨ H a = some (.tup vs) := by
  rcases seqK_of hk with e | e
  · subst e; exact .inl h
  · subst e; exact .inr h
theorem seqK_r {k : Kd} (hk : seqK k = true) : isR k ≠ true := by
  rcases seqK_of hk with e | e <;> (rw [e]; exact fun z => nomatch z)
theorem Rep.atP : ∀ (p : List Nat) {d e : D} {l : Loc} {v : V}, Rep G ow H d l v → VL.atP p d = some e → ∃ u, PathV H v p u ∧ Rep G ow H e (l.app p) u
  | [], d, e, l, v, h, he => by
    cases he
    exact ⟨v, rfl, by rw [Loc.app_nil]; exact h⟩
  | m :: p, d, e, l, v, h, he => by
    obtain ⟨k, o, xs, x, rfl, hk, ex, he⟩ := atP_cons he
    obtain ⟨a, vs, ev, h1, h2, h3⟩ := h
    obtain ⟨w, hw, hr⟩ := h3.get m x ex
    obtain ⟨u, g1, g2⟩ := Rep.atP p hr he
    rw [Nat.zero_add, Loc.sub_app] at g2
    exact ⟨u, ⟨a, vs, w, ev, holdsK hk h1, hw, g1⟩, g2⟩
theorem node_ne {k : Kd} {o : Bool} {a b : Addr} {l l' : Loc} (hk : seqK k = true) (h : OwnAt k o l (ow a)) (hb : ow b = some l') (hl : l ≠ l') : a ≠ b := fun e => by
  subst e
  have h := h.cases.resolve_left (seqK_r hk)
  rw [hb] at h
  cases o with
  | true => exact hl (by simpa using h.symm)
  | false => simp at h
theorem app_ne {l : Loc} {m : Nat} {p : List Nat} : l ≠ l.app (m :: p) := fun h => by
  have e : l.p = l.p ++ m :: p := congrArg Loc.p h
  have := congrArg List.length e
  simp at this
theorem Rep.keepPath {b : Addr} {ho : HO} : ∀ (q : List Nat) {t : List Nat} {d e : D} {l : Loc} {v u : V}, Rep G ow H d l v → VL.atP (q ++ t) d = some e → t ≠ [] → ow b = some (l.app (q ++ t)) → PathV H v q u → PathV (upd H b ho) v q u ∧ ∃ a, u = .ref a ∧ a ≠ b
  | [], t, d, e, l, v, u, h, he, ht, hb, hu => by
    cases t with
    | nil => exact absurd rfl ht
    | cons m t =>
      obtain ⟨k, o, xs, x, rfl, hk, ex, he⟩ := atP_cons he
      obtain ⟨a, vs, ev, h1, h2, h3⟩ := h
      have hu : u = v := hu
      exact ⟨hu, a, hu.trans ev, node_ne hk h2 hb app_ne⟩
  | m :: q, t, d, e, l, v, u, h, he, ht, hb, hu => by
    obtain ⟨k, o, xs, x, rfl, hk, ex, he⟩ := atP_cons (show VL.atP (m :: (q ++ t)) d = some e from he)
    obtain ⟨a, vs, ev, h1, h2, h3⟩ := h
    obtain ⟨a', vs', w', ev', g1, g2, g3⟩ := hu
    rw [ev] at ev'
    cases ev'
    have hne : a ≠ b := node_ne hk h2 hb (show l ≠ l.app (m :: (q ++ t)) from app_ne)
    have evs : vs' = vs := by
      rcases holdsK hk h1 with z | z <;> rcases g1 with z' | z' <;> (rw [z] at z'; first | (cases z'; done) | (cases z'; rfl))
    subst evs
    obtain ⟨w, hw, hr⟩ := h3.get m x ex
    rw [g2] at hw
    cases hw
    rw [Nat.zero_add] at hr
    obtain ⟨k1, k2⟩ := Rep.keepPath q hr he ht (by rw [Loc.sub_app]; exact hb) g3
    exact ⟨⟨a, vs', w', ev, by rw [upd_ne hne]; exact g1, g2, k1⟩, k2⟩
theorem sub_ne {l : Loc} {j m : Nat} {q p : List Nat} (h : j ≠ m) : (l.sub j).app q ≠ l.app (m :: p) := fun e => by
  rw [Loc.sub_app] at e
  have e : l.p ++ j :: q = l.p ++ m :: p := congrArg Loc.p e
  have := List.append_cancel_left e
  injection this with h1 h2
  exact h h1
theorem Rep.setP {b : Addr} {ho : HO} {e e' : D} : ∀ (p : List Nat) {d : D} {l : Loc} {v u : V}, Rep G ow H d l v → VL.atP p d = some e → ow b = some (l.app p) → PathV H v p u → (∀ o, H b = some o → OwnO (some o)) → Rep G ow (upd H b ho) e' (l.app p) u → Rep G ow (upd H b ho) (VL.setP p e' d) l v
  | [], d, l, v, u, h, he, hb, hu, hO, h' => by
    have hu : u = v := hu
    subst hu
    rw [Loc.app_nil] at h'
    exact h'
  | m :: p, d, l, v, u, h, he, hb, hu, hO, h' => by
    obtain ⟨k, o, xs, x, rfl, hk, ex, he2⟩ := atP_cons he
    obtain ⟨a, vs, ev, h1, h2, h3⟩ := h
    obtain ⟨a', vs', w', ev', g1, g2, g3⟩ := hu
    rw [ev] at ev'
    cases ev'
    have hne : a ≠ b := node_ne hk h2 hb app_ne
    have evs : vs' = vs := by
      rcases holdsK hk h1 with z | z <;> rcases g1 with z' | z' <;> (rw [z] at z'; first | (cases z'; done) | (cases z'; rfl))
    subst evs
    rw [setP_mk ex]
    have exn : ∀ (c : Addr) (o : HO), H c = some o → ¬ OwnO (some o) → Kt (upd H b ho c) o := fun c o z n => by
      rw [upd_ne (fun e => by rw [e] at z; exact n (hO o z))]; exact .inl z
    refine ⟨a, vs', ev, h1.keep fun o z => by rw [upd_ne hne]; exact .inl z, h2, Reps.of_get (by rw [List.length_set]; exact h3.length) fun j d' v' y1 y2 => ?_⟩
    obtain ⟨w, hw, hr⟩ := h3.get m x ex
    rw [g2] at hw
    cases hw
    by_cases hj : j = m
    · subst hj
      rw [List.getElem?_set_self (List.getElem?_eq_some_iff.mp ex).1] at y1
      cases y1
      rw [g2] at y2
      cases y2
      rw [Nat.zero_add] at hr ⊢
      exact Rep.setP p hr he2 (by rw [Loc.sub_app]; exact hb) g3 hO (by rw [Loc.sub_app]; exact h')
    · rw [List.getElem?_set_ne (Ne.symm hj)] at y1
      obtain ⟨w2, hw2, hr2⟩ := h3.get j d' y1
      rw [y2] at hw2
      cases hw2
      rw [Nat.zero_add] at hr2 ⊢
      refine Rep.mono d' (fun c o z y => ?_) exn (fun _ _ _ n => n) (fun _ _ _ _ n => n) hr2
      rw [upd_ne (fun e => ?_)]
      · exact .inl z
      · subst e
        rw [hb] at y
        rcases y with y | ⟨q, y⟩
        · cases y
        · exact sub_ne (Ne.symm hj |>.symm) (Option.some.inj y).symm
theorem StW.setP {i : Nat} {p : List Nat} {d : D} {ys : List D} (S : StW G C ow r T s H) (q : r[i]? = some (some d)) (hp : VL.atP p d = some (.node .lst true ys)) :
    ∃ v b vs, s[i]? = some (some v) ∧ PathV H v p (.ref b) ∧ H b = some (.lst vs) ∧ ys.length = vs.length ∧ Reps G ow H ys ⟨.sl i, p⟩ 0 vs ∧ ow b = some ⟨.sl i, p⟩ ∧ ∀ ho : HO, OwnO (some ho) →
      ((∀ (q2 t : List Nat) (u : V), p = q2 ++ t → t ≠ [] → PathV H v q2 u → PathV (upd H b ho) v q2 u ∧ ∃ a, u = .ref a ∧ a ≠ b) ∧
      (∀ e' : D, Rep G ow (upd H b ho) e' ⟨.sl i, p⟩ (.ref b) → StW G C ow (r.set i (some (VL.setP p e' d))) T s (upd H b ho)) ∧ (∀ (d2 : D) (q2 : List Nat) (v2 : V) (j : Nat), Rep G ow H d2 ⟨.sl i, p ++ j :: q2⟩ v2 → Rep G ow (upd H b ho) d2 ⟨.sl i, p ++ j :: q2⟩ v2)) := by
  obtain ⟨v, z1, z2⟩ := S.sl i d q
  obtain ⟨u, g1, g2⟩ := Rep.atP p z2 hp
  obtain ⟨b, vs, eu, hb, hob, hys⟩ := g2
  subst eu
  have hl : (Loc.mk (.sl i) []).app p = ⟨.sl i, p⟩ := rfl
  rw [hl] at hob hys
  have hb : H b = some (.lst vs) := hb
  have hob : ow b = some ⟨.sl i, p⟩ := by simpa [OwnAt] using hob
  refine ⟨v, b, vs, z1, g1, hb, hys.length, hys, hob, fun ho hO => ?_⟩
  have hO1 : ∀ o, H b = some o → OwnO (some o) := fun o z => by rw [hb] at z; cases z; trivial
  have exn : ∀ (c : Addr) (o : HO), H c = some o → ¬ OwnO (some o) → Kt (upd H b ho c) o := fun c o z n => by
    rw [upd_ne (fun e => by rw [e] at z; exact n (hO1 o z))]; exact .inl z
  have far : ∀ (d2 : D) (l2 : Loc) (v2 : V), (∀ q2, l2.app q2 ≠ ⟨.sl i, p⟩) → Rep G ow H d2 l2 v2 → Rep G ow (upd H b ho) d2 l2 v2 := fun d2 l2 v2 hn h => by
    refine Rep.mono d2 (fun c o z y => ?_) exn (fun _ _ _ n => n) (fun _ _ _ _ n => n) h
    rw [upd_ne (fun e => ?_)]
    · exact .inl z
    · subst e
      rw [hob] at y
      rcases y with y | ⟨q, y⟩
      · cases y
      · exact hn q (Option.some.inj y).symm
  have hsub : ∀ (q2 : List Nat) (j : Nat) (q3 : List Nat), (Loc.mk (.sl i) (p ++ j :: q2)).app q3 ≠ ⟨.sl i, p⟩ := fun q2 j q3 e => by
    have e : (p ++ j :: q2) ++ q3 = p := congrArg Loc.p e
    have := congrArg List.length e
    simp at this
  refine ⟨fun q2 t u ep ht hu => ?_, fun e' h => ?_, fun d2 q2 v2 j h => far d2 _ v2 (hsub q2 j) h⟩
  · subst ep
    exact Rep.keepPath q2 z2 hp ht hob hu
  · refine ⟨by simpa using S.len, fun j d' y => ?_, fun j d' v' y => ?_, fun c o n y => ?_, S.own, S.fo, fun c l y => ?_, S.pin, tabs_own S.tabs hb trivial⟩
    · by_cases hj : j = i
      · subst hj
        rw [List.getElem?_set_self (List.getElem?_eq_some_iff.mp q).1] at y
        cases y
        exact ⟨v, z1, Rep.setP p z2 hp hob g1 hO1 h⟩
      · rw [List.getElem?_set_ne (Ne.symm hj)] at y
        obtain ⟨v', y1, y2⟩ := S.sl j d' y
        exact ⟨v', y1, far d' _ v' (fun q2 e => by have e : Bs.sl j = Bs.sl i := congrArg Loc.b e; injection e with e; exact hj e) y2⟩
    · exact far d' _ v' (fun q2 e => by have e : Bs.tm j = Bs.sl i := congrArg Loc.b e; cases e) (S.tm j d' v' y)
    · by_cases hc : c = b
      · subst hc
        rcases S.own c _ hob with z | z | z
        · cases z
        · rw [z] at y; cases y
        · exact absurd z n
      · rw [upd_ne hc]; exact S.old c o n y
    · by_cases hc : c = b
      · subst hc; rw [upd_same]; exact hO
      · rw [upd_ne hc]; exact S.mu c l y
end
theorem atP_cat : ∀ {p q : List Nat} {d f : D}, atP p d = some f → atP (p ++ q) d = atP q f
  | [], q, d, f, h => by cases h; rfl
  | m :: p, q, d, f, h => by
    obtain ⟨k, o, xs, x, rfl, hk, ex, h⟩ := atP_cons h
    exact atP_mk (p := p ++ q) hk ex (atP_cat h)
theorem setP_self : ∀ {p : List Nat} {d f : D}, atP p d = some f → setP p f d = d
  | [], d, f, h => by cases h; rfl
  | m :: p, d, f, h => by
    obtain ⟨k, o, xs, x, rfl, hk, ex, h⟩ := atP_cons h
    rw [setP_mk ex, setP_self h]
    congr 1
    exact List.ext_getElem? fun j => by
      by_cases hj : m = j
      · subst hj
        rw [List.getElem?_set_self (List.getElem?_eq_some_iff.mp ex).1, ex]
      · rw [List.getElem?_set_ne hj]
theorem PathV.unsnoc {H : Hp} : ∀ {p : List Nat} {v : V} {m : Nat} {w : V}, PathV H v (p ++ [m]) w → ∃ a vs, PathV H v p (.ref a) ∧ (H a = some (.lst vs) ∨ H a = some (.tup vs)) ∧ vs[m]? = some w
  | [], v, m, w, h => by
    obtain ⟨a, vs, w', e1, g1, g2, g3⟩ := h
    have g3 : w = w' := g3
    subst g3
    exact ⟨a, vs, e1.symm, g1, g2⟩
  | k :: p, v, m, w, h => by
    obtain ⟨a, vs, w', e1, g1, g2, g3⟩ := h
    obtain ⟨b, us, k1, k2, k3⟩ := PathV.unsnoc g3
    exact ⟨b, us, ⟨a, vs, w', e1, g1, g2, k1⟩, k2, k3⟩
def tPath (i : Nat) (p : List Nat) : TE := fun s H Q => ∃ v u, s[i]? = some (some v) ∧ PathV H v p u ∧ Q u H
abbrev PPath (X : Cx) (e : Expr) (i : Nat) (p : List Nat) : Prop := PE X e (tPath i p)
section
variable {X : Cx} {G : GX} {C : Fc} {W : WX}
theorem pp_var {i : Nat} {x : Str} {pos : Pos} (hN : X.N[i]? = some x) (hv : Vis X.env.scope x) (hd : (x == ("__debug__" : Str)) = false) (hcd : (x == ("__classdict__" : Str)) = false) : PPath X (.Name x pos) i [] :=
  PE.imp (pe_var hN hv hd hcd) fun s H Q ⟨v, u, h1, h2, h3⟩ => by
    have h2 : u = v := h2
    subst h2
    exact ⟨u, h1, h3⟩
theorem pp_ix {i : Nat} {p p' : List Nat} {e : Expr} {k : Int} {m : Nat} {n2 : Nat} {ps2 ps : Pos} (he : PPath X e i p) (hp : p' = p ++ [m] := by rfl) (hk : k = ((m : Nat) : Int) := by rfl) (hs : PlainIx (.Constant (.int k) n2 ps2) := by intro _ _; rfl) : PPath X (.Subscript e (.Constant (.int k) n2 ps2) ps) i p' := by
  subst hp; subst hk
  refine PE.imp (pe_ix ix_seq he pe_int hs) fun s H Q h => ?_
  obtain ⟨v, u, h1, h2, h3⟩ := h
  obtain ⟨a, vs, g1, g2, g3⟩ := h2.unsnoc
  refine ⟨v, .ref a, h1, g1, ?_⟩
  have hat : atI vs ((m : Nat) : Int) = some u := L2.atI_nat g3
  show L2.rIx X.K (.ref a) (.int ((m : Nat) : Int)) H Q
  rcases g2 with z | z
  · exact .inl ⟨a, vs, _, u, rfl, rfl, SqL.of z, hat, h3⟩
  · exact .inr (.inl ⟨a, vs, _, u, rfl, rfl, SqT.of z, hat, h3⟩)
def cClrAt (i : Nat) (p : List Nat) : Ev := fun r => match r[i]? with
  | some (some d) => (match atP p d with
    | some (.node .lst true _) => .ok (.val .non) (r.set i (some (setP p (.node .lst true []) d)))
    | _ => .bad)
  | _ => .bad
def appAll (c : Int) : List D → Option (List D)
  | [] => some []
  | .node .tup o [x, .node .lst true ys] :: ds => if ys.length < 16777216 then (match appAll c ds with
    | some es => some (.node .tup o [x, .node .lst true (ys ++ [.int c])] :: es)
    | none => none) else none
  | _ => none
theorem appAll_cons {c : Int} {d : D} {ds es : List D} (h : appAll c (d :: ds) = some es) : ∃ o x ys es', d = .node .tup o [x, .node .lst true ys] ∧ ys.length < 16777216 ∧ appAll c ds = some es' ∧ es = .node .tup o [x, .node .lst true (ys ++ [.int c])] :: es' := by
  unfold appAll at h
  split at h
  · rename_i e; cases e
  · rename_i o x ys ds' e
    cases e
    split at h
    · rename_i hl
      cases e : appAll c ds with
      | none => rw [e] at h; cases h
      | some es' => rw [e] at h; cases h; exact ⟨o, x, ys, es', rfl, hl, rfl, rfl⟩
    · cases h
  · cases h
theorem appAll_len {c : Int} : ∀ {ds es : List D}, appAll c ds = some es → es.length = ds.length
  | [], es, h => by cases h; rfl
  | d :: ds, es, h => by
    obtain ⟨o, x, ys, es', _, _, h3, rfl⟩ := appAll_cons h
    rw [List.length_cons, List.length_cons, appAll_len h3]
theorem appAll_get {c : Int} : ∀ {ds es : List D} {l : Nat} {d : D}, appAll c ds = some es → ds[l]? = some d → ∃ o x ys, d = .node .tup o [x, .node .lst true ys] ∧ ys.length < 16777216 ∧ es[l]? = some (.node .tup o [x, .node .lst true (ys ++ [.int c])])
  | [], es, l, d, _, h => by simp at h
  | d :: ds, es, 0, d', h, h2 => by
    obtain ⟨o, x, ys, es', rfl, hl, h3, rfl⟩ := appAll_cons h
    cases h2
    exact ⟨o, x, ys, rfl, hl, rfl⟩
  | d :: ds, es, l + 1, d', h, h2 => by
    obtain ⟨o, x, ys, es', rfl, hl, h3, rfl⟩ := appAll_cons h
    exact appAll_get (ds := ds) (es := es') (l := l) h3 (show ds[l]? = some d' from h2)
def cForApp (i : Nat) (p : List Nat) (a b : Nat) (c : Int) : Sv := fun r => match r[i]? with
  | some (some d) => (match atP p d with
    | some (.node .lst o ds) => (match appAll c ds with
      | some es => if b < r.length then .nx (if ds = [] then r else ((r.set i (some (setP p (.node .lst o es) d))).set a (some .any)).set b (some .any)) else .bad
      | none => .bad)
    | _ => .bad)
  | _ => .bad
theorem vs_forApp {i a b : Nat} {p : List Nat} {c : Int} {xa xb : Str} {iter : Expr} {pa pb pt po apos cpos pe pos : Pos} {kk n2 : Nat} (hp : PassesOwn (model X.prog X.w) X.A X.env X.xe) (hc : X.calm = true) (he : PPath X iter i p) (hND : X.N.Nodup)
    (hia : i ≠ a) (hib : i ≠ b) (hab : a ≠ b) (ha : X.N[a]? = some xa) (hla : L2.Loc X.env.scope xa) (hb : X.N[b]? = some xb) (hlb : L2.Loc X.env.scope xb) (pna : ∀ p ∈ C.pin, p.1 ≠ a) (pnb : ∀ p ∈ C.pin, p.1 ≠ b)
    (hdb : (xb == ("__debug__" : Str)) = false) (hcb : (xb == ("__classdict__" : Str)) = false)
    (hfa : X.fn xa = true ∨ X.env.scope.names.lookup xa = some .local := by first | exact .inl rfl | exact .inr rfl | assumption)
    (hfb : X.fn xb = true ∨ X.env.scope.names.lookup xb = some .local := by first | exact .inl rfl | exact .inr rfl | assumption)
    (hsq : (assignEach [.Name xa pa, .Name xb pb] X.env).map (·.2) = assign (.Name xa pa) X.env :: (assignEach [.Name xb pb] X.env).map (·.2) := by rfl)
    (hsr : (assignEach [.Name xb pb] X.env).map (·.2) = assign (.Name xb pb) X.env :: (assignEach [] X.env).map (·.2) := by rfl)
    (hn : (assignEach [.Name xa pa, .Name xb pb] X.env).length = 2 := by rfl) (hst : (assignEach [.Name xa pa, .Name xb pb] X.env).findIdx? (·.1) = none := by rfl)
    (hs : ∀ y, foldedSetIterable iter X.env y = pure y := by intro _; rfl)
    (hbase : attributeBase (.Name xb po) "append" X.env (eval (.Name xb po) X.env) = eval (.Name xb po) X.env := by rfl)
    (hfew : ((backTo cpos (starEach [.Constant (.int c) n2 pe] X.env)).all (fun x => !x.1) && (backToKw cpos (keywordEach [] X.env)).all (fun x => x.1.isSome)
      && decide ([Expr.Constant (.int c) n2 pe].length + ([] : List Keyword).length + (if ([] : List Keyword).isEmpty then 0 else 1) < 30)) = true := by rfl)
    (hline : (apos.endLine == cpos.line) = true := by rfl) (hst1 : starEach [.Constant (.int c) n2 pe] X.env = (false, eval (.Constant (.int c) n2 pe) X.env) :: starEach [] X.env := by rfl) (hplain : (backTo cpos (starEach [] X.env)).any (·.1) = false := by rfl)
    (hsw : swapsWith (.Call (.Attribute (.Name xb po) "append" apos) [.Constant (.int c) n2 pe] [] cpos) none cpos.line X.env = pure false := by rfl) :
    VS X G C W (.For (.Tuple [.Name xa pa, .Name xb pb] kk pt) iter [.Expr (.Call (.Attribute (.Name xb po) "append" apos) [.Constant (.int c) n2 pe] [] cpos) cpos] [] pos) (cForApp i p a b c) := by
  have body : PSs X [.Expr (.Call (.Attribute (.Name xb po) "append" apos) [.Constant (.int c) n2 pe] [] cpos) cpos] (fun D s H => ∃ bb ws, s[b]? = some (some (.ref bb)) ∧ H bb = some (.lst ws) ∧ ws.length < sizeLine ∧ D.nx s (upd H bb (.lst (ws ++ [.int c])))) :=
    pss_one (PS.imp (ps_expr (pe_bm PySem.F.plainAttrs_list PySem.F.slot_list_append PySem.F.type_list_append mt_append (pe_var hb (hlb.elim .inl fun z => .inr (.inl z)) hdb hcb) (pa_cons pe_int pa_nil hst1) hbase hfew hline hst1 hplain) hsw) fun D s H h => by
      obtain ⟨bb, ws, h1, h2, h3, h4⟩ := h
      exact ⟨.ref bb, h1, .inl ⟨rfl, ws, SqL.of h2⟩, bb, ws, .int c, rfl, rfl, h2, h3, h4⟩)
  refine PS.imp (ps_for hp hc (pi_list he) (pg_tup (n := 2) hc (pgs_cons (pg_name hND ha hla hfa) (pgs_cons (pg_name hND hb hlb hfb) pgs_nil hsr) hsq) hn hst) body hs) fun E s H h => ?_
  obtain ⟨r, T, S, h⟩ := h
  unfold cForApp at h
  split at h
  · rename_i d q0
    split at h
    · rename_i o ds hat
      split at h
      · rename_i es hes
        split at h
        case isFalse => exact h.elim
        rename_i hbr
        obtain ⟨ow, S⟩ := S
        obtain ⟨v, z1, z2⟩ := S.sl i d q0
        obtain ⟨u, g1, g2⟩ := Rep.atP p z2 hat
        obtain ⟨aL, vs, eu, hL, _, hys⟩ := g2
        subst eu
        have hL : H aL = some (.lst vs) := hL
        have hlen := hys.length
        have hel := appAll_len hes
        refine ⟨v, .ref aL, z1, g1, aL, rfl, ⟨vs, SqL.of hL⟩, ?_⟩
        let rl : Nat → Rho := fun l => if l = 0 then r else ((r.set i (some (VL.setP p (.node .lst o (es.take l ++ ds.drop l)) d))).set a (some .any)).set b (some .any)
        have hil : i < r.length := (List.getElem?_eq_some_iff.mp q0).1
        have rli : ∀ l, (rl l)[i]? = some (some (VL.setP p (.node .lst o (es.take l ++ ds.drop l)) d)) := fun l => by
          by_cases h0 : l = 0
          · subst h0
            show (if (0 : Nat) = 0 then r else _)[i]? = _
            rw [if_pos rfl, q0, List.take_zero, List.drop_zero, List.nil_append, setP_self hat]
          · show (if l = 0 then r else _)[i]? = _
            rw [if_neg h0, List.getElem?_set_ne (Ne.symm hib), List.getElem?_set_ne (Ne.symm hia), List.getElem?_set_self hil]
        refine ⟨fun l m s' H' => m = ds.length - l ∧ l ≤ ds.length ∧ s'[i]? = some (some v) ∧ PathV H' v p (.ref aL) ∧ H' aL = some (.lst vs) ∧ StOk G C (rl l) T s' H', ⟨ds.length, rfl, Nat.zero_le _, z1, g1, hL, by show StOk G C (if (0 : Nat) = 0 then r else _) T s H; rw [if_pos rfl]; exact ⟨ow, S⟩⟩, ?_⟩
        rintro l m s' H' ⟨rfl, hl0, hpi, hpv, hH', ⟨ow', S'⟩⟩
        by_cases hlt : l < ds.length
        · have hdl : (es.take l ++ ds.drop l)[l]? = some ds[l] := by
            rw [List.getElem?_append_right (by rw [List.length_take]; omega), List.length_take, Nat.min_eq_left (by omega), Nat.sub_self, List.getElem?_drop, Nat.add_zero, List.getElem?_eq_getElem hlt]
          obtain ⟨o2, x, ys, ed, hyl, hesl⟩ := appAll_get hes (List.getElem?_eq_getElem hlt)
          rw [ed] at hdl
          have hat' : VL.atP p (VL.setP p (.node .lst o (es.take l ++ ds.drop l)) d) = some (.node .lst o (es.take l ++ ds.drop l)) := atP_setP hat
          have hat3 : VL.atP (p ++ [l, 1]) (VL.setP p (.node .lst o (es.take l ++ ds.drop l)) d) = some (.node .lst true ys) := by
            rw [atP_cat hat']
            exact atP_mk rfl hdl (atP_mk rfl rfl rfl)
          obtain ⟨v', bb, ws, y1, y2, y3, y4, y5, ob, all⟩ := S'.setP (rli l) hat3
          rw [hpi] at y1
          cases y1
          obtain ⟨keep, put, far⟩ := all (.lst (ws ++ [.int c])) trivial
          have hat2 : VL.atP (p ++ [l]) (VL.setP p (.node .lst o (es.take l ++ ds.drop l)) d) = some (.node .tup o2 [x, .node .lst true ys]) := by
            rw [atP_cat hat']
            exact atP_mk rfl hdl rfl
          obtain ⟨v3, w1, w2⟩ := S'.sl i _ (rli l)
          rw [hpi] at w1
          cases w1
          obtain ⟨u3, k1, k2⟩ := Rep.atP (p ++ [l]) w2 hat2
          obtain ⟨tt, vs3, e3, htt, _, hv3⟩ := k2
          subst e3
          have htt : H' tt = some (.tup vs3) := htt
          obtain ⟨w0, r3, ev3, _, b3, r4, er3, _, er4⟩ := hv3
          have er4 : r4 = [] := er4
          subst er4; subst er3; subst ev3
          have pb : PathV H' v (p ++ [l] ++ [1]) b3 := k1.snoc (.inr htt) rfl
          rw [List.append_assoc] at pb
          have e3 : b3 = .ref bb := pb.one y2
          subst e3
          obtain ⟨a', vs', p1, p2, p3⟩ := k1.unsnoc
          have ea : V.ref a' = .ref aL := p1.one hpv
          cases ea
          have evs : vs' = vs := by
            rcases p2 with z | z
            · rw [hH'] at z; cases z; rfl
            · rw [hH'] at z; cases z
          subst evs
          obtain ⟨kp1, aa, ea, hne⟩ := keep p [l, 1] (.ref aL) rfl (by simp) hpv
          cases ea
          have hbl : b < s'.length := by
            rw [← S'.len]
            show b < (if l = 0 then r else _).length
            split
            · exact hbr
            · simpa using hbr
          refine .inr ⟨⟨vs', .ref tt, SqL.of hH', p3⟩, fun s3 H3 => s3[i]? = some (some v) ∧ PathV H3 v p (.ref aL) ∧ H3 aL = some (.lst vs') ∧ StOk G C (rl (l + 1)) T s3 H3, fun s3 H3 n3 => ⟨ds.length - (l + 1), by omega, rfl, hlt, n3⟩, fun x3 H2 yl => ?_⟩
          obtain ⟨e1, e2⟩ := yl
          subst e1
          have ex := e2 vs' (SqL.of hH')
          rw [p3] at ex
          cases ex
          refine ⟨tt, [w0, .ref bb], rfl, SqT.of htt, rfl, w0, [.ref bb], rfl, .ref bb, [], rfl, rfl, bb, ws, List.getElem?_set_self (by simpa using hbl), y3, Nat.lt_of_lt_of_le (show ws.length < 16777216 by omega) (by decide), ?_, kp1, by rw [upd_ne hne]; exact hH', ?_⟩
          · rw [List.getElem?_set_ne (Ne.symm hib), List.getElem?_set_ne (Ne.symm hia)]; exact hpi
          · have rep' : Rep G ow' (upd H2 bb (.lst (ws ++ [.int c]))) (.node .lst true (ys ++ [.int c])) ⟨.sl i, p ++ [l, 1]⟩ (.ref bb) := by
              refine ⟨bb, ws ++ [V.int c], rfl, upd_same, .mk (by rw [ob]; rfl), Reps.of_get (by rw [List.length_append, List.length_append, y4]; rfl) fun j d' v' x1 x2 => ?_⟩
              by_cases hj : j < ys.length
              · rw [List.getElem?_append_left hj] at x1
                rw [List.getElem?_append_left (by omega)] at x2
                obtain ⟨v2, g3, g4⟩ := y5.get j d' x1
                rw [x2] at g3
                cases g3
                rw [Nat.zero_add] at g4 ⊢
                exact far d' [] v' j g4
              · rw [List.getElem?_append_right (by omega)] at x1
                rw [List.getElem?_append_right (by omega), ← y4] at x2
                have e0 : j - ys.length = 0 := by
                  have := (List.getElem?_eq_some_iff.mp x1).1
                  simp at this; omega
                rw [e0] at x1 x2
                cases x1
                cases x2
                rfl
            have S2 := put _ rep'
            have ed2 : VL.setP (p ++ [l, 1]) (.node .lst true (ys ++ [.int c])) (VL.setP p (.node .lst o (es.take l ++ ds.drop l)) d) = VL.setP p (.node .lst o (es.take (l + 1) ++ ds.drop (l + 1))) d := by
              rw [setP_app hat', setP_setP hat, setP_mk hdl, setP_mk (show ([x, D.node .lst true ys] : List D)[1]? = some (.node .lst true ys) from rfl)]
              congr 2
              have hle : l < es.length := by omega
              rw [List.set_append_right _ _ (by rw [List.length_take]; omega), List.length_take, Nat.min_eq_left (by omega), Nat.sub_self, List.take_succ, hesl]
              simp [VL.setP]
              rw [← List.getElem_cons_drop hlt]
              rfl
            rw [ed2] at S2
            have S3 := StOk.set (i := a) ⟨_, S2.push (d := .any) (v := w0) trivial⟩ pna
            obtain ⟨ow4, S3⟩ := S3
            have S4 := StOk.set (i := b) ⟨_, S3.push (d := .any) (v := .ref bb) trivial⟩ pnb
            have er : (((rl l).set i (some (VL.setP p (.node .lst o (es.take (l + 1) ++ ds.drop (l + 1))) d))).set a (some .any)).set b (some .any) = rl (l + 1) := by
              show ((List.set (if l = 0 then r else _) i _).set a _).set b _ = (if l + 1 = 0 then r else _)
              rw [if_neg (Nat.succ_ne_zero l)]
              split
              · rfl
              · rw [List.set_comm _ _ (Ne.symm hib), List.set_comm _ _ (Ne.symm hia), List.set_set, List.set_comm _ _ (Ne.symm hab), List.set_set, List.set_set]
            rw [er] at S4
            exact S4
        · have ej : l = ds.length := by omega
          subst ej
          refine .inl ⟨⟨vs, SqL.of hH', by rw [← hlen]; exact Nat.le_refl _⟩, h s' H' ?_⟩
          have e : rl ds.length = (if ds = [] then r else ((r.set i (some (VL.setP p (.node .lst o es) d))).set a (some .any)).set b (some .any)) := by
            show (if ds.length = 0 then r else _) = _
            by_cases h0 : ds = []
            · rw [if_pos h0, if_pos (by rw [h0]; rfl)]
            · rw [if_neg h0, if_neg (fun z => h0 (List.eq_nil_of_length_eq_zero z)), List.drop_length, List.append_nil, List.take_of_length_le (by omega)]
          rw [e] at S'
          exact ⟨ow', S'⟩
      · exact h.elim
    · exact h.elim
  · exact h.elim
end
end VL

namespace VL
open PySem PySem.Spec PyProof.Rows L2
abbrev FKl (x : Str) (s : Stmt) : Prop := List.lookup x (defScope s).names = some .local
abbrev FKg (x : Str) (s : Stmt) : Prop := List.lookup x (defScope s).names = some .globalImplicit
abbrev FNi (l : List Str) (i : Nat) (x : Str) : Prop := l[i]? = some x
abbrev FDb (x : Str) : Prop := (x == ("__debug__" : Str)) = false
abbrev FCd (x : Str) : Prop := (x == ("__classdict__" : Str)) = false
end VL
namespace K63
def tab : Tab := [(4, .inl 0, true), (4, .inl 2, false), (4, .inl 6, false), (4, .inl 1, false), (4, .inl 3, false), (4, .inl 7, false), (4, .inl 5, false), (4, .inl 4, true), (4, .inr "ValueError", true), (1, .inl 0, true), (1, .inl 2, false), (1, .inl 6, false), (1, .inl 1, true), (1, .inl 3, false), (1, .inl 7, false), (1, .inl 5, false), (1, .inl 4, false), (1, .inr "ValueError", true)]
noncomputable def f__law_first : Sv := (cSeq (cIfS (cBin (g2 eqR) (cVar 0) (cLst cNil)) (cRet (cC (.int 0))) cSkip)
  (cRet (cBin gDiv (cBin gIx (cVar 0) (cC (.int 0))) (cC (.int 2)))))
noncomputable def F__law_first : List D → FO := runF 1 f__law_first
noncomputable def f__law_draw : Sv := (cSeq (cIfS (cTru (cBin dgetK (cVar 0) (cC (.str "digits")))) (cSeq (cAsg (.nm 2) (cBin gMod (cBin dgetK (cVar 0) (cC (.str "rest"))) (cVar 1)))
  (cSeq (cDPut 0 (cC (.str "rest")) (cBin gDiv (cBin dgetK (cVar 0) (cC (.str "rest"))) (cVar 1)))
  (cRet (cVar 2)))) cSkip)
  (cSeq (cDPut 0 (cC (.str "count")) (cBin gAdd (cBin dgetK (cVar 0) (cC (.str "count"))) (cC (.int 1))))
  (cSeq (cAsg (.nm 3) (cBin gMod (cBin gAdd (cBin gMod (cBin dgetK (cVar 0) (cC (.str "rest"))) (cC (.int 999999999989))) (cBin gMul (cC (.int 350377)) (cBin dgetK (cVar 0) (cC (.str "count"))))) (cC (.int 999999999989))))
  (cSeq (cAsg (.nm 3) (cBin gMod (cBin gMul (cVar 3) (cVar 3)) (cC (.int 1000000000039))))
  (cSeq (cAsg (.nm 3) (cBin gMod (cBin gMul (cBin gAdd (cVar 3) (cC (.int 290027))) (cVar 3)) (cC (.int 999999999961))))
  (cRet (cBin gMod (cBin gDiv (cVar 3) (cC (.int 7))) (cVar 1))))))))
noncomputable def F__law_draw : D → List D → MO := runQ 0 4 f__law_draw
noncomputable def f__law_block : Sv := (cSeq (cAsg (.nm 1) (cBin gIx (cLst (cCons (cSet (cCallQ 0 1 F__law_draw (cCons (cVar 0) (cCons (cSet (cC (.int 6))) cNil)))) (cCons (cSet (cCallQ 0 1 F__law_draw (cCons (cVar 0) (cCons (cSet (cBin gPow (cC (.int 10)) (cC (.int 6)))) cNil)))) cNil))) (cCallQ 0 1 F__law_draw (cCons (cVar 0) (cCons (cSet (cC (.int 2))) cNil)))))
  (cRet (cTup (cCons (cSet (cVar 1)) (cCons (cSet (cLc [2] (.nm 2) (iRng rngI1 (cCons (cCallQ 0 1 F__law_draw (cCons (cVar 0) (cCons (cSet (cC (.int 31))) cNil))) cNil)) none (cCallQ 0 1 F__law_draw (cCons (cVar 0) (cCons (cSet (cC (.int 2))) cNil))))) cNil)))))
noncomputable def F__law_block : D → List D → MO := runQ 0 3 f__law_block
noncomputable def f__law_state : Sv := (cSeq (cAsg (.nm 2) (cC (.int 0)))
  (cSeq (cIfS (cBin gLt (cVar 1) (cB (b1 lenD) (cCons (cVar 0) cNil))) (cAsg (.nm 2) (cBin gIx (cVar 0) (cVar 1))) cSkip)
  (cRet (cDDisp [((cC (.str "rest")), (cVar 2)), ((cC (.str "digits")), (cOr (cBin gEq (cSl (cVar 0) none (some (cC (.int 1)))) (cLst cNil)) (cBin gEq (cBin gMod (cBin gIx (cVar 0) (cC (.int 0))) (cC (.int 2))) (cC (.int 0))))), ((cC (.str "count")), (cVar 1))]))))
noncomputable def F__law_state : List D → FO := runF 3 f__law_state
noncomputable def f__law_container : Sv := (cSeq (cAsg (.nm 1) (cCall 1 F__law_first (cCons (cVar 0) cNil)))
  (cSeq (cAsg (.nm 2) (cBin gAdd (cC (.int 1)) (cBin gMod (cVar 1) (cC (.int 64)))))
  (cSeq (cAsg (.nm 3) (cBin gMod (cBin gDiv (cVar 1) (cC (.int 64))) (cC (.int 401))))
  (cSeq (cAsg (.nm 3) (cB (gMin2) (cCons (cVar 3) (cCons (cBin gMul (cC (.int 40)) (cVar 2)) cNil))))
  (cSeq (cAsg (.nm 4) (cLc [5] (.nm 5) (iRng rngI1 (cCons (cBin gDiv (cBin gSub (cBin gAdd (cVar 3) (cVar 2)) (cC (.int 1))) (cVar 2)) cNil)) none (cCallQ 0 0 F__law_block (cCons (cCall 2 F__law_state (cCons (cVar 0) (cCons (cBin gAdd (cC (.int 2)) (cVar 5)) cNil))) cNil))))
  (cSeq (cIfS (cBin gEq (cBin gMod (cBin gDiv (cVar 1) (cC (.int 25664))) (cC (.int 4))) (cC (.int 1))) (cAsg (.nm 4) (cLc [6, 7] (.tp [6, 7]) (iLst (cVar 4)) none (cTup (cCons (cSet (cVar 6)) (cCons (cSet (cB (gListOf) (cCons (cBin gIx (cBin gIx (cVar 4) (cC (.int 0))) (cC (.int 1))) cNil))) cNil))))) cSkip)
  (cRet (cTup (cCons (cSet (cVar 2)) (cCons (cSet (cVar 3)) (cCons (cSet (cVar 4)) cNil)))))))))))
noncomputable def F__law_container : List D → FO := runF 8 f__law_container
noncomputable def f_blocks_for : Sv := (cRet (cBin gDiv (cBin gSub (cBin gAdd (cVar 1) (cVar 0)) (cC (.int 1))) (cVar 0)))
noncomputable def F_blocks_for : List D → FO := runF 2 f_blocks_for
noncomputable def f_need_container : Sv := (cSeq (cAsg (.tp [1, 2, 3]) (cVar 0))
  (cSeq (cIfS (cOr (cBin gLt (cVar 1) (cC (.int 1))) (cOr (cBin gGt (cVar 1) (cC (.int 64))) (cOr (cBin gLt (cVar 2) (cC (.int 0))) (cBin gGt (cVar 2) (cC (.int 400)))))) (cRaise 4) cSkip)
  (cSeq (cIfS (cBin gNe (cB (b1 lenD) (cCons (cVar 3) cNil)) (cCall 2 F_blocks_for (cCons (cVar 1) (cCons (cVar 2) cNil)))) (cRaise 4) cSkip)
  (cFor (.tp [4, 5]) (iLst (cVar 3)) (cIfS (cBin gLt (cVar 4) (cC (.int 0))) (cRaise 4) cSkip)))))
noncomputable def F_need_container : List D → FO := runF 6 f_need_container
noncomputable def f_figures_of : Sv := (cSeq (cAsg (.nm 1) (cLst cNil))
  (cSeq (whileL (cBin gGt (cVar 0) (cC (.int 0))) (cSeq (cExpr (cApp 1 (cBin gMod (cVar 0) (cC (.int 2)))))
  (cAsg (.nm 0) (cBin gDiv (cVar 0) (cC (.int 2))))) fuel)
  (cRet (cVar 1))))
noncomputable def F_figures_of : List D → FO := runF 2 f_figures_of
noncomputable def f_ending_bits : Sv := (cSeq (cIfS (cBin gLt (cVar 0) (cC (.int 1))) (cRaise 1) cSkip)
  (cSeq (cAsg (.nm 1) (cCall 1 F_figures_of (cCons (cVar 0) cNil)))
  (cRet (cBin gAdd (cBin gMul (cLst (cCons (cSet (cC (.int 0))) cNil)) (cBin gSub (cB (b1 lenD) (cCons (cVar 1) cNil)) (cC (.int 1)))) (cRev (cVar 1))))))
noncomputable def F_ending_bits : List D → FO := runF 2 f_ending_bits
noncomputable def f_row_bits : Sv := (cSeq (cAsg (.nm 1) (cCall 1 F_ending_bits (cCons (cBin gAdd (cB (b1 lenD) (cCons (cVar 0) cNil)) (cC (.int 1))) cNil)))
  (cSeq (cFor (.nm 2) (iLst (cVar 0)) (cExpr (cExt 1 (cCall 1 F_ending_bits (cCons (cBin gAdd (cVar 2) (cC (.int 1))) cNil)))))
  (cRet (cVar 1))))
noncomputable def F_row_bits : List D → FO := runF 3 f_row_bits
noncomputable def f_container_bits : Sv := (cSeq (cExpr (cCall 1 F_need_container (cCons (cVar 0) cNil)))
  (cSeq (cAsg (.tp [1, 2, 3]) (cVar 0))
  (cSeq (cAsg (.nm 4) (cLst (cCons (cSet (cVar 1)) (cCons (cSet (cVar 2)) cNil))))
  (cSeq (cAsg (.nm 5) (cLst cNil))
  (cSeq (cFor (.tp [6, 7]) (iLst (cVar 3)) (cSeq (cExpr (cExt 4 (cLst (cCons (cSet (cVar 6)) (cCons (cSet (cB (b1 lenD) (cCons (cVar 7) cNil))) cNil)))))
  (cExpr (cExt 5 (cVar 7)))))
  (cRet (cBin gAdd (cCall 1 F_row_bits (cCons (cVar 4) cNil)) (cVar 5))))))))
noncomputable def F_container_bits : List D → FO := runF 8 f_container_bits
noncomputable def f_number_of : Sv := (cSeq (cAsg (.nm 1) (cC (.int 0)))
  (cSeq (cFor (.nm 2) (iLst (cVar 0)) (cAsg (.nm 1) (cBin gAdd (cBin gMul (cC (.int 2)) (cVar 1)) (cVar 2))))
  (cRet (cVar 1))))
noncomputable def F_number_of : List D → FO := runF 3 f_number_of
noncomputable def f_read_ending : Sv := (cSeq (cIfS (cBin gLt (cVar 1) (cC (.int 0))) (cRaise 4) cSkip)
  (cSeq (cAsg (.nm 2) (cVar 1))
  (cSeq (whileL (cAnd (cBin gLt (cVar 2) (cB (b1 lenD) (cCons (cVar 0) cNil))) (cBin gEq (cBin gIx (cVar 0) (cVar 2)) (cC (.int 0)))) (cAug 2 (g2 iAdd) (cC (.int 1))) fuel)
  (cSeq (cAsg (.nm 3) (cBin gAdd (cBin gSub (cBin gMul (cC (.int 2)) (cVar 2)) (cVar 1)) (cC (.int 1))))
  (cSeq (cIfS (cBin gGt (cVar 3) (cB (b1 lenD) (cCons (cVar 0) cNil))) (cRaise 4) cSkip)
  (cRet (cTup (cCons (cSet (cCall 1 F_number_of (cCons (cSl (cVar 0) (some (cVar 2)) (some (cVar 3))) cNil))) (cCons (cSet (cVar 3)) cNil)))))))))
noncomputable def F_read_ending : List D → FO := runF 4 f_read_ending
noncomputable def f_read_row : Sv := (cSeq (cAsg (.tp [2, 3]) (cCall 2 F_read_ending (cCons (cVar 0) (cCons (cVar 1) cNil))))
  (cSeq (cAsg (.nm 4) (cLst cNil))
  (cSeq (whileL (cBin gLt (cB (b1 lenD) (cCons (cVar 4) cNil)) (cBin gSub (cVar 2) (cC (.int 1)))) (cSeq (cAsg (.tp [5, 3]) (cCall 2 F_read_ending (cCons (cVar 0) (cCons (cVar 3) cNil))))
  (cExpr (cApp 4 (cBin gSub (cVar 5) (cC (.int 1)))))) fuel)
  (cRet (cTup (cCons (cSet (cVar 4)) (cCons (cSet (cVar 3)) cNil)))))))
noncomputable def F_read_row : List D → FO := runF 6 f_read_row
noncomputable def f_read_container : Sv := (cSeq (cAsg (.tp [1, 2]) (cCall 2 F_read_row (cCons (cVar 0) (cCons (cC (.int 0)) cNil))))
  (cSeq (cIfS (cOr (cBin gLt (cB (b1 lenD) (cCons (cVar 1) cNil)) (cC (.int 2))) (cBin gEq (cBin gMod (cB (b1 lenD) (cCons (cVar 1) cNil)) (cC (.int 2))) (cC (.int 1)))) (cRaise 4) cSkip)
  (cSeq (cAsg (.nm 3) (cLst cNil))
  (cSeq (cFor (.nm 4) (iRng rngI3 (cCons (cC (.int 2)) (cCons (cB (b1 lenD) (cCons (cVar 1) cNil)) (cCons (cC (.int 2)) cNil)))) (cSeq (cExpr (cApp 3 (cTup (cCons (cSet (cBin gIx (cVar 1) (cVar 4))) (cCons (cSet (cSl (cVar 0) (some (cVar 2)) (some (cBin gAdd (cVar 2) (cBin gIx (cVar 1) (cBin gAdd (cVar 4) (cC (.int 1)))))))) cNil)))))
  (cAug 2 (g2 iAdd) (cBin gIx (cVar 1) (cBin gAdd (cVar 4) (cC (.int 1)))))))
  (cSeq (cIfS (cBin gNe (cVar 2) (cB (b1 lenD) (cCons (cVar 0) cNil))) (cRaise 4) cSkip)
  (cSeq (cAsg (.nm 5) (cTup (cCons (cSet (cBin gIx (cVar 1) (cC (.int 0)))) (cCons (cSet (cBin gIx (cVar 1) (cC (.int 1)))) (cCons (cTake 3) cNil)))))
  (cSeq (cExpr (cCall 1 F_need_container (cCons (cVar 5) cNil)))
  (cRet (cVar 5)))))))))
noncomputable def F_read_container : List D → FO := runF 6 f_read_container
noncomputable def f__law_ending : Sv := (cSeq (cAsg (.nm 1) (cLst cNil))
  (cSeq (whileL (cBin gGt (cVar 0) (cC (.int 0))) (cSeq (cAsg (.nm 1) (cBin gAdd (cLst (cCons (cSet (cBin gMod (cVar 0) (cC (.int 2)))) cNil)) (cVar 1)))
  (cAsg (.nm 0) (cBin gDiv (cVar 0) (cC (.int 2))))) fuel)
  (cRet (cBin gAdd (cBin gMul (cLst (cCons (cSet (cC (.int 0))) cNil)) (cBin gSub (cB (b1 lenD) (cCons (cVar 1) cNil)) (cC (.int 1)))) (cVar 1)))))
noncomputable def F__law_ending : List D → FO := runF 2 f__law_ending
noncomputable def f__law_row : Sv := (cSeq (cAsg (.nm 1) (cCall 1 F__law_ending (cCons (cBin gAdd (cB (b1 lenD) (cCons (cVar 0) cNil)) (cC (.int 1))) cNil)))
  (cSeq (cFor (.nm 2) (iLst (cVar 0)) (cAsg (.nm 1) (cBin gAdd (cVar 1) (cCall 1 F__law_ending (cCons (cBin gAdd (cVar 2) (cC (.int 1))) cNil)))))
  (cRet (cVar 1))))
noncomputable def F__law_row : List D → FO := runF 3 f__law_row
noncomputable def f__law_written : Sv := (cSeq (cAsg (.nm 1) (cLst (cCons (cSet (cBin gIx (cVar 0) (cC (.int 0)))) (cCons (cSet (cBin gIx (cVar 0) (cC (.int 1)))) cNil))))
  (cSeq (cAsg (.nm 2) (cLst cNil))
  (cSeq (cFor (.tp [3, 4]) (iLst (cBin gIx (cVar 0) (cC (.int 2)))) (cSeq (cAsg (.nm 1) (cBin gAdd (cVar 1) (cLst (cCons (cSet (cVar 3)) (cCons (cSet (cB (b1 lenD) (cCons (cVar 4) cNil))) cNil)))))
  (cAsg (.nm 2) (cBin gAdd (cVar 2) (cVar 4)))))
  (cRet (cBin gAdd (cCall 1 F__law_row (cCons (cVar 1) cNil)) (cVar 2))))))
noncomputable def F__law_written : List D → FO := runF 5 f__law_written
noncomputable def f__law_read_ending : Sv := (cSeq (cAsg (.nm 2) (cC (.int 0)))
  (cSeq (whileL (cAnd (cBin gLt (cBin gAdd (cVar 1) (cVar 2)) (cB (b1 lenD) (cCons (cVar 0) cNil))) (cBin gEq (cBin gIx (cVar 0) (cBin gAdd (cVar 1) (cVar 2))) (cC (.int 0)))) (cAsg (.nm 2) (cBin gAdd (cVar 2) (cC (.int 1)))) fuel)
  (cSeq (cAsg (.nm 3) (cBin gAdd (cBin gAdd (cVar 1) (cBin gMul (cC (.int 2)) (cVar 2))) (cC (.int 1))))
  (cSeq (cIfS (cBin gGt (cVar 3) (cB (b1 lenD) (cCons (cVar 0) cNil))) (cRet (cC .non)) cSkip)
  (cSeq (cAsg (.nm 4) (cC (.int 0)))
  (cSeq (cFor (.nm 5) (iLst (cSl (cVar 0) (some (cBin gAdd (cVar 1) (cVar 2))) (some (cVar 3)))) (cAsg (.nm 4) (cBin gAdd (cBin gMul (cC (.int 2)) (cVar 4)) (cVar 5))))
  (cRet (cTup (cCons (cSet (cVar 4)) (cCons (cSet (cVar 3)) cNil))))))))))
noncomputable def F__law_read_ending : List D → FO := runF 6 f__law_read_ending
noncomputable def f__law_read_row : Sv := (cSeq (cAsg (.nm 2) (cCall 2 F__law_read_ending (cCons (cVar 0) (cCons (cVar 1) cNil))))
  (cSeq (cIfS (cBin gIs (cVar 2) (cC .non)) (cRet (cC .non)) cSkip)
  (cSeq (cAsg (.nm 3) (cLst cNil))
  (cSeq (cAsg (.nm 4) (cBin gIx (cVar 2) (cC (.int 1))))
  (cSeq (whileL (cBin gLt (cB (b1 lenD) (cCons (cVar 3) cNil)) (cBin gSub (cBin gIx (cVar 2) (cC (.int 0))) (cC (.int 1)))) (cSeq (cAsg (.nm 5) (cCall 2 F__law_read_ending (cCons (cVar 0) (cCons (cVar 4) cNil))))
  (cSeq (cIfS (cBin gIs (cVar 5) (cC .non)) (cRet (cC .non)) cSkip)
  (cSeq (cExpr (cApp 3 (cBin gSub (cBin gIx (cVar 5) (cC (.int 0))) (cC (.int 1)))))
  (cAsg (.nm 4) (cBin gIx (cVar 5) (cC (.int 1))))))) fuel)
  (cRet (cTup (cCons (cSet (cVar 3)) (cCons (cSet (cVar 4)) cNil)))))))))
noncomputable def F__law_read_row : List D → FO := runF 6 f__law_read_row
noncomputable def f__law_due : Sv := (cSeq (cAsg (.nm 1) (cCall 2 F__law_read_row (cCons (cVar 0) (cCons (cC (.int 0)) cNil))))
  (cSeq (cIfS (cOr (cBin gIs (cVar 1) (cC .non)) (cOr (cBin gLt (cB (b1 lenD) (cCons (cBin gIx (cVar 1) (cC (.int 0))) cNil)) (cC (.int 2))) (cBin gEq (cBin gMod (cB (b1 lenD) (cCons (cBin gIx (cVar 1) (cC (.int 0))) cNil)) (cC (.int 2))) (cC (.int 1))))) (cRet (cC .non)) cSkip)
  (cSeq (cAsg (.tl [2, 3]) (cSl (cBin gIx (cVar 1) (cC (.int 0))) none (some (cC (.int 2)))))
  (cSeq (cAsg (.nm 4) (cBin gIx (cVar 1) (cC (.int 1))))
  (cSeq (cAsg (.nm 5) (cLst cNil))
  (cSeq (cFor (.nm 6) (iRng rngI3 (cCons (cC (.int 2)) (cCons (cB (b1 lenD) (cCons (cBin gIx (cVar 1) (cC (.int 0))) cNil)) (cCons (cC (.int 2)) cNil)))) (cSeq (cExpr (cApp 5 (cTup (cCons (cSet (cBin gIx (cBin gIx (cVar 1) (cC (.int 0))) (cVar 6))) (cCons (cSet (cSl (cVar 0) (some (cVar 4)) (some (cBin gAdd (cVar 4) (cBin gIx (cBin gIx (cVar 1) (cC (.int 0))) (cBin gAdd (cVar 6) (cC (.int 1)))))))) cNil)))))
  (cAsg (.nm 4) (cBin gAdd (cVar 4) (cBin gIx (cBin gIx (cVar 1) (cC (.int 0))) (cBin gAdd (cVar 6) (cC (.int 1))))))))
  (cSeq (cIfS (cOr (cBin gNe (cVar 4) (cB (b1 lenD) (cCons (cVar 0) cNil))) (cOr (cBin gLt (cVar 2) (cC (.int 1))) (cOr (cBin gGt (cVar 2) (cC (.int 64))) (cOr (cBin gGt (cVar 3) (cC (.int 400))) (cBin gNe (cB (b1 lenD) (cCons (cVar 5) cNil)) (cBin gDiv (cBin gSub (cBin gAdd (cVar 3) (cVar 2)) (cC (.int 1))) (cVar 2))))))) (cRet (cC .non)) cSkip)
  (cRet (cTup (cCons (cSet (cVar 2)) (cCons (cSet (cVar 3)) (cCons (cSet (cVar 5)) cNil))))))))))))
noncomputable def F__law_due : List D → FO := runF 7 f__law_due
noncomputable def f__law_read : Sv := (cSeq (cAsg (.nm 1) (cC .non))
  (cSeq (cAsg (.nm 2) (cC .non))
  (cSeq (cAsg (.nm 3) (cB (gListOf) (cCons (cVar 0) cNil)))
  (cSeq (cTry (tbOf tab 0) (some 4) (cAsg (.nm 2) (cCall 1 F_read_container (cCons (cVar 3) cNil))) (cAsg (.nm 1) (cVar 4)))
  (cSeq (cAsg (.nm 5) (cCall 1 F__law_due (cCons (cVar 0) cNil)))
  (cSeq (cIfS (cBin gNe (cVar 3) (cVar 0)) (cRet (cC (.bl false))) cSkip)
  (cSeq (cIfS (cBin gIsNot (cVar 5) (cC .non)) (cRet (cAnd (cBin gIs (cVar 1) (cC .non)) (cAnd (cB (gIsi (etab tab)) (cCons (cVar 2) (cCons (cC (.ty "tuple")) cNil))) (cAnd (cBin gEq (cVar 2) (cVar 5)) (cB (gIsi (etab tab)) (cCons (cBin gIx (cVar 2) (cC (.int 2))) (cCons (cC (.ty "list")) cNil))))))) cSkip)
  (cSeq (cAsg (.nm 6) (cLst (cCons (cSet (cB (gIsi (etab tab)) (cCons (cVar 1) (cCons (cC (.cls 2)) cNil)))) (cCons (cSet (cB (gIsi (etab tab)) (cCons (cVar 1) (cCons (cC (.cls 6)) cNil)))) (cCons (cSet (cB (gIsi (etab tab)) (cCons (cVar 1) (cCons (cC (.cls 1)) cNil)))) cNil)))))
  (cSeq (cAsg (.nm 6) (cBin gAdd (cVar 6) (cLst (cCons (cSet (cB (gIsi (etab tab)) (cCons (cVar 1) (cCons (cC (.cls 3)) cNil)))) (cCons (cSet (cB (gIsi (etab tab)) (cCons (cVar 1) (cCons (cC (.cls 7)) cNil)))) (cCons (cSet (cB (gIsi (etab tab)) (cCons (cVar 1) (cCons (cC (.cls 5)) cNil)))) cNil))))))
  (cRet (cAnd (cB (gIsi (etab tab)) (cCons (cVar 1) (cCons (cC (.cls 4)) cNil))) (cAnd (cB (gIsi (etab tab)) (cCons (cVar 1) (cCons (cC (.ty "ValueError")) cNil))) (cBin gNotIn (cC (.bl true)) (cVar 6))))))))))))))
noncomputable def F__law_read : List D → FO := runF 7 f__law_read
noncomputable def f__law_spoilt : Sv := (cSeq (cAsg (.nm 2) (cCallQ 0 1 F__law_draw (cCons (cVar 1) (cCons (cSet (cBin gAdd (cB (b1 lenD) (cCons (cVar 0) cNil)) (cC (.int 1)))) cNil))))
  (cSeq (cAsg (.nm 3) (cCallQ 0 1 F__law_draw (cCons (cVar 1) (cCons (cSet (cC (.int 8))) cNil))))
  (cSeq (cIfS (cBin gEq (cVar 3) (cC (.int 0))) (cRet (cBin gAdd (cBin gAdd (cSl (cVar 0) none (some (cVar 2))) (cLc [5] (.nm 5) (iLst (cSl (cVar 0) (some (cVar 2)) (some (cBin gAdd (cVar 2) (cC (.int 1)))))) none (cBin gSub (cC (.int 1)) (cVar 5)))) (cSl (cVar 0) (some (cBin gAdd (cVar 2) (cC (.int 1)))) none))) cSkip)
  (cSeq (cIfS (cBin gEq (cVar 3) (cC (.int 1))) (cRet (cBin gAdd (cSl (cVar 0) none (some (cVar 2))) (cSl (cVar 0) (some (cBin gAdd (cBin gAdd (cVar 2) (cC (.int 1))) (cCallQ 0 1 F__law_draw (cCons (cVar 1) (cCons (cSet (cC (.int 2))) cNil))))) none))) cSkip)
  (cSeq (cIfS (cBin gEq (cVar 3) (cC (.int 2))) (cRet (cBin gAdd (cVar 0) (cLc [4] (.nm 4) (iRng rngI1 (cCons (cBin gAdd (cC (.int 1)) (cCallQ 0 1 F__law_draw (cCons (cVar 1) (cCons (cSet (cC (.int 9))) cNil)))) cNil)) none (cCallQ 0 1 F__law_draw (cCons (cVar 1) (cCons (cSet (cC (.int 2))) cNil)))))) cSkip)
  (cSeq (cIfS (cBin gEq (cVar 3) (cC (.int 3))) (cRet (cBin gAdd (cBin gAdd (cSl (cVar 0) none (some (cVar 2))) (cLst (cCons (cSet (cCallQ 0 1 F__law_draw (cCons (cVar 1) (cCons (cSet (cC (.int 2))) cNil)))) cNil))) (cSl (cVar 0) (some (cVar 2)) none))) cSkip)
  (cSeq (cIfS (cBin gEq (cVar 3) (cC (.int 4))) (cRet (cLc [4] (.nm 4) (iRng rngI1 (cCons (cCallQ 0 1 F__law_draw (cCons (cVar 1) (cCons (cSet (cC (.int 61))) cNil))) cNil)) none (cCallQ 0 1 F__law_draw (cCons (cVar 1) (cCons (cSet (cC (.int 2))) cNil))))) cSkip)
  (cSeq (cIfS (cBin gEq (cVar 3) (cC (.int 5))) (cRet (cSl (cVar 0) none (some (cBin gSub (cB (b1 lenD) (cCons (cVar 0) cNil)) (cB (gMin2) (cCons (cB (b1 lenD) (cCons (cVar 0) cNil)) (cCons (cCallQ 0 1 F__law_draw (cCons (cVar 1) (cCons (cSet (cC (.int 9))) cNil))) cNil))))))) cSkip)
  (cRet (cVar 0))))))))))
noncomputable def F__law_spoilt : D → List D → MO := runQ 1 6 f__law_spoilt
noncomputable def f_law : Sv := (cSeq (cAsg (.nm 1) (cCall 1 F__law_container (cCons (cVar 0) cNil)))
  (cSeq (cAsg (.nm 2) (cTup (cCons (cSet (cBin gIx (cVar 1) (cC (.int 0)))) (cCons (cSet (cBin gIx (cVar 1) (cC (.int 1)))) (cCons (cSet (cLc [6, 3] (.tp [6, 3]) (iLst (cBin gIx (cVar 1) (cC (.int 2)))) none (cTup (cCons (cSet (cVar 6)) (cCons (cSet (cB (gListOf) (cCons (cVar 3) cNil))) cNil))))) cNil)))))
  (cSeq (cAsg (.nm 3) (cCall 1 F_container_bits (cCons (cVar 2) cNil)))
  (cSeq (cIfS (cOr (cNot (cB (gIsi (etab tab)) (cCons (cVar 3) (cCons (cC (.ty "list")) cNil)))) (cOr (cBin gNe (cVar 3) (cCall 1 F__law_written (cCons (cVar 1) cNil))) (cBin gNe (cVar 2) (cVar 1)))) (cRet (cC (.bl false))) cSkip)
  (cSeq (cAsg (.nm 4) (cB (gListOf) (cCons (cVar 3) cNil)))
  (cSeq (cAsg (.nm 5) (cCall 1 F_read_container (cCons (cVar 3) cNil)))
  (cSeq (cIfS (cOr (cBin gNe (cVar 5) (cVar 1)) (cOr (cBin gNe (cVar 3) (cVar 4)) (cBin gNe (cLcO 3 [11] (.nm 11) (some (cB (gIsi (etab tab)) (cCons (cVar 11) (cCons (cC (.ty "bool")) cNil)))) (cVar 11)) (cLst cNil)))) (cRet (cC (.bl false))) cSkip)
  (cSeq (cIfS (cPure (cBin gNe (cPure (cLc [10] (.nm 10) (iLst (cBin gAdd (cB (gListOf) (cCons (cSl (cVar 5) none (some (cC (.int 2)))) cNil)) (cPure (cLc [6, 7] (.tp [6, 7]) (iLst (cBin gIx (cVar 5) (cC (.int 2)))) none (cVar 6))))) (some (cB (gIsi (etab tab)) (cCons (cVar 10) (cCons (cC (.ty "bool")) cNil)))) (cVar 10))) (cLst cNil))) (cRet (cC (.bl false))) cSkip)
  (cSeq (cForApp 5 [2] 6 7 1)
  (cSeq (cIfS (cPure (cBin gNe (cBin gIx (cVar 5) (cC (.int 2))) (cLc [6, 7] (.tp [6, 7]) (iLst (cBin gIx (cVar 1) (cC (.int 2)))) none (cTup (cCons (cSet (cVar 6)) (cCons (cSet (cBin gAdd (cVar 7) (cLst (cCons (cSet (cC (.int 1))) cNil)))) cNil)))))) (cRet (cC (.bl false))) cSkip)
  (cSeq (cExpr (cAppP 5 (cC (.int 2)) (cTup (cCons (cSet (cC (.int 0))) (cCons (cSet (cLst cNil)) cNil)))))
  (cSeq (cIfS (cOr (cBin gNe (cVar 3) (cVar 4)) (cBin gNe (cCall 1 F_read_container (cCons (cVar 3) cNil)) (cVar 1))) (cRet (cC (.bl false))) cSkip)
  (cSeq (cExpr (cApp 3 (cC (.int 1))))
  (cSeq (cIfS (cOr (cBin gNe (cVar 2) (cVar 1)) (cBin gNe (cCall 1 F_container_bits (cCons (cVar 2) cNil)) (cVar 4))) (cRet (cC (.bl false))) cSkip)
  (cSeq (cAsg (.nm 8) (cCall 2 F__law_state (cCons (cVar 0) (cCons (cC (.int 1)) cNil))))
  (cSeq (cFor (.nm 9) (iRng rngI1 (cCons (cC (.int 4)) cNil)) (cIfS (cNot (cCall 1 F__law_read (cCons (cCallQ 1 1 F__law_spoilt (cCons (cSet (cVar 4)) (cCons (cVar 8) cNil))) cNil))) (cRet (cC (.bl false))) cSkip))
  (cRet (cC (.bl true)))))))))))))))))))
noncomputable def F_law : List D → FO := runF 12 f_law
end K63

namespace K63.Bt
open K63
theorem ints_frz (ns : List Int) (o : Bool) : frz (.node .lst o (ns.map .int)) = .node .lst false (ns.map .int) := by
  show D.node .lst false (frzs (ns.map D.int)) = _
  rw [frzs_ints]
theorem number_loop (L : D) : ∀ (bs : List Bool) (n : Nat) (u : Option D), ∃ u', forL (.nm 2) (cAsg (.nm 1) (cBin gAdd (cBin gMul (cC (.int 2)) (cVar 1)) (cVar 2))) ((VL.bi bs).map .int) [some L, some (.int n), u] = .nx [some L, some (.int ((bs.foldl (fun n b => 2 * n + b.toNat) n : Nat) : Int)), u']
  | [], n, u => ⟨u, rfl⟩
  | b :: bs, n, u => by
    obtain ⟨u', e⟩ := number_loop L bs (2 * n + b.toNat) (some (.int b.toNat))
    refine ⟨u', ?_⟩
    have e1 : ((2 * n + b.toNat : Nat) : Int) = 2 * (n : Int) + b.toNat := by omega
    rw [e1] at e
    show forL (.nm 2) _ (.int b.toNat :: (VL.bi bs).map .int) _ = _
    unfold forL
    have m : mulOk 2 (n : Int) = true := mulOk_l (by decide)
    simpa [m] using e
theorem number_ok (bs : List Bool) : F_number_of [.node .lst false ((VL.bi bs).map .int)] = .ok (.int (wb bs)) := by
  obtain ⟨u', e⟩ := number_loop (.node .lst false ((VL.bi bs).map .int)) bs 0 none
  unfold F_number_of runF f_number_of
  have e' : forL (.nm 2) (cAsg (.nm 1) (cBin gAdd (cBin gMul (cC (.int 2)) (cVar 1)) (cVar 2))) ((VL.bi bs).map .int) [some (.node .lst false ((VL.bi bs).map .int)), some (.int 0), none] = _ := e
  simp [startR, ints_frz, frzs_int, e']
  rfl
theorem figs_loop : ∀ (k m n : Nat) (acc : List Bool), n < 2 ^ k → k < m → acc.length + k < 16777216 → whileL (cBin gGt (cVar 0) (cC (.int 0))) (cSeq (cExpr (cApp 1 (cBin gMod (cVar 0) (cC (.int 2))))) (cAsg (.nm 0) (cBin gDiv (cVar 0) (cC (.int 2))))) m [some (.int n), some (.node .lst true ((VL.bi acc).map .int))] = .nx [some (.int 0), some (.node .lst true ((VL.bi (acc ++ figs n)).map .int))]
  | k, 0, n, acc, _, h, _ => absurd h (Nat.not_lt_zero _)
  | k, m + 1, n, acc, h, hm, ha => by
    unfold whileL
    by_cases h0 : n = 0
    · subst h0
      simp [figs_zero]
    · cases k with
      | zero => simp at h; omega
      | succ k =>
        have e := figs_loop k m (n / 2) (acc ++ [n % 2 == 1]) (by rw [Nat.pow_succ] at h; omega) (by omega) (by simp; omega)
        rw [figs_pos h0]
        have hp : (0 : Int) < n := by omega
        have e1 : ((n / 2 : Nat) : Int) = (n : Int) / 2 := by omega
        have e2 : VL.bi (acc ++ [n % 2 == 1]) = VL.bi acc ++ [(n : Int) % 2] := by
          unfold VL.bi; rw [List.map_append]
          show _ ++ [((n % 2 == 1).toNat : Int)] = _
          have : ((n % 2 == 1).toNat : Int) = (n : Int) % 2 := by
            rcases Nat.mod_two_eq_zero_or_one n with z | z
            · rw [z]; show (0 : Int) = _; omega
            · rw [z]; show (1 : Int) = _; omega
          rw [this]
        have q1 : posOk (n : Int) 2 = true := rfl
        have q2 : divOk (n : Int) 2 = true := rfl
        have hl : (VL.bi acc).length < 16777216 := by simp [VL.bi]; omega
        rw [e1, e2, List.append_assoc, List.map_append] at e
        have hp' : 0 < n := by omega
        simp [hp', q1, q2, hl]
        simpa using e
theorem figures_ok (n : Nat) (h : n < 2 ^ 4000) : F_figures_of [.int n] = .ok (.node .lst true ((VL.bi (figs n)).map .int)) := by
  have e := figs_loop 4000 fuel n [] h (lt_fuel (by decide)) (by decide)
  have e' : whileL (cBin gGt (cVar 0) (cC (.int 0))) (cSeq (cExpr (cApp 1 (cBin gMod (cVar 0) (cC (.int 2))))) (cAsg (.nm 0) (cBin gDiv (cVar 0) (cC (.int 2))))) fuel [some (.int n), some (.node .lst true [])] = _ := e
  unfold F_figures_of runF f_figures_of
  simp [startR, e']
theorem rep_zero (j : Nat) : (List.replicate j (frzs [D.int 0])).flatten = (VL.bi (List.replicate j false)).map .int := by
  have e : frzs [D.int 0] = [D.int 0] := rfl
  rw [e, List.flatten_replicate_singleton]
  simp [VL.bi]
theorem fzL (o : Bool) (xs : List Int) : frzs [.node .lst o (xs.map .int)] = [.node .lst false (xs.map .int)] := by
  show [frz _] = _
  rw [frz_ints]
theorem fz2 (a b : Int) : frzs [.int a, .int b] = [.int a, .int b] := rfl
theorem bi_len (bs : List Bool) : (VL.bi bs).length = bs.length := by simp [VL.bi]
theorem set_same {r : Rho} {i : Nat} {d : D} (h : r[i]? = some (some d)) : r.set i (some d) = r := by
  refine List.ext_getElem? fun j => ?_
  by_cases hj : i = j
  · subst hj
    rw [List.getElem?_set_self (List.getElem?_eq_some_iff.mp h).1, h]
  · rw [List.getElem?_set_ne hj]
theorem seq_nx {f g : Sv} {r r1 : Rho} (h : f r = .nx r1) : cSeq f g r = g r1 := by
  rw [q_seq, h]; rfl
theorem touch_loc {r : Rho} {i : Nat} {o : Bool} (ys : List Int) (h : r[i]? = some (some (.node .lst o (ys.map .int)))) : touch r (.loc i) = r := by
  show (match r[i]? with | some (some d) => r.set i (some (frzB d)) | _ => r) = r
  rw [h]
  show r.set i (some (.node .lst o (frzs (ys.map .int)))) = r
  rw [frzs_ints]
  exact set_same h
theorem opd_loc' {r : Rho} {i : Nat} {d : D} (h : r[i]? = some (some d)) : opd r (.loc i) = some d := by
  show (match r[i]? with | some (some d) => some d | _ => none) = _
  rw [h]
theorem end_ok (n : Nat) (hn : n < 2 ^ 4000) (h : n ≠ 0) : F_ending_bits [.int n] = .ok (.node .lst true ((VL.bi (List.replicate ((figs n).length - 1) false ++ (figs n).reverse)).map .int)) := by
  have fz : frzs [D.int (n : Int)] = [D.int (n : Int)] := rfl
  have e := figures_ok n hn
  have nl := noL_lints (VL.bi (figs n))
  have hf := figs_len hn
  have hp : (figs n).length ≠ 0 := by rw [figs_pos h]; simp
  have h0 : ¬ ((n : Int) < 1) := by omega
  generalize hj : (figs n).length - 1 = j
  have hv : (List.map D.int (VL.bi (figs n))).reverse = (VL.bi (figs n).reverse).map .int := by simp [VL.bi]
  have ha : VL.bi (List.replicate j false ++ (figs n).reverse) = VL.bi (List.replicate j false) ++ VL.bi (figs n).reverse := by simp [VL.bi]
  have s1 : cIfS (cBin gLt (cVar 0) (cC (.int 1))) (cRaise 1) cSkip [some (.int n), none] = .nx [some (.int n), none] := by simp [h0]
  have s2 : cAsg (.nm 1) (cCall 1 F_figures_of (cCons (cVar 0) cNil)) [some (.int n), none] = .nx [some (.int n), some (.node .lst true ((VL.bi (figs n)).map .int))] := by
    simp [fz, e, nl]
  have c1 : cBin VL.gSub (cB (b1 lenD) (cCons (cVar 1) cNil)) (cC (.int 1)) [some (.int n), some (.node .lst true ((VL.bi (figs n)).map .int))] = .ok (.val (.int j)) [some (.int n), some (.node .lst true ((VL.bi (figs n)).map .int))] := by
    have q : ((figs n).length : Int) - 1 = j := by omega
    simp [bi_len]
    exact q
  have c2 : cBin gMul (cLst (cCons (cSet (cC (.int 0))) cNil)) (cBin VL.gSub (cB (b1 lenD) (cCons (cVar 1) cNil)) (cC (.int 1))) [some (.int n), some (.node .lst true ((VL.bi (figs n)).map .int))] = .ok (.val (.node .lst true ((VL.bi (List.replicate j false)).map .int))) [some (.int n), some (.node .lst true ((VL.bi (figs n)).map .int))] := by
    have m : ∀ r : Rho, gMul (.val (.node .lst true [.int 0])) (.val (.int (j : Int))) r = .ok (.val (.node .lst true ((VL.bi (List.replicate j false)).map .int))) r := fun r => by
      rw [q_mulL ⟨by omega, by omega, by simp; omega⟩, Int.toNat_natCast, rep_zero]
    have l : cLst (cCons (cSet (cC (.int 0))) cNil) [some (.int n), some (.node .lst true ((VL.bi (figs n)).map .int))] = .ok (.val (.node .lst true [.int 0])) [some (.int n), some (.node .lst true ((VL.bi (figs n)).map .int))] := rfl
    rw [q_bin, l, bd_ok, c1, bd_ok, m]
  have c3 : cRev (cVar 1) [some (.int n), some (.node .lst true ((VL.bi (figs n)).map .int))] = .ok (.val (.node .lst true ((VL.bi (figs n).reverse).map .int))) [some (.int n), some (.node .lst true ((VL.bi (figs n)).map .int))] := by
    simp [frzs_int, hv]
  have s3 : cRet (cBin gAdd (cBin gMul (cLst (cCons (cSet (cC (.int 0))) cNil)) (cBin VL.gSub (cB (b1 lenD) (cCons (cVar 1) cNil)) (cC (.int 1)))) (cRev (cVar 1))) [some (.int n), some (.node .lst true ((VL.bi (figs n)).map .int))] = .rt (.val (.node .lst true ((VL.bi (List.replicate j false ++ (figs n).reverse)).map .int))) [some (.int n), some (.node .lst true ((VL.bi (figs n)).map .int))] := by
    have q := q_addLI (r := [some (.int n), some (.node .lst true ((VL.bi (figs n)).map .int))]) (o := true) (o' := true) (VL.bi (List.replicate j false)) (VL.bi (figs n).reverse) (by rw [bi_len, bi_len, List.length_replicate, List.length_reverse]; omega)
    rw [q_ret, q_bin, c2, bd_ok, c3, bd_ok, q, ha]
    rfl
  have fin : f_ending_bits (startR 2 [.int n]) = _ := (seq_nx s1).trans ((seq_nx s2).trans s3)
  unfold F_ending_bits runF
  rw [fin]
  rfl
def lead : List Bool → Nat
  | false :: l => lead l + 1
  | _ => 0
theorem lead_le : ∀ l : List Bool, lead l ≤ l.length
  | [] => Nat.le_refl _
  | true :: l => Nat.zero_le _
  | false :: l => by show lead l + 1 ≤ l.length + 1; have := lead_le l; omega
def ff (bs : List Bool) (at_ : Nat) : Nat := at_ + lead (bs.drop at_)
theorem ff_out {bs : List Bool} {i : Nat} (h : bs.length ≤ i) : ff bs i = i := by
  unfold ff; rw [List.drop_eq_nil_of_le h]; rfl
theorem ff_hit {bs : List Bool} {i : Nat} (h : i < bs.length) (hb : bs[i] = true) : ff bs i = i := by
  unfold ff; rw [List.drop_eq_getElem_cons h, hb]; rfl
theorem ff_go {bs : List Bool} {i : Nat} (h : i < bs.length) (hb : bs[i] = false) : ff bs i = ff bs (i + 1) := by
  unfold ff; rw [List.drop_eq_getElem_cons h, hb]
  show i + (lead _ + 1) = _
  omega
theorem ff_ge (bs : List Bool) (i : Nat) : i ≤ ff bs i := Nat.le_add_right _ _
theorem bi_at (bs : List Bool) (i : Nat) (h : i < bs.length) : atI ((VL.bi bs).map D.int) (i : Int) = some (.int ((bs[i]).toNat : Nat)) := by
  unfold atI ixN
  have z1 : (0 : Int) ≤ (i : Int) := by omega
  have z2 : (i : Int) < (((VL.bi bs).map D.int).length : Nat) := by rw [List.length_map, bi_len]; omega
  rw [if_pos z1, if_pos z2, Int.toNat_natCast]
  show ((VL.bi bs).map D.int)[i]? = _
  unfold VL.bi
  rw [List.getElem?_map, List.getElem?_map, List.getElem?_eq_getElem h]; rfl
def L (bs : List Bool) : D := .node .lst false ((VL.bi bs).map .int)
theorem len_L (bs : List Bool) (r : Rho) (h : r[0]? = some (some (L bs))) : cB (b1 lenD) (cCons (cVar 0) cNil) r = .ok (.val (.int bs.length)) r := by
  have a : atom (L bs) = false := rfl
  have l : lenD (L bs) = some (.int bs.length) := by
    show some (D.int (((VL.bi bs).map D.int).length : Nat)) = _
    rw [List.length_map, bi_len]
  simp [h, a, l]
theorem ix_L (bs : List Bool) (j i : Nat) (r : Rho) (h : r[0]? = some (some (L bs))) (hj : r[j]? = some (some (.int i))) (hi : i < bs.length) : cBin gIx (cVar 0) (cVar j) r = .ok (.val (.int ((bs[i]).toNat : Nat))) r := by
  have a : atom (L bs) = false := rfl
  have e := bi_at bs i hi
  simp [h, hj, a]
  simp [L, e]
noncomputable def rdT : Ev := cAnd (cBin gLt (cVar 2) (cB (b1 lenD) (cCons (cVar 0) cNil))) (cBin gEq (cBin gIx (cVar 0) (cVar 2)) (cC (.int 0)))
theorem read_loop (bs : List Bool) (A : D) : ∀ (k m f : Nat), bs.length - f ≤ k → k < m → whileL rdT (cAug 2 (g2 iAdd) (cC (.int 1))) m [some (L bs), some A, some (.int f), none] = .nx [some (L bs), some A, some (.int (ff bs f)), none]
  | k, 0, f, _, h => absurd h (Nat.not_lt_zero _)
  | k, m + 1, f, h, hm => by
    have c1 := len_L bs [some (L bs), some A, some (.int (f : Nat)), none] rfl
    have v2 : cVar 2 [some (L bs), some A, some (.int (f : Nat)), none] = .ok (.val (.int (f : Nat))) [some (L bs), some A, some (.int (f : Nat)), none] := rfl
    have c2 : cBin gLt (cVar 2) (cB (b1 lenD) (cCons (cVar 0) cNil)) [some (L bs), some A, some (.int (f : Nat)), none] = .ok (.val (.bl (decide ((f : Int) < (bs.length : Int))))) [some (L bs), some A, some (.int (f : Nat)), none] := by
      rw [q_bin, v2, bd_ok, c1, bd_ok]; rfl
    by_cases hf : f < bs.length
    · have hf' : decide ((f : Int) < (bs.length : Int)) = true := decide_eq_true (by omega)
      rw [hf'] at c2
      have c3 := ix_L bs 2 f [some (L bs), some A, some (.int (f : Nat)), none] rfl rfl hf
      cases hb : bs[f] with
      | true =>
        rw [hb] at c3
        have t : rdT [some (L bs), some A, some (.int (f : Nat)), none] = .ok (.val (.bl false)) [some (L bs), some A, some (.int (f : Nat)), none] := by
          unfold rdT
          rw [q_and, c2]
          show cBin gEq _ _ _ = _
          rw [q_bin, c3]; rfl
        rw [ff_hit hf hb]
        unfold whileL
        rw [t]; rfl
      | false =>
        rw [hb] at c3
        have t : rdT [some (L bs), some A, some (.int (f : Nat)), none] = .ok (.val (.bl true)) [some (L bs), some A, some (.int (f : Nat)), none] := by
          unfold rdT
          rw [q_and, c2]
          show cBin gEq _ _ _ = _
          rw [q_bin, c3]; rfl
        have b : cAug 2 (g2 iAdd) (cC (.int 1)) [some (L bs), some A, some (.int (f : Nat)), none] = .nx [some (L bs), some A, some (.int ((f + 1 : Nat) : Int)), none] := rfl
        cases k with
        | zero => omega
        | succ k =>
          rw [ff_go hf hb, ← read_loop bs A k m (f + 1) (by omega) (by omega)]
          conv => lhs; unfold whileL
          rw [t, q_st1]
          show (match cAug 2 (g2 iAdd) (cC (.int 1)) [some (L bs), some A, some (.int (f : Nat)), none] with | .nx r2 => whileL rdT (cAug 2 (g2 iAdd) (cC (.int 1))) m r2 | .ct r2 => whileL rdT (cAug 2 (g2 iAdd) (cC (.int 1))) m r2 | .bk r2 => .nx r2 | o => o) = _
          rw [b]
    · have hf' : decide ((f : Int) < (bs.length : Int)) = false := decide_eq_false (by omega)
      rw [hf'] at c2
      have t : rdT [some (L bs), some A, some (.int (f : Nat)), none] = .ok (.val (.bl false)) [some (L bs), some A, some (.int (f : Nat)), none] := by
        unfold rdT
        rw [q_and, c2]; rfl
      rw [ff_out (by omega)]
      unfold whileL
      rw [t]; rfl
def be (bs : List Bool) (i : Nat) : Nat := 2 * ff bs i - i + 1
def res (bs : List Bool) (i : Nat) : List D := [.int (wb ((bs.drop (ff bs i)).take (be bs i - ff bs i)) : Nat), .int (be bs i : Nat)]
theorem cut_L (bs : List Bool) (f b : Nat) (h1 : f ≤ b) (h2 : b ≤ bs.length) : VL.cutD ((VL.bi bs).map D.int) (some (f : Int)) (some (b : Int)) = (VL.bi ((bs.drop f).take (b - f))).map .int := by
  unfold VL.cutD
  have hl : ((VL.bi bs).map D.int).length = bs.length := by rw [List.length_map, bi_len]
  rw [HT.sIx_nat, HT.sIx_nat, hl, Nat.min_eq_left h2, Nat.min_eq_left (show f ≤ bs.length by omega)]
  unfold VL.bi
  rw [List.map_take, List.map_take, List.map_drop, List.map_drop]
theorem slice_L (bs : List Bool) (f b : Nat) (x : D) (h1 : f ≤ b) (h2 : b ≤ bs.length) : cSl (cVar 0) (some (cVar 2)) (some (cVar 3)) [some (L bs), some x, some (.int f), some (.int b)] = .ok (.val (.node .lst true ((VL.bi ((bs.drop f).take (b - f))).map .int))) [some (L bs), some x, some (.int f), some (.int b)] := by
  have c := cut_L bs f b h1 h2
  simp [L, frzs_int, c]
theorem tail_ok (F : List D → FO) (hF : ∀ bs : List Bool, F [.node .lst false ((VL.bi bs).map .int)] = .ok (.int (wb bs))) (bs : List Bool) (i : Nat) (x : D) (h2 : be bs i ≤ bs.length) :
    cRet (cTup (cCons (cSet (cCall 1 F (cCons (cSl (cVar 0) (some (cVar 2)) (some (cVar 3))) cNil))) (cCons (cSet (cVar 3)) cNil))) [some (L bs), some x, some (.int (ff bs i)), some (.int (be bs i))] = .rt (.val (.node .tup false (res bs i))) [some (L bs), some x, some (.int (ff bs i)), some (.int (be bs i))] := by
  have h1 : ff bs i ≤ be bs i := by unfold be; have := ff_ge bs i; omega
  have s := slice_L bs (ff bs i) (be bs i) x h1 h2
  have c : cCall 1 F (cCons (cSl (cVar 0) (some (cVar 2)) (some (cVar 3))) cNil) [some (L bs), some x, some (.int (ff bs i)), some (.int (be bs i))] = .ok (.val (.int (wb ((bs.drop (ff bs i)).take (be bs i - ff bs i)) : Nat))) [some (L bs), some x, some (.int (ff bs i)), some (.int (be bs i))] := by
    have fz := fzL true (VL.bi ((bs.drop (ff bs i)).take (be bs i - ff bs i)))
    have hf := hF ((bs.drop (ff bs i)).take (be bs i - ff bs i))
    rw [q_call, q_cons, s]
    simp only [q_nil, q_abd1]
    rw [if_pos (show [R.val (D.node .lst true ((VL.bi ((bs.drop (ff bs i)).take (be bs i - ff bs i))).map .int))].length = 1 from rfl)]
    simp only [q_callK, q_opds1, q_opds0, q_opd1]
    rw [fz, hf]
    rfl
  have v : cVar 3 [some (L bs), some x, some (.int (ff bs i)), some (.int (be bs i : Nat))] = .ok (.val (.int (be bs i : Nat))) [some (L bs), some x, some (.int (ff bs i)), some (.int (be bs i))] := rfl
  simp only [q_ret, q_tup, q_cons, q_set, c, v, bd_ok, q_nil, q_abd1, q_valsR1, q_valsR0]
  rfl
theorem behind_ok (bs : List Bool) (i : Nat) (u : Option D) : cAsg (.nm 3) (cBin gAdd (cBin VL.gSub (cBin gMul (cC (.int 2)) (cVar 2)) (cVar 1)) (cC (.int 1))) [some (L bs), some (.int i), some (.int (ff bs i)), u] = .nx [some (L bs), some (.int i), some (.int (ff bs i)), some (.int (be bs i))] := by
  have m : mulOk 2 (ff bs i : Nat) = true := mulOk_l (by decide)
  have e : ((be bs i : Nat) : Int) = 2 * (ff bs i : Nat) - (i : Nat) + 1 := by
    unfold be; have := ff_ge bs i; omega
  rw [e]
  simp [m]
theorem far_ok (bs : List Bool) (i : Nat) (f : Sv) : cIfS (cBin gGt (cVar 3) (cB (b1 lenD) (cCons (cVar 0) cNil))) f cSkip [some (L bs), some (.int i), some (.int (ff bs i)), some (.int (be bs i))] = if be bs i ≤ bs.length then .nx [some (L bs), some (.int i), some (.int (ff bs i)), some (.int (be bs i))] else f [some (L bs), some (.int i), some (.int (ff bs i)), some (.int (be bs i))] := by
  have c1 := len_L bs [some (L bs), some (.int i), some (.int (ff bs i)), some (.int (be bs i))] rfl
  have v : cVar 3 [some (L bs), some (.int i), some (.int (ff bs i)), some (.int (be bs i : Nat))] = .ok (.val (.int (be bs i : Nat))) [some (L bs), some (.int i), some (.int (ff bs i)), some (.int (be bs i))] := rfl
  have c2 : cBin gGt (cVar 3) (cB (b1 lenD) (cCons (cVar 0) cNil)) [some (L bs), some (.int i), some (.int (ff bs i)), some (.int (be bs i))] = .ok (.val (.bl (decide ((bs.length : Int) < (be bs i : Nat))))) [some (L bs), some (.int i), some (.int (ff bs i)), some (.int (be bs i))] := by
    rw [q_bin, v, bd_ok, c1, bd_ok]; rfl
  by_cases h : be bs i ≤ bs.length
  · have d : decide ((bs.length : Int) < (be bs i : Nat)) = false := decide_eq_false (by omega)
    rw [if_pos h, q_ifs, c2, d]; rfl
  · have d : decide ((bs.length : Int) < (be bs i : Nat)) = true := decide_eq_true (by omega)
    rw [if_neg h, q_ifs, c2, d]; rfl
theorem fzLi (o : Bool) (bs : List Bool) (i : Int) : frzs [.node .lst o ((VL.bi bs).map .int), .int i] = [L bs, .int i] := by
  show [frz _, frz _] = _
  rw [frz_ints]; rfl
theorem fzLi' (bs : List Bool) (i : Int) : frzs [L bs, .int i] = [L bs, .int i] := fzLi false bs i
theorem read_ok (bs : List Bool) (i : Nat) (hb : bs.length < 1000000) : F_read_ending [L bs, .int i] = if be bs i ≤ bs.length then .ok (.node .tup false (res bs i)) else .exc 4 := by
  have h0 : ¬ ((i : Int) < 0) := by omega
  have s1 : cIfS (cBin gLt (cVar 1) (cC (.int 0))) (cRaise 4) cSkip (startR 4 [L bs, .int i]) = .nx [some (L bs), some (.int i), none, none] := by simp [startR, h0]
  have s2 : cAsg (.nm 2) (cVar 1) [some (L bs), some (.int i), none, none] = .nx [some (L bs), some (.int i), some (.int i), none] := rfl
  have s3 := read_loop bs (.int i) bs.length fuel i (by omega) (lt_fuel (by omega))
  have s4 := behind_ok bs i none
  have s5 := far_ok bs i (cRaise 4)
  have s6 := tail_ok F_number_of number_ok bs i (.int i)
  by_cases h : be bs i ≤ bs.length
  · rw [if_pos h] at s5 ⊢
    have fin : f_read_ending (startR 4 [L bs, .int i]) = _ := (seq_nx s1).trans ((seq_nx s2).trans ((seq_nx s3).trans ((seq_nx s4).trans ((seq_nx s5).trans (s6 h)))))
    unfold F_read_ending runF
    rw [fin]; rfl
  · rw [if_neg h] at s5 ⊢
    have s5' : cSeq (cIfS (cBin gGt (cVar 3) (cB (b1 lenD) (cCons (cVar 0) cNil))) (cRaise 4) cSkip) (cRet (cTup (cCons (cSet (cCall 1 F_number_of (cCons (cSl (cVar 0) (some (cVar 2)) (some (cVar 3))) cNil))) (cCons (cSet (cVar 3)) cNil)))) [some (L bs), some (.int i), some (.int (ff bs i)), some (.int (be bs i))] = .exc 4 [some (L bs), some (.int i), some (.int (ff bs i)), some (.int (be bs i))] := by
      rw [q_seq, s5]; rfl
    have fin : f_read_ending (startR 4 [L bs, .int i]) = _ := (seq_nx s1).trans ((seq_nx s2).trans ((seq_nx s3).trans ((seq_nx s4).trans s5')))
    unfold F_read_ending runF
    rw [fin]
def enc (n : Nat) : List Bool := List.replicate ((figs n).length - 1) false ++ (figs n).reverse
theorem lead_spec : ∀ l : List Bool, l = List.replicate (lead l) false ++ l.drop (lead l)
  | [] => rfl
  | true :: l => rfl
  | false :: l => by
    show false :: l = List.replicate (lead l + 1) false ++ (false :: l).drop (lead l + 1)
    rw [List.replicate_succ, List.drop_succ_cons, List.cons_append, ← lead_spec l]
theorem lead_hit : ∀ l : List Bool, lead l < l.length → l[lead l]? = some true
  | [], h => by simp at h
  | true :: l, _ => rfl
  | false :: l, h => by
    show (false :: l)[lead l + 1]? = some true
    rw [List.getElem?_cons_succ]
    exact lead_hit l (by have h : lead l + 1 < l.length + 1 := h; omega)
def rdN (bs : List Bool) (i : Nat) : Nat := wb ((bs.drop (ff bs i)).take (be bs i - ff bs i))
theorem ff_lt {bs : List Bool} {i : Nat} (h : be bs i ≤ bs.length) : ff bs i < bs.length := by
  unfold be at h
  have := ff_ge bs i
  omega
theorem read_enc {bs : List Bool} {i : Nat} (h : be bs i ≤ bs.length) : rdN bs i ≠ 0 ∧ enc (rdN bs i) = (bs.drop i).take (be bs i - i) := by
  have hlt := ff_lt h
  have hge := ff_ge bs i
  have hbe : be bs i = 2 * ff bs i - i + 1 := rfl
  have hf : ff bs i = i + lead (bs.drop i) := rfl
  have hit : bs[ff bs i]? = some true := by
    have q := lead_hit (bs.drop i) (by rw [List.length_drop]; omega)
    rw [List.getElem?_drop, ← hf] at q
    exact q
  have hd : bs.drop (ff bs i) = true :: bs.drop (ff bs i + 1) := by
    rw [List.drop_eq_getElem_cons hlt]
    rw [List.getElem?_eq_getElem hlt] at hit
    rw [Option.some.inj hit]
  obtain ⟨k, hk⟩ : ∃ k, be bs i - ff bs i = k + 1 := ⟨be bs i - ff bs i - 1, by omega⟩
  have hw : (bs.drop (ff bs i)).take (be bs i - ff bs i) = true :: (bs.drop (ff bs i + 1)).take k := by rw [hd, hk, List.take_succ_cons]
  have hlen : ((bs.drop (ff bs i)).take (be bs i - ff bs i)).length = be bs i - ff bs i := by
    rw [List.length_take, List.length_drop]; omega
  obtain ⟨z, e⟩ := figs_wb ((bs.drop (ff bs i)).take (be bs i - ff bs i))
  have z0 : z = 0 := by
    cases z with
    | zero => rfl
    | succ z => rw [hw, List.replicate_succ, List.cons_append] at e; cases e
  subst z0
  rw [List.replicate_zero, List.nil_append] at e
  have hfl : (figs (rdN bs i)).length = be bs i - ff bs i := by
    have := congrArg List.length e
    rw [hlen, List.length_reverse] at this
    exact this.symm
  refine ⟨fun z => ?_, ?_⟩
  · rw [z, figs_zero] at hfl
    simp at hfl
    omega
  · unfold enc
    rw [hfl]
    show _ ++ (figs (wb ((bs.drop (ff bs i)).take (be bs i - ff bs i)))).reverse = _
    rw [← e]
    have s := lead_spec (bs.drop i)
    have e1 : be bs i - ff bs i - 1 = lead (bs.drop i) := by omega
    have e2 : (bs.drop i).drop (lead (bs.drop i)) = bs.drop (ff bs i) := by rw [List.drop_drop, ← hf]
    rw [e2] at s
    rw [e1]
    conv => rhs; rw [s]
    have e3 : be bs i - i = lead (bs.drop i) + (be bs i - ff bs i) := by omega
    rw [e3, List.take_append, List.length_replicate, Nat.add_sub_cancel_left, List.take_of_length_le (l := List.replicate (lead (bs.drop i)) false) (by rw [List.length_replicate]; omega)]
theorem enc_len {n : Nat} (h : n ≠ 0) : (enc n).length = 2 * (figs n).length - 1 := by
  unfold enc
  have hp : (figs n).length ≠ 0 := by rw [figs_pos h]; simp
  rw [List.length_append, List.length_replicate, List.length_reverse]
  omega
theorem lead_rep : ∀ (z : Nat) (l : List Bool), lead (List.replicate z false ++ true :: l) = z
  | 0, _ => rfl
  | z + 1, l => by
    rw [List.replicate_succ, List.cons_append]
    show lead _ + 1 = z + 1
    rw [lead_rep z l]
theorem wb_figs : ∀ (k n : Nat), n ≤ k → wb (figs n).reverse = n
  | k, 0, _ => by rw [figs_zero]; rfl
  | 0, n + 1, h => by omega
  | k + 1, n + 1, h => by
    rw [figs_pos (Nat.succ_ne_zero n), List.reverse_cons, wb_snoc, wb_figs k ((n + 1) / 2) (by omega)]
    rcases Nat.mod_two_eq_zero_or_one (n + 1) with z | z
    · rw [z]; show 2 * ((n + 1) / 2) + 0 = n + 1; omega
    · rw [z]; show 2 * ((n + 1) / 2) + 1 = n + 1; omega
theorem enc_read (pre post : List Bool) (n : Nat) (h : n ≠ 0) : be (pre ++ enc n ++ post) pre.length = pre.length + (enc n).length ∧ rdN (pre ++ enc n ++ post) pre.length = n := by
  obtain ⟨l, el⟩ := figs_last _ _ (Nat.le_refl n) h
  have er : (figs n).reverse = true :: l.reverse := by rw [el]; simp
  have hl : (figs n).length = l.length + 1 := by rw [el]; simp
  have hd : (pre ++ enc n ++ post).drop pre.length = List.replicate l.length false ++ true :: (l.reverse ++ post) := by
    rw [List.append_assoc, List.drop_left' rfl]
    unfold enc
    rw [hl, er, Nat.add_sub_cancel, List.append_assoc, List.cons_append]
  have hff : ff (pre ++ enc n ++ post) pre.length = pre.length + l.length := by
    unfold ff; rw [hd, lead_rep]
  have hbe : be (pre ++ enc n ++ post) pre.length = pre.length + (2 * l.length + 1) := by
    unfold be; rw [hff]; omega
  refine ⟨by rw [hbe, enc_len h, hl]; omega, ?_⟩
  unfold rdN
  rw [hbe, hff]
  have e1 : (pre ++ enc n ++ post).drop (pre.length + l.length) = true :: l.reverse ++ post := by
    rw [← List.drop_drop, hd, List.drop_left' (by simp)]
    rfl
  rw [e1, show pre.length + (2 * l.length + 1) - (pre.length + l.length) = (true :: l.reverse).length by simp; omega, List.take_left', ← er]
  · exact wb_figs n n (Nat.le_refl n)
  · rfl
def nn (ns : List Nat) : List Int := List.map (α := Nat) (fun n => (n : Int)) ns
def encs (ns : List Nat) : List Bool := (ns.map fun n => enc (n + 1)).flatten
def encR (ns : List Nat) : List Bool := enc (ns.length + 1) ++ encs ns
theorem end_enc (n : Nat) (hn : n < 2 ^ 4000) (h : n ≠ 0) : F_ending_bits [.int n] = .ok (.node .lst true ((VL.bi (enc n)).map .int)) := end_ok n hn h
theorem enc_le {n : Nat} (hn : n < 2 ^ 4000) : (enc n).length ≤ 8000 := by
  have := figs_len hn
  unfold enc
  rw [List.length_append, List.length_replicate, List.length_reverse]
  omega
theorem ext_val {r : Rho} {i : Nat} {o : Bool} (xs ys : List Int) (h : r[i]? = some (some (.node .lst true (xs.map .int)))) (hl : xs.length + ys.length ≤ 16777216) : extK i (.val (.node .lst o (ys.map .int))) r = .ok (.val .non) (r.set i (some (.node .lst true ((xs ++ ys).map .int)))) := by
  show (match r[i]? with
    | some (some (.node .lst true ds)) => if ds.length + (ys.map D.int).length ≤ 16777216 then EO.ok (.val .non) ((r.set i (some (.node .lst true (frzs ds)))).set i (some (.node .lst true (frzs ds ++ frzs (ys.map D.int))))) else .bad
    | _ => .bad) = _
  rw [h]
  show (if (xs.map D.int).length + (ys.map D.int).length ≤ 16777216 then EO.ok (.val .non) ((r.set i (some (.node .lst true (frzs (xs.map D.int))))).set i (some (.node .lst true (frzs (xs.map D.int) ++ frzs (ys.map D.int))))) else .bad) = _
  rw [if_pos (by rw [List.length_map, List.length_map]; exact hl), frzs_ints, frzs_ints, List.set_set, ← List.map_append]
theorem row_loop (A : D) : ∀ (ms : List Nat) (acc : List Bool) (u : Option D), acc.length + 8000 * ms.length ≤ 16777216 → (∀ m ∈ ms, m + 1 < 2 ^ 4000) → ∃ u', forL (.nm 2) (cExpr (cExt 1 (cCall 1 F_ending_bits (cCons (cBin gAdd (cVar 2) (cC (.int 1))) cNil)))) ((nn ms).map .int) [some A, some (.node .lst true ((VL.bi acc).map .int)), u] = .nx [some A, some (.node .lst true ((VL.bi (acc ++ encs ms)).map .int)), u']
  | [], acc, u, _, _ => ⟨u, by show _ = SO.nx [_, some (.node .lst true ((VL.bi (acc ++ [])).map .int)), _]; rw [List.append_nil]; rfl⟩
  | m :: ms, acc, u, hl, hm => by
    have h1 := hm m List.mem_cons_self
    have he := end_enc (m + 1) h1 (by omega)
    have el := enc_le h1
    rw [List.length_cons] at hl
    obtain ⟨u', e⟩ := row_loop A ms (acc ++ enc (m + 1)) (some (.int m)) (by rw [List.length_append]; omega) (fun k hk => hm k (List.mem_cons_of_mem _ hk))
    rw [List.append_assoc] at e
    have fz : frzs [D.int ((m + 1 : Nat) : Int)] = [D.int ((m + 1 : Nat) : Int)] := rfl
    have nl := noL_lints (VL.bi (enc (m + 1)))
    have c : cCall 1 F_ending_bits (cCons (cBin gAdd (cVar 2) (cC (.int 1))) cNil) [some A, some (.node .lst true ((VL.bi acc).map .int)), some (.int m)] = .ok (.val (.node .lst true ((VL.bi (enc (m + 1))).map .int))) [some A, some (.node .lst true ((VL.bi acc).map .int)), some (.int m)] := by
      have v : cBin gAdd (cVar 2) (cC (.int 1)) [some A, some (.node .lst true ((VL.bi acc).map .int)), some (.int (m : Nat))] = .ok (.val (.int ((m + 1 : Nat) : Int))) [some A, some (.node .lst true ((VL.bi acc).map .int)), some (.int m)] := by
        have e1 : ((m + 1 : Nat) : Int) = (m : Int) + 1 := by omega
        rw [e1]; simp
      rw [q_call, q_cons, v]
      simp only [q_nil, q_abd1]
      rw [if_pos (show [R.val (D.int ((m + 1 : Nat) : Int))].length = 1 from rfl)]
      simp only [q_callK, q_opds1, q_opds0, q_opd1]
      rw [fz, he]
      show (if noL _ = true then _ else _) = _
      rw [nl, if_pos rfl]
    have x := ext_val (r := [some A, some (.node .lst true ((VL.bi acc).map .int)), some (.int m)]) (i := 1) (o := true) (VL.bi acc) (VL.bi (enc (m + 1))) rfl (by rw [bi_len, bi_len]; omega)
    have ba : VL.bi acc ++ VL.bi (enc (m + 1)) = VL.bi (acc ++ enc (m + 1)) := by unfold VL.bi; rw [List.map_append]
    have b : cExpr (cExt 1 (cCall 1 F_ending_bits (cCons (cBin gAdd (cVar 2) (cC (.int 1))) cNil))) [some A, some (.node .lst true ((VL.bi acc).map .int)), some (.int m)] = .nx [some A, some (.node .lst true ((VL.bi (acc ++ enc (m + 1))).map .int)), some (.int m)] := by
      rw [q_expr]
      show EO.st ((cCall 1 F_ending_bits (cCons (cBin gAdd (cVar 2) (cC (.int 1))) cNil) [some A, some (.node .lst true ((VL.bi acc).map .int)), some (.int m)]).bd (extK 1)) _ = _
      rw [c, bd_ok, x, ba]
      rfl
    exact ⟨u', (forL_cons (r1 := [some A, some (.node .lst true ((VL.bi acc).map .int)), some (.int m)]) rfl b).trans e⟩
theorem row_ok (ns : List Nat) (hl : ns.length ≤ 2000) (hm : ∀ m ∈ ns, m + 1 < 2 ^ 4000) : F_row_bits [.node .lst false ((nn ns).map .int)] = .ok (.node .lst true ((VL.bi (encR ns)).map .int)) := by
  have h0 : ns.length + 1 < 2 ^ 4000 := Nat.lt_of_lt_of_le (show ns.length + 1 < 2 ^ 20 by omega) (Nat.pow_le_pow_right (by decide) (by decide))
  have he := end_enc (ns.length + 1) h0 (by omega)
  have el := enc_le h0
  have nl := noL_lints (VL.bi (enc (ns.length + 1)))
  have fz : frzs [D.int ((ns.length + 1 : Nat) : Int)] = [D.int ((ns.length + 1 : Nat) : Int)] := rfl
  have ll : ((nn ns).map D.int).length = ns.length := by simp [nn]
  have s1 : cAsg (.nm 1) (cCall 1 F_ending_bits (cCons (cBin gAdd (cB (b1 lenD) (cCons (cVar 0) cNil)) (cC (.int 1))) cNil)) (startR 3 [.node .lst false ((nn ns).map .int)]) = .nx [some (.node .lst false ((nn ns).map .int)), some (.node .lst true ((VL.bi (enc (ns.length + 1))).map .int)), none] := by
    have v : cBin gAdd (cB (b1 lenD) (cCons (cVar 0) cNil)) (cC (.int 1)) [some (.node .lst false ((nn ns).map .int)), none, none] = .ok (.val (.int ((ns.length + 1 : Nat) : Int))) [some (.node .lst false ((nn ns).map .int)), none, none] := by
      have e1 : ((ns.length + 1 : Nat) : Int) = (ns.length : Int) + 1 := by omega
      rw [e1]; simp [nn]
    have c : cCall 1 F_ending_bits (cCons (cBin gAdd (cB (b1 lenD) (cCons (cVar 0) cNil)) (cC (.int 1))) cNil) [some (.node .lst false ((nn ns).map .int)), none, none] = .ok (.val (.node .lst true ((VL.bi (enc (ns.length + 1))).map .int))) [some (.node .lst false ((nn ns).map .int)), none, none] := by
      rw [q_call, q_cons, v]
      simp only [q_nil, q_abd1]
      rw [if_pos (show [R.val (D.int ((ns.length + 1 : Nat) : Int))].length = 1 from rfl)]
      simp only [q_callK, q_opds1, q_opds0, q_opd1]
      rw [fz, he]
      show (if noL _ = true then _ else _) = _
      rw [nl, if_pos rfl]
    show cAsg _ _ [some (.node .lst false ((nn ns).map .int)), none, none] = _
    rw [q_asg, q_set, c]
    rfl
  obtain ⟨u', e⟩ := row_loop (.node .lst false ((nn ns).map .int)) ns (enc (ns.length + 1)) none (by omega) hm
  have it : iLst (cVar 0) [some (.node .lst false ((nn ns).map .int)), some (.node .lst true ((VL.bi (enc (ns.length + 1))).map .int)), none] = .ok ((nn ns).map .int) [some (.node .lst false ((nn ns).map .int)), some (.node .lst true ((VL.bi (enc (ns.length + 1))).map .int)), none] := by
    simp [frz_ints, frzs_int]
  have fin : f_row_bits (startR 3 [.node .lst false ((nn ns).map .int)]) = .rt (.loc 1) [some (.node .lst false ((nn ns).map .int)), some (.node .lst true ((VL.bi (encR ns)).map .int)), u'] := by
    refine (seq_nx s1).trans ((seq_nx (r1 := [some (.node .lst false ((nn ns).map .int)), some (.node .lst true ((VL.bi (encR ns)).map .int)), u']) ?_).trans rfl)
    rw [q_for, it]
    exact e
  unfold F_row_bits runF
  rw [fin]
  rfl
def rds (bs : List Bool) : Nat → Nat → Option (List Nat × Nat)
  | 0, p => some ([], p)
  | k + 1, p => if be bs p ≤ bs.length then (match rds bs k (be bs p) with
    | some (l, q) => some ((rdN bs p - 1) :: l, q)
    | none => none) else none
def rdR (bs : List Bool) (i : Nat) : Option (List Nat × Nat) := if be bs i ≤ bs.length then rds bs (rdN bs i - 1) (be bs i) else none
noncomputable def rrT : Ev := cBin gLt (cB (b1 lenD) (cCons (cVar 4) cNil)) (cBin VL.gSub (cVar 2) (cC (.int 1)))
noncomputable def rrB : Sv := cSeq (cAsg (.tp [5, 3]) (cCall 2 F_read_ending (cCons (cVar 0) (cCons (cVar 3) cNil)))) (cExpr (cApp 4 (cBin VL.gSub (cVar 5) (cC (.int 1)))))
abbrev R6 (bs : List Bool) (A : D) (many p : Nat) (acc : List Nat) (u : Option D) : Rho := [some (L bs), some A, some (.int many), some (.int p), some (.node .lst true ((nn acc).map .int)), u]
theorem lenNN (l : List Nat) : (nn l).length = l.length := by simp [nn]
theorem call_read (bs : List Bool) (r : Rho) (j p : Nat) (h0 : r[0]? = some (some (L bs))) (hj : r[j]? = some (some (.int p))) (hb : bs.length < 1000000) : cCall 2 F_read_ending (cCons (cVar 0) (cCons (cVar j) cNil)) r = if be bs p ≤ bs.length then .ok (.val (.node .tup false (res bs p))) r else .exc 4 r := by
  have a : atom (L bs) = false := rfl
  have fz := fzLi' bs p
  have rd := read_ok bs p hb
  have v0 : cVar 0 r = .ok (.loc 0) r := by simp [h0, a]
  have vj : cVar j r = .ok (.val (.int p)) r := by simp [hj]
  have o0 : opd r (.loc 0) = some (L bs) := opd_loc' h0
  rw [q_call, q_cons, v0]
  simp only [q_cons, vj, q_nil, q_abd1]
  rw [if_pos (show [R.loc 0, R.val (D.int (p : Nat))].length = 2 from rfl)]
  simp only [q_callK, q_opds1, q_opds0, q_opd1, o0]
  rw [fz, rd]
  by_cases h : be bs p ≤ bs.length
  · rw [if_pos h, if_pos h]; rfl
  · rw [if_neg h, if_neg h]
theorem rr_loop (bs : List Bool) (A : D) (many : Nat) (hb : bs.length < 1000000) : ∀ (t m k p : Nat) (acc : List Nat) (u : Option D), bs.length + 1 - p ≤ t → t < m → acc.length + k + 1 = many → acc.length + t < 16000000 →
    (∀ l q, rds bs k p = some (l, q) → ∃ u', whileL rrT rrB m (R6 bs A many p acc u) = .nx (R6 bs A many q (acc ++ l) u')) ∧ (rds bs k p = none → ∃ r, whileL rrT rrB m (R6 bs A many p acc u) = .exc 4 r)
  | t, 0, k, p, acc, u, _, h, _, _ => absurd h (Nat.not_lt_zero _)
  | t, m + 1, k, p, acc, u, ht, hm, hk, hz => by
    have tt : rrT (R6 bs A many p acc u) = .ok (.val (.bl (decide ((acc.length : Int) < (many : Int) - 1)))) (R6 bs A many p acc u) := by
      simp [rrT, lenNN]
    cases k with
    | zero =>
      have d : decide ((acc.length : Int) < (many : Int) - 1) = false := decide_eq_false (by omega)
      rw [d] at tt
      refine ⟨fun l q e => ?_, fun e => by cases e⟩
      cases e
      refine ⟨u, ?_⟩
      rw [List.append_nil]
      unfold whileL
      rw [tt]; rfl
    | succ k =>
      have d : decide ((acc.length : Int) < (many : Int) - 1) = true := decide_eq_true (by omega)
      rw [d] at tt
      have cr := call_read bs (R6 bs A many p acc u) 3 p rfl rfl hb
      by_cases hbe : be bs p ≤ bs.length
      · rw [if_pos hbe] at cr
        obtain ⟨n0, _⟩ := read_enc hbe
        have hge : p < be bs p := by
          have := ff_ge bs p
          unfold be; omega
        have b1 : cAsg (.tp [5, 3]) (cCall 2 F_read_ending (cCons (cVar 0) (cCons (cVar 3) cNil))) (R6 bs A many p acc u) = .nx (R6 bs A many (be bs p) acc (some (.int (rdN bs p)))) := by
          rw [q_asg, q_set, cr]; rfl
        have e1 : ((rdN bs p : Int) - 1) = ((rdN bs p - 1 : Nat) : Int) := by omega
        have hl : (nn acc).length < 16777216 := by rw [lenNN]; omega
        have na : (nn acc).map D.int ++ [.int ((rdN bs p - 1 : Nat) : Int)] = (nn (acc ++ [rdN bs p - 1])).map .int := by simp [nn]
        have b2 : cExpr (cApp 4 (cBin VL.gSub (cVar 5) (cC (.int 1)))) (R6 bs A many (be bs p) acc (some (.int (rdN bs p)))) = .nx (R6 bs A many (be bs p) (acc ++ [rdN bs p - 1]) (some (.int (rdN bs p)))) := by
          have c : cBin VL.gSub (cVar 5) (cC (.int 1)) (R6 bs A many (be bs p) acc (some (.int (rdN bs p)))) = .ok (.val (.int ((rdN bs p - 1 : Nat) : Int))) (R6 bs A many (be bs p) acc (some (.int (rdN bs p)))) := by
            rw [← e1]; rfl
          rw [q_expr, q_app, q_set, c]
          show EO.st (if true = true then appK 4 (.val (.int ((rdN bs p - 1 : Nat) : Int))) (R6 bs A many (be bs p) acc (some (.int (rdN bs p)))) else .bad) _ = _
          rw [if_pos rfl, q_appK]
          show EO.st (if ((nn acc).map D.int).length < 16777216 then EO.ok (.val .non) ((R6 bs A many (be bs p) acc (some (.int (rdN bs p)))).set 4 (some (.node .lst true ((nn acc).map D.int ++ [.int ((rdN bs p - 1 : Nat) : Int)])))) else .bad) _ = _
          rw [if_pos (by rw [List.length_map]; exact hl), na]; rfl
        have bb : rrB (R6 bs A many p acc u) = .nx (R6 bs A many (be bs p) (acc ++ [rdN bs p - 1]) (some (.int (rdN bs p)))) := (seq_nx b1).trans b2
        obtain ⟨g1, g2⟩ := rr_loop bs A many hb (t - 1) m k (be bs p) (acc ++ [rdN bs p - 1]) (some (.int (rdN bs p))) (by omega) (by omega) (by rw [List.length_append, List.length_singleton]; omega) (by rw [List.length_append, List.length_singleton]; omega)
        have st : whileL rrT rrB (m + 1) (R6 bs A many p acc u) = whileL rrT rrB m (R6 bs A many (be bs p) (acc ++ [rdN bs p - 1]) (some (.int (rdN bs p)))) := by
          conv => lhs; unfold whileL
          rw [tt, q_st1]
          show (match rrB (R6 bs A many p acc u) with | .nx r2 => whileL rrT rrB m r2 | .ct r2 => whileL rrT rrB m r2 | .bk r2 => .nx r2 | o => o) = _
          rw [bb]
        rw [st]
        refine ⟨fun l q e => ?_, fun e => ?_⟩
        · unfold rds at e
          rw [if_pos hbe] at e
          cases e2 : rds bs k (be bs p) with
          | none => rw [e2] at e; cases e
          | some x =>
            obtain ⟨l2, q2⟩ := x
            rw [e2] at e
            cases e
            obtain ⟨u', e3⟩ := g1 l2 q e2
            refine ⟨u', ?_⟩
            rw [e3, List.append_assoc]; rfl
        · unfold rds at e
          rw [if_pos hbe] at e
          cases e2 : rds bs k (be bs p) with
          | none => exact g2 e2
          | some x => obtain ⟨l2, q2⟩ := x; rw [e2] at e; cases e
      · rw [if_neg hbe] at cr
        have bb : rrB (R6 bs A many p acc u) = .exc 4 (R6 bs A many p acc u) := by
          unfold rrB
          rw [q_seq, q_asg, q_set, cr]; rfl
        refine ⟨fun l q e => ?_, fun _ => ⟨R6 bs A many p acc u, ?_⟩⟩
        · unfold rds at e
          rw [if_neg hbe] at e
          cases e
        · unfold whileL
          rw [tt, q_st1]
          show (match rrB (R6 bs A many p acc u) with | .nx r2 => whileL rrT rrB m r2 | .ct r2 => whileL rrT rrB m r2 | .bk r2 => .nx r2 | o => o) = _
          rw [bb]
theorem rrow_ok (bs : List Bool) (i : Nat) (hb : bs.length < 1000000) : F_read_row [L bs, .int i] = match rdR bs i with
    | some (l, q) => .ok (.node .tup false [.node .lst false ((nn l).map .int), .int q])
    | none => .exc 4 := by
  have cr := call_read bs (startR 6 [L bs, .int i]) 1 i rfl rfl hb
  by_cases hbe : be bs i ≤ bs.length
  · rw [if_pos hbe] at cr
    obtain ⟨n0, _⟩ := read_enc hbe
    have b1 : cAsg (.tp [2, 3]) (cCall 2 F_read_ending (cCons (cVar 0) (cCons (cVar 1) cNil))) (startR 6 [L bs, .int i]) = .nx [some (L bs), some (.int i), some (.int (rdN bs i)), some (.int (be bs i)), none, none] := by
      rw [q_asg, q_set, cr]; rfl
    have b2 : cAsg (.nm 4) (cLst cNil) [some (L bs), some (.int i), some (.int (rdN bs i)), some (.int (be bs i)), none, none] = .nx (R6 bs (.int i) (rdN bs i) (be bs i) [] none) := rfl
    obtain ⟨g1, g2⟩ := rr_loop bs (.int i) (rdN bs i) hb (bs.length + 1) fuel (rdN bs i - 1) (be bs i) [] none (by omega) (lt_fuel (by omega)) (by show 0 + _ + 1 = _; omega) (by show 0 + _ < _; omega)
    have hr : rdR bs i = rds bs (rdN bs i - 1) (be bs i) := if_pos hbe
    rw [hr]
    cases e : rds bs (rdN bs i - 1) (be bs i) with
    | none =>
      obtain ⟨r, g⟩ := g2 e
      have fin : f_read_row (startR 6 [L bs, .int i]) = .exc 4 r := by
        refine (seq_nx b1).trans ((seq_nx b2).trans ?_)
        show cSeq (whileL rrT rrB fuel) _ _ = _
        rw [q_seq, g]; rfl
      unfold F_read_row runF
      rw [fin]
    | some x =>
      obtain ⟨l, q⟩ := x
      obtain ⟨u', g⟩ := g1 l q e
      rw [List.nil_append] at g
      have b4 : cRet (cTup (cCons (cSet (cVar 4)) (cCons (cSet (cVar 3)) cNil))) (R6 bs (.int i) (rdN bs i) q l u') = .rt (.val (.node .tup false [.node .lst false ((nn l).map .int), .int q])) [some (L bs), some (.int i), some (.int (rdN bs i)), some (.int q), some (.node .lst false ((nn l).map .int)), u'] := by
        simp [frz_ints]
      have fin : f_read_row (startR 6 [L bs, .int i]) = .rt (.val (.node .tup false [.node .lst false ((nn l).map .int), .int q])) [some (L bs), some (.int i), some (.int (rdN bs i)), some (.int q), some (.node .lst false ((nn l).map .int)), u'] := by
        refine (seq_nx b1).trans ((seq_nx b2).trans ((seq_nx ?_).trans b4))
        exact g
      unfold F_read_row runF
      rw [fin]; rfl
  · rw [if_neg hbe] at cr
    have hr : rdR bs i = none := if_neg hbe
    rw [hr]
    have fin : f_read_row (startR 6 [L bs, .int i]) = .exc 4 (startR 6 [L bs, .int i]) := by
      unfold f_read_row
      rw [q_seq, q_asg, q_set, cr]; rfl
    unfold F_read_row runF
    rw [fin]
theorem be_gt (bs : List Bool) (p : Nat) : p < be bs p := by
  have := ff_ge bs p
  unfold be; omega
theorem rdN_lt {bs : List Bool} {p : Nat} (h : be bs p ≤ bs.length) (hb : bs.length ≤ 3900) : rdN bs p < 2 ^ 4000 := by
  unfold rdN
  refine Nat.lt_of_lt_of_le (wb_lt _) (Nat.pow_le_pow_right (by decide) ?_)
  rw [List.length_take, List.length_drop]
  omega
theorem take_take {α : Type} (l : List α) (a b c : Nat) (h1 : a ≤ b) (h2 : b ≤ c) : (l.drop a).take (b - a) ++ (l.drop b).take (c - b) = (l.drop a).take (c - a) := by
  have e : l.drop b = (l.drop a).drop (b - a) := by rw [List.drop_drop]; congr 1; omega
  have e2 : c - a = (b - a) + (c - b) := by omega
  rw [e, e2, List.take_add]
theorem rds_sound (bs : List Bool) (hb : bs.length ≤ 3900) : ∀ (k p : Nat) (l : List Nat) (q : Nat), p ≤ bs.length → rds bs k p = some (l, q) → l.length = k ∧ p ≤ q ∧ q ≤ bs.length ∧ (bs.drop p).take (q - p) = encs l ∧ ∀ m ∈ l, m + 1 < 2 ^ 4000
  | 0, p, l, q, hp, e => by
    cases e
    refine ⟨rfl, Nat.le_refl _, hp, ?_, fun m h => by cases h⟩
    rw [Nat.sub_self]; rfl
  | k + 1, p, l, q, hp, e => by
    unfold rds at e
    by_cases hbe : be bs p ≤ bs.length
    · rw [if_pos hbe] at e
      cases e2 : rds bs k (be bs p) with
      | none => rw [e2] at e; cases e
      | some x =>
        obtain ⟨l2, q2⟩ := x
        rw [e2] at e
        cases e
        obtain ⟨h1, h2, h3, h4, h5⟩ := rds_sound bs hb k (be bs p) l2 q hbe e2
        obtain ⟨n0, he⟩ := read_enc hbe
        have hg := be_gt bs p
        have hn := rdN_lt hbe hb
        have en : rdN bs p - 1 + 1 = rdN bs p := by omega
        refine ⟨by rw [List.length_cons, h1], by omega, h3, ?_, fun m hm => ?_⟩
        · rw [← take_take bs p (be bs p) q (by omega) h2, h4, ← he]
          show _ = (enc (rdN bs p - 1 + 1) :: l2.map fun n => enc (n + 1)).flatten
          rw [en, List.flatten_cons]; rfl
        · rcases List.mem_cons.mp hm with z | z
          · rw [z, en]; exact hn
          · exact h5 m z
    · rw [if_neg hbe] at e; cases e
theorem rdR_sound (bs : List Bool) (hb : bs.length ≤ 3900) (i : Nat) (hi : i ≤ bs.length) (l : List Nat) (q : Nat) (e : rdR bs i = some (l, q)) : i < q ∧ q ≤ bs.length ∧ (bs.drop i).take (q - i) = encR l ∧ l.length ≤ 3900 ∧ ∀ m ∈ l, m + 1 < 2 ^ 4000 := by
  unfold rdR at e
  by_cases hbe : be bs i ≤ bs.length
  · rw [if_pos hbe] at e
    obtain ⟨h1, h2, h3, h4, h5⟩ := rds_sound bs hb _ _ l q hbe e
    obtain ⟨n0, he⟩ := read_enc hbe
    have hg := be_gt bs i
    have en : l.length + 1 = rdN bs i := by omega
    have hw : (bs.drop i).take (q - i) = encR l := by
      rw [← take_take bs i (be bs i) q (by omega) h2, h4, ← he]
      unfold encR
      rw [en]
    refine ⟨by omega, h3, hw, ?_, h5⟩
    have hl : (encR l).length ≤ bs.length := by
      rw [← hw, List.length_take, List.length_drop]; omega
    have hc : ∀ l : List Nat, l.length ≤ (encs l).length := fun l => by
      induction l with
      | nil => exact Nat.zero_le _
      | cons a l ih =>
        have h1 : (encs (a :: l)).length = (enc (a + 1)).length + (encs l).length := by
          show ((enc (a + 1) :: l.map fun n => enc (n + 1)).flatten).length = _
          rw [List.flatten_cons, List.length_append]; rfl
        have h2 := enc_len (n := a + 1) (by omega)
        have hp : (figs (a + 1)).length ≠ 0 := by rw [figs_pos (by omega)]; simp
        rw [List.length_cons]
        omega
    have := hc l
    unfold encR at hl
    rw [List.length_append] at hl
    omega
  · rw [if_neg hbe] at e; cases e
theorem rds_read : ∀ (l : List Nat) (pre post : List Bool), rds (pre ++ encs l ++ post) l.length pre.length = some (l, pre.length + (encs l).length)
  | [], pre, post => rfl
  | n :: l, pre, post => by
    have hs : encs (n :: l) = enc (n + 1) ++ encs l := by
      show (enc (n + 1) :: l.map fun n => enc (n + 1)).flatten = _
      rw [List.flatten_cons]; rfl
    have hw : pre ++ encs (n :: l) ++ post = pre ++ enc (n + 1) ++ (encs l ++ post) := by
      rw [hs]; simp
    have hw2 : pre ++ encs (n :: l) ++ post = (pre ++ enc (n + 1)) ++ encs l ++ post := by
      rw [hs]; simp
    obtain ⟨h1, h2⟩ := enc_read pre (encs l ++ post) (n + 1) (by omega)
    rw [← hw] at h1 h2
    have ih := rds_read l (pre ++ enc (n + 1)) post
    rw [← hw2, List.length_append] at ih
    rw [List.length_cons]
    unfold rds
    have hbe : be (pre ++ encs (n :: l) ++ post) pre.length ≤ (pre ++ encs (n :: l) ++ post).length := by
      rw [h1, hw]
      simp
    rw [if_pos hbe, h1, h2, ih]
    show some ((n + 1 - 1) :: l, _) = _
    rw [hs, List.length_append, Nat.add_sub_cancel, Nat.add_assoc]
theorem rdR_read (l : List Nat) (pre post : List Bool) : rdR (pre ++ encR l ++ post) pre.length = some (l, pre.length + (encR l).length) := by
  have hw : pre ++ encR l ++ post = pre ++ enc (l.length + 1) ++ (encs l ++ post) := by unfold encR; simp
  have hw2 : pre ++ encR l ++ post = (pre ++ enc (l.length + 1)) ++ encs l ++ post := by unfold encR; simp
  obtain ⟨h1, h2⟩ := enc_read pre (encs l ++ post) (l.length + 1) (by omega)
  have ih := rds_read l (pre ++ enc (l.length + 1)) post
  rw [← hw2, List.length_append] at ih
  rw [← hw] at h1 h2
  unfold rdR
  rw [if_pos (by rw [h1, hw]; simp), h1, h2, Nat.add_sub_cancel, ih]
  unfold encR
  rw [List.length_append, Nat.add_assoc]
abbrev B (o : Bool) (bs : List Bool) : D := .node .lst o ((VL.bi bs).map .int)

end K63.Bt

local macro_rules | `(tactic| walk_at "nm") => `(tactic| ((repeat (with_reducible apply VH.set_s)); (with_reducible exact VH.set_0)))
local macro_rules | `(tactic| walk_at "sz") => `(tactic| first | (with_reducible assumption) | exact Nat.le_of_ble_eq_true rfl | omega | (simp only [List.length_map, List.length_append, List.length_cons, List.length_nil, List.length_range, List.length_replicate, List.length_take, List.length_drop, List.length_set, List.length_reverse] <;> omega) | (simp only [List.length_map, List.length_append, List.length_cons, List.length_nil, List.length_range, List.length_replicate, List.length_take, List.length_drop, List.length_set, List.length_reverse] at * <;> omega))
local macro_rules | `(tactic| walk_at "tg") => `(tactic| first | ((with_reducible apply VH.tgt_nm); (walk_at "nm")) | ((with_reducible apply VH.tgt_tp); (exact rfl); (walk_at "sa")) | ((with_reducible apply VH.tgt_tl); (exact rfl); (walk_at "sa")) | exact rfl)
local macro_rules | `(tactic| walk_at "sa") => `(tactic| first | (with_reducible exact VH.setAll_n _) | ((with_reducible apply VH.setAll_c); (walk_at "nm"); (walk_at "sa")))
local macro_rules | `(tactic| walk_at "tc") => `(tactic| first | (with_reducible exact VH.touch_v _ _) | ((with_reducible apply VH.touch_l); (exact rfl); (infer_instance)) | ((with_reducible apply VH.touch_g); (exact rfl); (infer_instance); (walk_at "nm")) | exact rfl)
local macro_rules | `(tactic| walk_at "at") => `(tactic| first | (with_reducible assumption) | (with_reducible refine VH.at_enc ?_; first | assumption | omega) | exact rfl)
local macro_rules | `(tactic| walk_at "bf") => `(tactic| first | exact rfl | assumption | (simp only [decide_eq_false_iff_not, decide_eq_true_eq, Bool.and_eq_false_iff, Bool.and_eq_true, Bool.or_eq_false_iff, Bool.or_eq_true, Bool.not_eq_false', Bool.not_eq_true', Bool.not_true, Bool.not_false, Bool.or_false, Bool.false_or, Bool.and_true, Bool.true_and, Bool.and_false, Bool.false_and, Bool.or_true, Bool.true_or, Bool.or_self, Bool.and_self] <;> omega) | (simp <;> fail) | (simp <;> omega) | (simp [*] <;> fail))
local macro_rules | `(tactic| walk_at "ev") => `(tactic| first | (with_reducible exact VH.cc_d _ _) | (with_reducible exact VH.nil_ok _) | ((with_reducible apply VL.cvar_at); (exact rfl); (exact rfl)) | ((with_reducible apply VL.cvar_loc); (exact rfl); (exact rfl)) | ((with_reducible apply VH.cons_ok); (walk_at "ev"); (walk_at "ev")) | (walk_at "ev1") | (walk_at "ev2") | (walk_at "ev3") | (with_reducible assumption))
local macro_rules | `(tactic| walk_at "ev1") => `(tactic| first | ((with_reducible apply VH.set_loc); (exact rfl); (exact rfl); (infer_instance); (walk_at "nm")) | ((with_reducible apply VH.set_val); (walk_at "ev")) | ((with_reducible apply VH.set_any); (exact rfl); (first | assumption | exact VH.fz)) | ((with_reducible apply VL.add_ok); (walk_at "ev"); (walk_at "ev")) | ((with_reducible apply VL.sub_ok); (walk_at "ev"); (walk_at "ev")) | ((with_reducible apply VL.mod_ok); (walk_at "ev"); (walk_at "ev"); (first | omega | assumption)) | ((with_reducible apply VL.div_ok); (walk_at "ev"); (walk_at "ev"); (first | omega | assumption); (first | omega | assumption)) | ((with_reducible apply VL.lt_ok); (walk_at "ev"); (walk_at "ev")) | ((with_reducible apply VL.le_ok); (walk_at "ev"); (walk_at "ev")) | ((with_reducible apply VL.gt_ok); (walk_at "ev"); (walk_at "ev")) | ((with_reducible apply VL.ge_ok); (walk_at "ev"); (walk_at "ev")) | ((with_reducible apply VL.eq_ok); (walk_at "ev"); (walk_at "ev")) | ((with_reducible apply VL.ne_ok); (walk_at "ev"); (walk_at "ev")) | ((with_reducible apply VL.mul_ok); (walk_at "ev"); (walk_at "ev"); (first | assumption | exact VH.mulOk_l (by omega) | exact VH.mulOk_r (by omega))))
local macro_rules | `(tactic| walk_at "ev2") => `(tactic| first | ((with_reducible apply VH.addL_go); (walk_at "ev"); (walk_at "ev"); (exact rfl); (exact rfl); (infer_instance); (infer_instance); (walk_at "sz"); (walk_at "tc"); (walk_at "tc")) | ((with_reducible apply VH.ixA_go); (walk_at "ev"); (walk_at "ev"); (exact rfl); (exact rfl); (walk_at "at"); (exact rfl)) | ((with_reducible apply VH.ix_go); (walk_at "ev"); (walk_at "ev"); (exact rfl); (exact rfl); (walk_at "at"); (infer_instance); (walk_at "tc"); (intro hat; first | exact rfl | exact Bool.noConfusion hat)) | ((with_reducible apply VH.lenE_go); (walk_at "ev"); (exact rfl); (exact rfl)) | ((with_reducible apply VH.len_go); (walk_at "ev"); (exact rfl); (exact rfl)) | ((with_reducible apply VH.lst_ok); (walk_at "ev"); (exact rfl); (walk_at "sz")) | ((with_reducible apply VH.tup_ok); (walk_at "ev"); (exact rfl); (walk_at "sz")) | ((with_reducible apply VH.call_go); (walk_at "ev"); (exact rfl); (infer_instance); (exact rfl); (with_reducible assumption); (infer_instance)) | ((with_reducible apply VH.call_any); (walk_at "ev"); (exact rfl); (infer_instance); (exact rfl); (with_reducible assumption); (walk_at "se")) | ((with_reducible apply VH.call_set); (walk_at "ev"); (exact rfl); (infer_instance); (exact rfl); (with_reducible assumption); (first | (with_reducible assumption) | exact rfl); (walk_at "se")) | ((with_reducible apply VH.listOf_go); (walk_at "ev"); (exact rfl); (exact rfl); (infer_instance); (walk_at "tc")) | ((with_reducible apply VH.neg_ok); (walk_at "ev")) | ((with_reducible apply VH.max_ok); (walk_at "ev"); (walk_at "ev")) | ((with_reducible apply VH.min_ok); (walk_at "ev"); (walk_at "ev")) | ((with_reducible apply VH.not_t); (walk_at "ev")) | ((with_reducible apply VH.not_f); (walk_at "ev")) | ((with_reducible apply VL.not_ok); (walk_at "ev")) | ((with_reducible apply VH.tru_bl); (walk_at "ev")) | ((with_reducible apply VH.pop_go); (exact rfl); (exact rfl); (infer_instance); (walk_at "nm")) | ((with_reducible apply VH.lrev_go); (walk_at "ev"); (exact rfl); (infer_instance); (walk_at "tc")) | ((with_reducible apply VH.lrevL_go); (walk_at "ev"); (exact rfl); (infer_instance); (walk_at "tc")) | ((with_reducible apply VH.sl_ss); (walk_at "ev"); (exact rfl); (exact rfl); (infer_instance); (walk_at "ev"); (walk_at "ev"); (walk_at "tc"); (first | omega | assumption); (first | omega | assumption)) | ((with_reducible apply VH.sl_ns); (walk_at "ev"); (exact rfl); (exact rfl); (infer_instance); (walk_at "ev"); (walk_at "tc"); (first | omega | assumption)) | ((with_reducible apply VH.sl_sn); (walk_at "ev"); (exact rfl); (exact rfl); (infer_instance); (walk_at "ev"); (walk_at "tc"); (first | omega | assumption)) | ((with_reducible apply VH.pow_go); (walk_at "ev"); (walk_at "ev"); (first | (with_reducible assumption) | exact rfl | decide +kernel); (with_reducible assumption)) | ((with_reducible apply VH.sum_go); (walk_at "ev"); (exact rfl)) | ((with_reducible apply VH.int_bl); (walk_at "ev")) | ((with_reducible apply VH.int_int); (walk_at "ev")))
local macro_rules | `(tactic| walk_at "ev3") => `(tactic| first | ((with_reducible apply VH.and_no); (walk_at "ev")) | ((with_reducible apply VH.and_go); (walk_at "ev"); (walk_at "ev")) | ((with_reducible apply VH.and_b); (walk_at "ev"); (walk_at "ev")) | ((with_reducible apply VH.or_yes); (walk_at "ev")) | ((with_reducible apply VH.or_go); (walk_at "ev"); (walk_at "ev")) | ((with_reducible apply VH.or_b); (walk_at "ev"); (walk_at "ev")) | ((with_reducible apply VH.isi_go); (walk_at "ev"); (exact rfl); (first | exact (rfl : _ = some true) | exact (rfl : _ = some false))) | ((with_reducible apply VH.isiC_go); (walk_at "ev"); (exact rfl); (first | exact (rfl : _ = some true) | exact (rfl : _ = some false))) | ((with_reducible apply VH.eqD_go); (walk_at "ev"); (walk_at "ev"); (exact rfl); (exact rfl); (first | assumption | exact VH.eqL _ _ _ _ | exact VL.eq_lints _ _ | exact VL.eq_prs _ _)) | ((with_reducible apply VH.neD_go); (walk_at "ev"); (walk_at "ev"); (exact rfl); (exact rfl); (first | assumption | exact VH.neL _ _ _ _ | exact VL.ne_lints _ _ | exact VL.ne_prs _ _)) | ((with_reducible apply VH.it_lstG); (walk_at "ev"); (exact rfl)) | ((with_reducible apply VH.it_enumG); (walk_at "ev"); (infer_instance)) | ((with_reducible apply VH.it_rng3); (walk_at "ev"); (walk_at "ev"); (walk_at "ev"); (with_reducible assumption)) | ((with_reducible apply VH.it_rngI); (walk_at "ev"); (first | assumption | exact VL.within_le (by omega) (by omega))) | ((with_reducible apply VH.it_rng2); (walk_at "ev"); (walk_at "ev"); (first | assumption | exact VL.within_le (by omega) (by omega)); (first | assumption | exact VL.within_le (by omega) (by omega))))
local macro_rules | `(tactic| walk_at "st") => `(tactic| first | ((with_reducible apply VH.asg_go); (walk_at "ev"); (walk_at "nm")) | ((with_reducible apply VH.asgT_go); (walk_at "ev"); (walk_at "tg")) | ((with_reducible apply VH.aug_go); (exact rfl); (walk_at "ev"); (walk_at "nm")) | ((with_reducible apply VH.augS_go); (exact rfl); (walk_at "ev"); (walk_at "nm")) | ((with_reducible apply VH.augM_go); (exact rfl); (walk_at "ev"); (first | assumption | exact VH.mulOk_l (by omega) | exact VH.mulOk_r (by omega)); (walk_at "nm")) | ((with_reducible apply VH.app_go); (exact rfl); (walk_at "ev"); (exact rfl); (walk_at "sz"); (walk_at "nm")) | ((with_reducible apply VH.ext_go); (exact rfl); (walk_at "ev"); (exact rfl); (walk_at "tc"); (exact rfl); (infer_instance); (infer_instance); (walk_at "sz"); (walk_at "nm")) | (with_reducible exact VH.skip_go _) | ((with_reducible apply VH.par_go); (walk_at "ev"); (exact rfl); (exact rfl); (walk_at "sa")) | ((with_reducible apply VH.setIx_go); (walk_at "ev"); (exact rfl); (walk_at "ev"); (exact rfl); (first | assumption | exact VH.ixN_nat (by first | assumption | omega)); (walk_at "nm")) | ((with_reducible apply VH.expr_go); (walk_at "ev")) | (with_reducible assumption))
local macro_rules | `(tactic| walk_at "go1") => `(tactic| first | (with_reducible apply VH.seq_as) | ((with_reducible apply VH.seq_ret); (walk_at "ev"); (exact rfl)) | (with_reducible apply VH.seq_sk) | ((with_reducible apply VH.seq_ra); (exact rfl)) | ((with_reducible apply VH.seq_go); (walk_at "st")) | ((with_reducible apply VH.ret_go); (walk_at "ev")) | (walk_at "st"))
local macro_rules | `(tactic| walk_at "go") => `(tactic| (repeat (walk_at "go1")))
local macro_rules | `(tactic| walk_at "yes") => `(tactic| first | ((with_reducible apply VH.seq_yes); (walk_at "ev"); (walk_at "bf")) | ((with_reducible apply VH.ifs_y); (walk_at "ev"); (walk_at "bf")))
local macro_rules | `(tactic| walk_at "no") => `(tactic| first | ((with_reducible apply VH.seq_no); (walk_at "ev"); (walk_at "bf"); (try (with_reducible apply VH.seq_sk))) | ((with_reducible apply VH.ifs_n); (walk_at "ev"); (walk_at "bf")))
local macro_rules | `(tactic| walk_at "for") => `(tactic| first | ((with_reducible apply VH.seq_go); ((with_reducible apply VH.for_go); (walk_at "ev"))) | ((with_reducible apply VH.for_go); (walk_at "ev")))
local macro_rules | `(tactic| walk_at "start") => `(tactic| ((repeat (first | (with_reducible apply VH.start_c) | (with_reducible apply VH.start_n))); (with_reducible exact VH.start_z)))
local macro_rules | `(tactic| walk_at "def") => `(tactic| ((apply VH.runF_go); (walk_at "start"); (show VL.cSeq _ _ _ = _); (walk_at "go")))
local macro_rules | `(tactic| walk_at "se") => `(tactic| first | (with_reducible exact VH.se_n _) | ((with_reducible apply VH.se_v); (walk_at "se")) | ((with_reducible apply VH.se_l); (exact rfl); (infer_instance); (walk_at "nm"); (walk_at "se")))
local macro_rules | `(tactic| walk_at "why") => `(tactic| ((with_reducible apply VH.wh_y); (walk_at "ev"); (walk_at "bf"); (walk_at "go")))
local macro_rules | `(tactic| walk_at "whn") => `(tactic| ((with_reducible apply VH.wh_n); (walk_at "ev"); (walk_at "bf")))
local macro_rules | `(tactic| walk_at "gor") => `(tactic| ((apply VH.nx_to); (walk_at "go"); (exact rfl)))
namespace K63.Co
open VH K63 K63.Bt
abbrev Lp := Int × Nat
def pl (p : Lp) : D := .node .tup false [.int p.1, .int (p.2 : Nat)]
theorem frz_pl (p : Lp) : frz (pl p) = pl p := rfl
theorem frzs_pl (L : List Lp) : frzs (L.map pl) = L.map pl := by
  rw [frzs_map, List.map_map]
  exact List.map_congr_left fun p _ => frz_pl p
instance (L : List Lp) : Fzs (L.map pl) (L.map pl) := ⟨frzs_pl L⟩
def room (l : Nat) : Nat := 2 ^ (256 - l)
def kr (L : List Lp) : Nat := (L.map fun p => room p.2).sum
end K63.Co

namespace K63.Co
open VH K63 K63.Bt
def bw : Nat → Nat → List Bool
  | 0, _ => []
  | l + 1, n => bw l (n / 2) ++ [n % 2 == 1]
def ws (n a : Nat) : List (Nat × Int) → List (Int × List Bool)
  | [] => []
  | q :: r => (q.2, bw q.1 (n * 2 ^ (q.1 - a))) :: ws (n * 2 ^ (q.1 - a) + 1) q.1 r
def so (L : List Lp) : List (Nat × Int) := (srtP (L.map fun p => (((p.2 : Nat) : Int), p.1))).map fun q => (q.1.toNat, q.2)
end K63.Co

namespace K63.Co
open VH K63 K63.Bt
end K63.Co

namespace K63.Co
open VH K63 K63.Bt
end K63.Co

namespace K63.Co
open VH K63 K63.Bt
end K63.Co

namespace K63.Co
open VH K63 K63.Bt
end K63.Co

namespace K63.Hf
open VH K63
def tgs : Nat → List (Int × Int) → List (Int × Int)
  | _, [] => []
  | k, p :: cs => (p.2, (k : Int)) :: tgs (k + 1) cs
def ens : Nat → List (Int × Int) → List (Int × (Int × Int))
  | _, [] => []
  | k, p :: cs => ((k : Int), p) :: ens (k + 1) cs
def ee (q : Int × (Int × Int)) : D := .node .tup false [.int q.1, pr q.2]
theorem enum_ens : ∀ (k : Nat) (cs : List (Int × Int)), enumD k (cs.map pr) = (ens k cs).map ee
  | _, [] => rfl
  | k, p :: cs => by
    have ih := enum_ens (k + 1) cs
    show _ :: enumD (k + 1) (cs.map pr) = _
    rw [ih]
    rfl
theorem tgs_len : ∀ (k : Nat) (cs : List (Int × Int)), (tgs k cs).length = cs.length
  | _, [] => rfl
  | k, p :: cs => by
    show (tgs (k + 1) cs).length + 1 = _
    rw [tgs_len (k + 1) cs]; rfl
def jo (n : Nat) : Nat → List (Int × Int) → Nat → List (Int × Int)
  | m + 1, (l, a) :: (h, b) :: rest, k => (min a b, max a b) :: jo n m (srtP (rest ++ [(l + h, ((n + k : Nat) : Int))])) (k + 1)
  | _, _, _ => []
theorem srtP_len (ps : List (Int × Int)) : (srtP ps).length = ps.length := (srtP_perm ps).length_eq
end K63.Hf

namespace K63.Hf
open VH K63
def Bd (n k : Nat) (S : Int → Prop) : Prop := ∀ z, S z → 0 ≤ z ∧ z < ((n + k : Nat) : Int)
def dep (n : Nat) : Nat → List (Int × Int) → Int → Nat
  | _, [], _ => 0
  | k, (x, y) :: js, z => if z = x ∨ z = y then dep n (k + 1) js ((n + k : Nat) : Int) + 1 else dep n (k + 1) js z
theorem dep_le {n : Nat} : ∀ (js : List (Int × Int)) (k : Nat) (z : Int), dep n k js z ≤ js.length
  | [], _, _ => Nat.le_refl _
  | (x, y) :: js, k, z => by
    show (if z = x ∨ z = y then dep n (k + 1) js ((n + k : Nat) : Int) + 1 else dep n (k + 1) js z) ≤ js.length + 1
    have h1 := dep_le (n := n) js (k + 1) ((n + k : Nat) : Int)
    have h2 := dep_le (n := n) js (k + 1) z
    split <;> omega
structure Inv (n k : Nat) (ks : List Int) (w : Int → Int) (ts : List (Int × Int)) : Prop where
  up : ts.Pairwise fun p q => leP p q = true
  pm : ts.Perm (ks.map fun x => (w x, x))
  nd : ks.Nodup
  bd : Bd n k (· ∈ ks)
def wo (ks : List Int) (x y : Int) : List Int := (ks.filter fun z => decide (z ≠ x)).filter fun z => decide (z ≠ y)
theorem mem_wo {ks : List Int} {x y z : Int} : z ∈ wo ks x y ↔ z ∈ ks ∧ z ≠ x ∧ z ≠ y := by
  unfold wo
  rw [List.mem_filter, List.mem_filter, decide_eq_true_eq, decide_eq_true_eq, and_assoc]
theorem wo_comm (ks : List Int) (x y : Int) : wo ks x y = wo ks y x := by
  unfold wo
  rw [List.filter_filter, List.filter_filter]
  congr 1
  funext z
  exact Bool.and_comm _ _
theorem wo_perm {ks : List Int} (nd : ks.Nodup) {a b : Int} (ha : a ∈ ks) (hb : b ∈ ks) (hab : a ≠ b) : ks.Perm (a :: b :: wo ks a b) := by
  have h : ∀ {ks : List Int} (nd : ks.Nodup) {a : Int} (ha : a ∈ ks), ks.Perm (a :: ks.filter fun z => decide (z ≠ a)) := fun {ks} nd {a} ha => by
    have p := List.perm_cons_erase ha
    rw [nd.erase_eq_filter] at p
    refine p.trans (List.Perm.of_eq ?_)
    congr 1
    refine List.filter_congr fun z _ => ?_
    by_cases e : z = a <;> simp [e]
  refine (h nd ha).trans (List.Perm.cons a ?_)
  exact h (nd.filter _) (List.mem_filter.mpr ⟨hb, by simpa using fun e => hab e.symm⟩)
def upW (w : Int → Int) (x d : Int) : Int → Int := fun y => if y = x then d else w y
theorem Inv.step {n k : Nat} {ks : List Int} {w : Int → Int} {l a h b : Int} {rest : List (Int × Int)} (I : Inv n k ks w ((l, a) :: (h, b) :: rest)) :
    min a b < max a b ∧ min a b ∈ ks ∧ max a b ∈ ks ∧ max (w (min a b)) (w (max a b)) = h ∧ w (min a b) + w (max a b) = l + h ∧ (∀ z ∈ ks, z ≠ min a b → z ≠ max a b → h ≤ w z) ∧ ((n + k : Nat) : Int) ∉ wo ks (min a b) (max a b) ∧
    Inv n (k + 1) (wo ks (min a b) (max a b) ++ [((n + k : Nat) : Int)]) (upW w ((n + k : Nat) : Int) (l + h)) (srtP (rest ++ [(l + h, ((n + k : Nat) : Int))])) := by
  have up1 := List.pairwise_cons.mp I.up
  have up2 := List.pairwise_cons.mp up1.2
  have ma : (l, a) ∈ ks.map fun x => (w x, x) := I.pm.mem_iff.mp List.mem_cons_self
  have mb : (h, b) ∈ ks.map fun x => (w x, x) := I.pm.mem_iff.mp (List.mem_cons_of_mem _ List.mem_cons_self)
  obtain ⟨a', ha, ea⟩ := List.mem_map.mp ma
  obtain ⟨b', hb, eb⟩ := List.mem_map.mp mb
  simp only [Prod.mk.injEq] at ea eb
  obtain ⟨wa, rfl⟩ := ea
  obtain ⟨wb, rfl⟩ := eb
  have ndm : (ks.map fun x => (w x, x)).Nodup := by
    unfold List.Nodup
    rw [List.pairwise_map]
    exact List.Pairwise.imp (fun {x y} h e => h (by injection e)) I.nd
  have ndt : ((l, a') :: (h, b') :: rest).Nodup := I.pm.nodup_iff.mpr ndm
  have hab : a' ≠ b' := fun e => by
    subst e
    have e2 : l = h := wa.symm.trans wb
    subst e2
    exact (List.nodup_cons.mp ndt).1 List.mem_cons_self
  have hlh : l ≤ h := by
    have := leP_iff.mp (up1.1 (h, b') List.mem_cons_self)
    simp only at this
    omega
  have pk := wo_perm I.nd ha hb hab
  have pr1 : rest.Perm ((wo ks a' b').map fun x => (w x, x)) := by
    have p := I.pm.trans (pk.map fun x => (w x, x))
    rw [List.map_cons, List.map_cons, wa, wb] at p
    exact (List.perm_cons _).mp ((List.perm_cons _).mp p)
  have hoth : ∀ z ∈ ks, z ≠ a' → z ≠ b' → h ≤ w z := fun z hz h1 h2 => by
    have : (w z, z) ∈ rest := pr1.mem_iff.mpr (List.mem_map.mpr ⟨z, mem_wo.mpr ⟨hz, h1, h2⟩, rfl⟩)
    have := leP_iff.mp (up2.1 _ this)
    simp only at this
    omega
  have hnew : ((n + k : Nat) : Int) ∉ ks := fun q => by have := I.bd _ q; omega
  have ewo : wo ks (min a' b') (max a' b') = wo ks a' b' := by
    rcases Int.le_total a' b' with q | q
    · rw [Int.min_eq_left q, Int.max_eq_right q]
    · rw [Int.min_eq_right q, Int.max_eq_left q, wo_comm]
  have hn2 : ((n + k : Nat) : Int) ∉ wo ks a' b' := fun q => hnew (mem_wo.mp q).1
  have fin : Inv n (k + 1) (wo ks a' b' ++ [((n + k : Nat) : Int)]) (upW w ((n + k : Nat) : Int) (l + h)) (srtP (rest ++ [(l + h, ((n + k : Nat) : Int))])) := by
    refine ⟨srtP_up _, (srtP_perm _).trans ?_, ?_, fun z hz => ?_⟩
    · rw [List.map_append]
      refine List.Perm.append ?_ (List.Perm.of_eq ?_)
      · refine pr1.trans (List.Perm.of_eq (List.map_congr_left fun x hx => ?_))
        unfold upW
        rw [if_neg (fun e : x = ((n + k : Nat) : Int) => hn2 (e ▸ hx))]
      · simp [upW]
    · rw [List.nodup_append]
      exact ⟨(I.nd.filter _).filter _, List.nodup_cons.mpr ⟨fun h => (List.not_mem_nil h), List.nodup_nil⟩, fun x hx y hy e => hn2 (by rw [List.mem_singleton.mp hy] at e; exact e ▸ hx)⟩
    · rcases List.mem_append.mp hz with hz | hz
      · have := I.bd z (mem_wo.mp hz).1; omega
      · rw [List.mem_singleton.mp hz]; omega
  rw [ewo]
  rcases Int.lt_or_gt_of_ne hab with q | q
  · rw [Int.min_eq_left (by omega), Int.max_eq_right (by omega : a' ≤ b')]
    exact ⟨q, ha, hb, by omega, by omega, hoth, hn2, fin⟩
  · rw [Int.min_eq_right (by omega), Int.max_eq_left (by omega : b' ≤ a')]
    exact ⟨q, hb, ha, by omega, by omega, fun z hz h1 h2 => hoth z hz h2 h1, hn2, fin⟩
theorem jo_len (n : Nat) : ∀ (m : Nat) (ts : List (Int × Int)) (k : Nat), ts.length ≤ m + 1 → (jo n m ts k).length = ts.length - 1
  | 0, [], k, h => rfl
  | 0, [_], k, h => rfl
  | 0, _ :: _ :: _, k, h => by simp at h
  | m + 1, [], k, h => rfl
  | m + 1, [_], k, h => rfl
  | m + 1, (l, a) :: (hh, b) :: ts, k, h => by
    rw [List.length_cons, List.length_cons] at h
    have ih := jo_len n m (srtP (ts ++ [(l + hh, ((n + k : Nat) : Int))])) (k + 1) (by rw [srtP_len, List.length_append, List.length_singleton]; omega)
    show (jo n m _ (k + 1)).length + 1 = _
    rw [ih, srtP_len, List.length_append, List.length_singleton, List.length_cons, List.length_cons]
    omega
end K63.Hf

namespace K63.Hf
open VH K63
def rg (t : Nat) : List Int := (List.range t).map fun i => ((i : Nat) : Int)
theorem rg_mem {t : Nat} {z : Int} : z ∈ rg t ↔ 0 ≤ z ∧ z < t := by
  unfold rg
  rw [List.mem_map]
  constructor
  · rintro ⟨i, hi, rfl⟩
    have := List.mem_range.mp hi
    omega
  · rintro ⟨h1, h2⟩
    exact ⟨z.toNat, List.mem_range.mpr (by omega), by omega⟩
theorem rg_nd (t : Nat) : (rg t).Nodup := by
  unfold rg List.Nodup
  rw [List.pairwise_map]
  exact List.Pairwise.imp (fun {a b} hab z => by omega) (List.nodup_range (n := t))
def wc (cs : List (Int × Int)) : Int → Int := fun x => (cs.getD x.toNat (0, 0)).2
theorem tgs_at : ∀ (k : Nat) (cs : List (Int × Int)) (i : Nat), (tgs k cs)[i]? = cs[i]?.map fun p => (p.2, ((k + i : Nat) : Int))
  | k, [], i => rfl
  | k, p :: cs, 0 => rfl
  | k, p :: cs, i + 1 => by
    show (tgs (k + 1) cs)[i]? = cs[i]?.map _
    rw [tgs_at (k + 1) cs i, show k + 1 + i = k + (i + 1) by omega]
theorem tgs_rg (cs : List (Int × Int)) : tgs 0 cs = (rg cs.length).map fun x => (wc cs x, x) := by
  refine List.ext_getElem? fun i => ?_
  rw [tgs_at]
  unfold rg
  rw [List.map_map, List.getElem?_map]
  by_cases h : i < cs.length
  · rw [List.getElem?_eq_getElem h, List.getElem?_range h]
    show some _ = some _
    unfold wc
    simp [h]
  · rw [List.getElem?_eq_none (by omega), List.getElem?_eq_none (by simp; omega)]
    rfl
theorem inv0 (cs : List (Int × Int)) : Inv cs.length 0 (rg cs.length) (wc cs) (srtP (tgs 0 cs)) :=
  ⟨srtP_up _, (srtP_perm _).trans (List.Perm.of_eq (tgs_rg cs)), rg_nd _, fun z hz => by have := rg_mem.mp hz; omega⟩
abbrev JS (cs : List (Int × Int)) : List (Int × Int) := jo cs.length 260 (srtP (tgs 0 cs)) 0
def fd (cs js : List (Int × Int)) (i : Nat) : Int × Int := ((cs.getD i (0, 0)).1, max 1 ((dep cs.length 0 js (i : Int) : Nat) : Int))
def dn (cs js : List (Int × Int)) (t : Nat) : List Nat := (List.range (cs.length + js.length)).map fun i => dep cs.length t (js.drop t) ((i : Nat) : Int)
end K63.Hf

namespace K63.Hf
open VH K63
def dot : List Nat → List Nat → Nat
  | w :: ws, l :: ls => w * l + dot ws ls
  | _, _ => 0
def ins (x : Nat) : List Nat → List Nat
  | [] => [x]
  | y :: ys => if x ≤ y then x :: y :: ys else y :: ins x ys
abbrev Up (xs : List Nat) : Prop := xs.Pairwise (· ≤ ·)
theorem ins_perm (x : Nat) : ∀ ys : List Nat, (ins x ys).Perm (x :: ys)
  | [] => List.Perm.refl _
  | y :: ys => by
    unfold ins
    split
    · exact List.Perm.refl _
    · exact ((ins_perm x ys).cons y).trans (List.Perm.swap x y ys)
theorem ins_up (x : Nat) : ∀ {ys : List Nat}, Up ys → Up (ins x ys)
  | [], _ => List.pairwise_singleton _ _
  | y :: ys, h => by
    have h1 := List.pairwise_cons.mp h
    unfold ins
    split
    · rename_i c
      refine List.pairwise_cons.mpr ⟨fun z hz => ?_, h⟩
      rcases List.mem_cons.mp hz with e | e
      · omega
      · have := h1.1 z e; omega
    · refine List.pairwise_cons.mpr ⟨fun z hz => ?_, ins_up x h1.2⟩
      rcases List.mem_cons.mp ((ins_perm x ys).mem_iff.mp hz) with e | e
      · omega
      · exact h1.1 z e
def srt : List Nat → List Nat
  | [] => []
  | x :: xs => ins x (srt xs)
theorem srt_perm : ∀ xs : List Nat, (srt xs).Perm xs
  | [] => List.Perm.refl _
  | x :: xs => (ins_perm x _).trans ((srt_perm xs).cons x)
theorem srt_up : ∀ xs : List Nat, Up (srt xs)
  | [] => List.Pairwise.nil
  | x :: xs => ins_up x (srt_up xs)
theorem up_unique : ∀ {xs ys : List Nat}, xs.Perm ys → Up xs → Up ys → xs = ys
  | [], ys, p, _, _ => by rw [List.nil_perm.mp p]
  | x :: xs, [], p, _, _ => by have := p.length_eq; simp at this
  | x :: xs, y :: ys, p, h1, h2 => by
    have a1 := List.pairwise_cons.mp h1
    have a2 := List.pairwise_cons.mp h2
    have e : x = y := by
      rcases List.mem_cons.mp (p.mem_iff.mp List.mem_cons_self) with e | m1
      · exact e
      · rcases List.mem_cons.mp (p.mem_iff.mpr List.mem_cons_self) with e | m2
        · exact e.symm
        · have := a1.1 _ m2
          have := a2.1 _ m1
          omega
    subst e
    rw [up_unique (p.cons_inv) a1.2 a2.2]
def hc : Nat → List Nat → Nat
  | n + 1, a :: b :: ws => a + b + hc n (ins (a + b) ws)
  | _, _ => 0
theorem hc_short (n : Nat) {ws : List Nat} (h : ws.length ≤ 1) : hc n ws = 0 := by
  match n, ws with
  | 0, _ => rfl
  | _ + 1, [] => rfl
  | _ + 1, [_] => rfl
  | _ + 1, _ :: _ :: _ => simp at h
theorem sum_two (f : Int → Nat) {ks : List Int} {x y : Int} {zs : List Int} (p : ks.Perm (x :: y :: zs)) : (ks.map f).sum = f x + (f y + (zs.map f).sum) := (p.map f).sum_nat
theorem sum_last (f : Int → Nat) (zs : List Int) (v : Int) : ((zs ++ [v]).map f).sum = (zs.map f).sum + f v := by
  rw [List.map_append, List.sum_append]
  show _ + (f v + 0) = _
  rw [Nat.add_zero]
theorem sum_congr (f g : Int → Nat) {zs : List Int} (h : ∀ z ∈ zs, f z = g z) : (zs.map f).sum = (zs.map g).sum := by
  rw [List.map_congr_left h]
theorem wts_ins {l h v : Int} {rest : List (Int × Int)} (hl : 0 ≤ l) (hh : 0 ≤ h) (hu : rest.Pairwise fun p q => leP p q = true) (hr : ∀ p ∈ rest, 0 ≤ p.1) : (srtP (rest ++ [(l + h, v)])).map (fun p => p.1.toNat) = ins (l.toNat + h.toNat) (rest.map fun p => p.1.toNat) := by
  have up : ∀ {qs : List (Int × Int)}, qs.Pairwise (fun p q => leP p q = true) → Up (qs.map fun p => p.1.toNat) := fun h => List.pairwise_map.mpr (h.imp fun {p q} c => by
    have := leP_iff.mp c
    show p.1.toNat ≤ q.1.toNat
    omega)
  refine up_unique ?_ (up (srtP_up _)) (ins_up _ (up hu))
  refine ((srtP_perm _).map _).trans ?_
  rw [List.map_append]
  refine List.perm_append_comm.trans ?_
  have e : [(l + h, v)].map (fun p : Int × Int => p.1.toNat) = [l.toNat + h.toNat] := by
    show [(l + h).toNat] = _
    rw [show (l + h).toNat = l.toNat + h.toNat from by omega]
  rw [e]
  exact (ins_perm _ _).symm
theorem tell (n : Nat) : ∀ (m : Nat) (ts : List (Int × Int)) (k : Nat) (ks : List Int) (w : Int → Int), Inv n k ks w ts → ts.length ≤ m + 1 → (∀ z ∈ ks, 0 ≤ w z) → ts ≠ [] → ∀ M : Nat, ts.length ≤ M + 1 →
    (ks.map fun z => 2 ^ (M - dep n k (jo n m ts k) z)).sum = 2 ^ M ∧ (ks.map fun z => (w z).toNat * dep n k (jo n m ts k) z).sum = hc m (ts.map fun p => p.1.toNat)
  | m, [], k, ks, w, I, _, _, h0, M, _ => (h0 rfl).elim
  | m, [p], k, ks, w, I, _, _, _, M, _ => by
    have hl := I.pm.length_eq
    rw [List.length_map] at hl
    have e : jo n m [p] k = [] := by cases m <;> rfl
    rw [e]
    match ks, hl with
    | [z], _ =>
      constructor
      · show 2 ^ (M - 0) + 0 = 2 ^ M
        rw [Nat.sub_zero, Nat.add_zero]
      · rw [hc_short _ (by simp)]
        show (w z).toNat * 0 + 0 = 0
        omega
  | 0, _ :: _ :: _, _, _, _, _, hm, _, _, _, _ => by simp at hm
  | m + 1, (l, a) :: (h, b) :: rest, k, ks, w, I, hm, hw, _, M, hM => by
    obtain ⟨h1, h2, h3, h4, h5, h6, h7, I'⟩ := I.step
    have hup := (List.pairwise_cons.mp (List.pairwise_cons.mp I.up).2).2
    have hpos : ∀ p ∈ (l, a) :: (h, b) :: rest, 0 ≤ p.1 := fun p hp => by
      obtain ⟨z, hz, e⟩ := List.mem_map.mp (I.pm.mem_iff.mp hp)
      rw [← e]; exact hw z hz
    have hl0 : 0 ≤ l := hpos _ List.mem_cons_self
    have hh0 : 0 ≤ h := hpos _ (List.mem_cons_of_mem _ List.mem_cons_self)
    have hr0 : ∀ p ∈ rest, 0 ≤ p.1 := fun p hp => hpos p (List.mem_cons_of_mem _ (List.mem_cons_of_mem _ hp))
    have hlen : (srtP (rest ++ [(l + h, ((n + k : Nat) : Int))])).length = rest.length + 1 := by
      rw [(srtP_perm _).length_eq, List.length_append]; rfl
    simp only [List.length_cons] at hm hM
    have hne : srtP (rest ++ [(l + h, ((n + k : Nat) : Int))]) ≠ [] := fun q => by rw [q] at hlen; simp at hlen
    have hj : jo n (m + 1) ((l, a) :: (h, b) :: rest) k = (min a b, max a b) :: jo n m (srtP (rest ++ [(l + h, ((n + k : Nat) : Int))])) (k + 1) := rfl
    have pm := wo_perm I.nd h2 h3 (by omega)
    have hwo : ∀ z ∈ wo ks (min a b) (max a b), z ∈ ks ∧ z ≠ min a b ∧ z ≠ max a b ∧ z ≠ ((n + k : Nat) : Int) := fun z hz => by
      obtain ⟨q1, q2, q3⟩ := mem_wo.mp hz
      exact ⟨q1, q2, q3, fun e => h7 (e ▸ hz)⟩
    have hw' : ∀ z ∈ wo ks (min a b) (max a b) ++ [((n + k : Nat) : Int)], 0 ≤ upW w ((n + k : Nat) : Int) (l + h) z := fun z hz => by
      unfold upW
      rcases List.mem_append.mp hz with hz | hz
      · obtain ⟨q1, _, _, q4⟩ := hwo z hz
        rw [if_neg q4]; exact hw z q1
      · rw [List.mem_singleton.mp hz, if_pos rfl]; omega
    obtain ⟨ih1, ih2⟩ := tell n m _ (k + 1) _ _ I' (by rw [hlen]; omega) hw' hne M (by rw [hlen]; omega)
    have hjl := jo_len n m (srtP (rest ++ [(l + h, ((n + k : Nat) : Int))])) (k + 1) (by rw [hlen]; omega)
    rw [hlen] at hjl
    revert ih1 ih2 hjl
    rw [hj]
    generalize jo n m (srtP (rest ++ [(l + h, ((n + k : Nat) : Int))])) (k + 1) = js
    intro ih1 ih2 hjl
    have hd := dep_le js (k + 1) ((n + k : Nat) : Int) (n := n)
    have dx : ∀ z, z = min a b ∨ z = max a b → dep n k ((min a b, max a b) :: js) z = dep n (k + 1) js ((n + k : Nat) : Int) + 1 := fun z c => if_pos c
    have dz : ∀ z ∈ wo ks (min a b) (max a b), dep n k ((min a b, max a b) :: js) z = dep n (k + 1) js z := fun z hz => by
      obtain ⟨_, q2, q3, _⟩ := hwo z hz
      exact if_neg (fun c => c.elim q2 q3)
    rw [sum_last] at ih1 ih2
    constructor
    · rw [sum_two _ pm, dx _ (.inl rfl), dx _ (.inr rfl), sum_congr _ (fun z => 2 ^ (M - dep n (k + 1) js z)) fun z hz => by rw [dz z hz]]
      rw [← ih1]
      have e : 2 ^ (M - dep n (k + 1) js ((n + k : Nat) : Int)) = 2 * 2 ^ (M - (dep n (k + 1) js ((n + k : Nat) : Int) + 1)) := by
        rw [← Nat.pow_succ']
        congr 1; omega
      rw [e]
      omega
    · have eh : hc (m + 1) (((l, a) :: (h, b) :: rest).map fun p => p.1.toNat) = l.toNat + h.toNat + hc m ((srtP (rest ++ [(l + h, ((n + k : Nat) : Int))])).map fun p => p.1.toNat) := by
        rw [wts_ins hl0 hh0 hup hr0]; rfl
      rw [eh, ← ih2, sum_two _ pm, dx _ (.inl rfl), dx _ (.inr rfl), sum_congr _ (fun z => (upW w ((n + k : Nat) : Int) (l + h) z).toNat * dep n (k + 1) js z) fun z hz => by
        rw [dz z hz]
        obtain ⟨_, _, _, q4⟩ := hwo z hz
        unfold upW
        rw [if_neg q4]]
      have ev : upW w ((n + k : Nat) : Int) (l + h) ((n + k : Nat) : Int) = l + h := if_pos rfl
      rw [ev]
      have hx := hw _ h2
      have hy := hw _ h3
      have e1 : (w (min a b)).toNat + (w (max a b)).toNat = l.toNat + h.toNat := by omega
      have e2 : (l + h).toNat = (w (min a b)).toNat + (w (max a b)).toNat := by omega
      rw [e2, ← e1, Nat.mul_add, Nat.mul_add, Nat.add_mul]
      omega
end K63.Hf

namespace K63.Hf
open VH K63
theorem lt_sum (f : Int → Nat) (hf : ∀ z, 0 < f z) : ∀ {zs : List Int} {z0 : Int}, z0 ∈ zs → 2 ≤ zs.length → f z0 < (zs.map f).sum
  | [_], _, _, h => by simp at h
  | [x, y], z0, hz, _ => by
    show f z0 < f x + (f y + 0)
    have := hf x
    have := hf y
    rcases List.mem_cons.mp hz with e | hz
    · rw [e]; omega
    · rw [List.mem_singleton.mp hz]; omega
  | x :: y :: w :: zs, z0, hz, _ => by
    show f z0 < f x + ((y :: w :: zs).map f).sum
    have h0 := hf x
    rcases List.mem_cons.mp hz with e | hz
    · have := lt_sum f hf (z0 := y) (zs := y :: w :: zs) List.mem_cons_self (by simp)
      have := hf y
      rw [e]; omega
    · have := lt_sum f hf hz (by simp)
      omega
structure Told (cs : List (Int × Int)) : Prop where
  kr : 1 ≤ cs.length → ((rg cs.length).map fun z => 2 ^ (256 - dep cs.length 0 (JS cs) z)).sum = 2 ^ 256
  co : 1 ≤ cs.length → ((rg cs.length).map fun z => (wc cs z).toNat * dep cs.length 0 (JS cs) z).sum = hc 260 (srt (cs.map fun p => p.2.toNat))
  one : 2 ≤ cs.length → ∀ z ∈ rg cs.length, 1 ≤ dep cs.length 0 (JS cs) z
theorem srt_wts (cs : List (Int × Int)) : (srtP (tgs 0 cs)).map (fun p => p.1.toNat) = srt (cs.map fun p => p.2.toNat) := by
  refine up_unique ?_ ?_ (srt_up _)
  · refine ((srtP_perm _).map _).trans ?_
    refine List.Perm.trans (List.Perm.of_eq ?_) (srt_perm _).symm
    have : ∀ (k : Nat) (cs : List (Int × Int)), (tgs k cs).map (fun p => p.1.toNat) = cs.map fun p => p.2.toNat := by
      intro k cs
      induction cs generalizing k with
      | nil => rfl
      | cons p cs ih =>
        show p.2.toNat :: (tgs (k + 1) cs).map _ = _
        rw [ih]; rfl
    exact this 0 cs
  · exact List.pairwise_map.mpr ((srtP_up _).imp fun {p q} c => by
      have := leP_iff.mp c
      show p.1.toNat ≤ q.1.toNat
      omega)
theorem told (cs : List (Int × Int)) (hn : cs.length ≤ 256) (hp : ∀ p ∈ cs, 0 ≤ p.2) : Told cs := by
  have hlen : (srtP (tgs 0 cs)).length = cs.length := by rw [srtP_len, tgs_len]
  have hw : ∀ z ∈ rg cs.length, 0 ≤ wc cs z := fun z hz => by
    obtain ⟨h1, h2⟩ := rg_mem.mp hz
    unfold wc
    rw [List.getD_eq_getElem?_getD, List.getElem?_eq_getElem (by omega)]
    exact hp _ (List.getElem_mem _)
  have t : 1 ≤ cs.length → _ := fun h => tell cs.length 260 (srtP (tgs 0 cs)) 0 (rg cs.length) (wc cs) (inv0 cs) (by omega) hw (fun q => by rw [q] at hlen; simp at hlen; omega) 256 (by omega)
  refine ⟨fun h => (t h).1, fun h => by rw [← srt_wts]; exact (t h).2, fun h z hz => ?_⟩
  have k := (t (by omega)).1
  rcases Nat.eq_zero_or_pos (dep cs.length 0 (JS cs) z) with e | e
  · exfalso
    have h2 := lt_sum (fun z => 2 ^ (256 - dep cs.length 0 (jo cs.length 260 (srtP (tgs 0 cs)) 0) z)) (fun z => Nat.pow_pos (by decide)) hz (by unfold rg; rw [List.length_map, List.length_range]; exact h)
    rw [k] at h2
    have h2 : 2 ^ (256 - dep cs.length 0 (JS cs) z) < 2 ^ 256 := h2
    rw [e] at h2
    exact Nat.lt_irrefl _ h2
  · exact e
end K63.Hf

namespace K63.Ct
open K63
abbrev ct (t : Int) : Prop := 0 ≤ t ∧ t < 256
def cnt (ts : List Int) (x : Int) : Int × Int := (x, (ts.count x : Nat))
def clN (ts : List Int) (ns : List Nat) : List (Int × Int) := (ns.filter fun s => decide (0 < ts.count ((s : Nat) : Int))).map fun s => cnt ts (s : Nat)
def cl (ts : List Int) : List (Int × Int) := clN ts (List.range 256)
end K63.Ct

namespace K63.Tn
open K63
abbrev I (o : Bool) (xs : List Int) : D := .node .lst o (xs.map .int)
theorem cc (n : Int) (r : Rho) : cC (.int n) r = .ok (.val (.int n)) r := rfl
def Ok (xs : List Int) : Prop := ∀ x ∈ xs, 0 ≤ x ∧ x ≤ 255
def sf : List Int → List (List Int)
  | [] => [[]]
  | x :: t => (x :: t) :: sf t
def pf : List Int → List (List Int × Int)
  | [] => []
  | x :: t => (t, x) :: pf t
theorem sf_pf : ∀ T : List Int, sf T = T :: (pf T).map (·.1)
  | [] => rfl
  | x :: t => by
    show (x :: t) :: sf t = (x :: t) :: t :: (pf t).map (·.1)
    rw [sf_pf t]
theorem sf_len : ∀ T g : List Int, g ∈ sf T → g.length ≤ T.length
  | [], g, h => by rw [List.mem_singleton.mp h]; exact Nat.le_refl _
  | x :: t, g, h => by
    rcases List.mem_cons.mp h with e | e
    · rw [e]; exact Nat.le_refl _
    · have := sf_len t g e; rw [List.length_cons]; omega
theorem sf_nodup : ∀ T : List Int, (sf T).Nodup
  | [] => List.nodup_cons.mpr ⟨List.not_mem_nil, List.nodup_nil⟩
  | x :: t => List.nodup_cons.mpr ⟨fun h => by have := sf_len t _ h; rw [List.length_cons] at this; omega, sf_nodup t⟩
def pre (T g : List Int) : Option Int := if g.length < T.length then T[T.length - g.length - 1]? else none
abbrev StL (xs : List (List Int)) : Prop := xs.Pairwise fun p q => HT.lexLt p q = true
def Es (T : List Int) : List (List Int) := srtL (sf T)
theorem lex_irr (x : List Int) : HT.lexLt x x = false := by
  induction x with
  | nil => rfl
  | cons a x ih => rw [HT.lexLt_cons, if_pos rfl, ih]
theorem Es_perm (T : List Int) : (Es T).Perm (sf T) := srtL_perm _
theorem Es_nodup (T : List Int) : (Es T).Nodup := (Es_perm T).nodup_iff.mpr (sf_nodup T)
theorem Es_st (T : List Int) : StL (Es T) := by
  refine List.Pairwise.imp (fun {x y} h => ?_) (List.pairwise_and_iff.mpr ⟨srtL_up (sf T), Es_nodup T⟩)
  cases e : HT.lexLt x y with
  | true => rfl
  | false => exact absurd (lex_eq e h.1) h.2
theorem st_split : ∀ {E : List (List Int)} {j : Nat} {s : List Int}, StL E → E[j]? = some s → E.filter (fun f => HT.lexLt f s) = E.take j
  | [], j, s, _, h => by simp at h
  | e :: E, 0, s, hs, h => by
    simp at h
    subst h
    rw [List.filter_cons_of_neg (by rw [lex_irr]; decide), List.take_zero]
    refine List.filter_eq_nil_iff.mpr fun f hf => ?_
    have := (List.pairwise_cons.mp hs).1 f hf
    rw [NtL.lex_asym _ _ this]
    decide
  | e :: E, j + 1, s, hs, h => by
    have h : E[j]? = some s := by simpa using h
    have := (List.pairwise_cons.mp hs).1 s (List.mem_of_getElem? h)
    rw [List.filter_cons_of_pos (p := fun f => HT.lexLt f s) this, List.take_succ_cons, st_split (List.pairwise_cons.mp hs).2 h]
theorem st_rank {E : List (List Int)} {j : Nat} {s : List Int} (hs : StL E) (h : E[j]? = some s) : E.countP (fun f => HT.lexLt f s) = j := by
  rw [List.countP_eq_length_filter, st_split hs h, List.length_take]
  have := (List.getElem?_eq_some_iff.mp h).1
  omega
def sg (col : List (Option Int)) : List Int := col.filterMap id
def bs (S : List Int) (c : Int) : Nat := 1 + S.countP fun x => decide (x < c)
theorem neg_ok {fa : Ev} {r r1 : Rho} {n : Int} (h : fa r = .ok (.val (.int n)) r1) : cNeg fa r = .ok (.val (.int (-n))) r1 := by
  unfold cNeg
  rw [h]
  rfl
def row (T : List Int) : List Int := (Es T).filterMap (pre T)
end K63.Tn

namespace K63.Tn
open K63
theorem pig : ∀ (N : Nat) (l : List Nat), l.Nodup → (∀ x ∈ l, x < N) → l.length ≤ N
  | 0, l, _, h => by
    cases l with
    | nil => exact Nat.le_refl _
    | cons a l => exact absurd (h a List.mem_cons_self) (Nat.not_lt_zero _)
  | N + 1, l, hn, h => by
    by_cases hN : N ∈ l
    · have p := List.perm_cons_erase hN
      have hn2 := p.nodup_iff.mp hn
      have ih := pig N (l.erase N) (List.nodup_cons.mp hn2).2 fun x hx => by
        have h1 := h x (List.mem_of_mem_erase hx)
        have h2 : x ≠ N := fun z => (List.nodup_cons.mp hn2).1 (z ▸ hx)
        omega
      have := p.length_eq
      rw [List.length_cons] at this
      omega
    · have := pig N l hn fun x hx => by
        have h1 := h x hx
        have h2 : x ≠ N := fun z => hN (z ▸ hx)
        omega
      omega
theorem full_perm {l : List Nat} {N : Nat} (hn : l.Nodup) (h : ∀ x ∈ l, x < N) (hl : l.length = N) : l.Perm (List.range N) := by
  refine (List.perm_ext_iff_of_nodup hn List.nodup_range).mpr fun x => ⟨fun hx => List.mem_range.mpr (h x hx), fun hx => ?_⟩
  have hx := List.mem_range.mp hx
  refine Decidable.byContradiction fun z => ?_
  have := pig N (x :: l) (List.nodup_cons.mpr ⟨z, hn⟩) fun y hy => by
    rcases List.mem_cons.mp hy with e | e
    · rw [e]; exact hx
    · exact h y e
  rw [List.length_cons] at this
  omega
theorem sg_count (c : Int) : ∀ C : List (Option Int), C.countP (fun o => decide (o = some c)) = (sg C).countP fun x => decide (x = c)
  | [] => rfl
  | none :: C => by
    have ih := sg_count c C
    rw [List.countP_cons, if_neg (by simp), Nat.add_zero, ih]
    rfl
  | some x :: C => by
    have ih := sg_count c C
    show _ = (x :: sg C).countP _
    rw [List.countP_cons, List.countP_cons, ih]
    by_cases h : x = c
    · simp [h]
    · simp [h]
theorem count_take {C : List (Option Int)} {p : Nat} {o : Option Int} (h : C[p]? = some o) (q : Option Int → Bool) (hq : q o = true) : (C.take p).countP q + 1 ≤ C.countP q := by
  obtain ⟨hl, e⟩ := List.getElem?_eq_some_iff.mp h
  have e2 : C = C.take p ++ o :: C.drop (p + 1) := by
    conv => lhs; rw [← List.take_append_drop p C, List.drop_eq_getElem_cons hl, e]
  conv => rhs; rw [e2]
  rw [List.countP_append, List.countP_cons, if_pos hq]
  omega
theorem count_take2 {C : List (Option Int)} {a b : Nat} {o : Option Int} (h : C[a]? = some o) (hab : a < b) (q : Option Int → Bool) (hq : q o = true) : (C.take a).countP q + 1 ≤ (C.take b).countP q := by
  have h2 : (C.take b)[a]? = some o := by rw [List.getElem?_take, if_pos hab]; exact h
  have := count_take h2 q hq
  rwa [List.take_take, show min a b = a by omega] at this
theorem count_two (S : List Int) (c : Int) : S.countP (fun x => decide (x < c)) + S.countP (fun x => decide (x = c)) ≤ S.length := by
  induction S with
  | nil => exact Nat.le_refl _
  | cons x S ih =>
    rw [List.countP_cons, List.countP_cons, List.length_cons]
    by_cases h1 : x < c
    · rw [if_pos (decide_eq_true h1), if_neg (by simp; omega)]; omega
    · by_cases h2 : x = c
      · rw [if_neg (by simp; omega), if_pos (decide_eq_true h2)]; omega
      · rw [if_neg (by simp; omega), if_neg (by simp; omega)]; omega
theorem count_lt (S : List Int) {c d : Int} (h : c < d) : S.countP (fun x => decide (x < c)) + S.countP (fun x => decide (x = c)) ≤ S.countP (fun x => decide (x < d)) := by
  induction S with
  | nil => exact Nat.le_refl _
  | cons x S ih =>
    rw [List.countP_cons, List.countP_cons, List.countP_cons]
    by_cases h1 : x < c
    · rw [if_pos (decide_eq_true h1), if_neg (by simp; omega), if_pos (decide_eq_true (show x < d by omega))]; omega
    · by_cases h2 : x = c
      · rw [if_neg (by simp; omega), if_pos (decide_eq_true h2), if_pos (decide_eq_true (show x < d by omega))]; omega
      · rw [if_neg (by simp; omega), if_neg (by simp; omega)]
        split <;> omega
def lfp (C : List (Option Int)) (p : Nat) : Nat := match C[p]? with
  | some (some c) => bs (sg C) c + (C.take p).countP fun o => decide (o = some c)
  | _ => 0
theorem lfp_at {C : List (Option Int)} {p : Nat} {c : Int} (h : C[p]? = some (some c)) : lfp C p = bs (sg C) c + (C.take p).countP fun o => decide (o = some c) := by
  unfold lfp; rw [h]
structure Col (C : List (Option Int)) (n h : Nat) : Prop where
  len : C.length = n + 1
  sl : (sg C).length = n
  hole : C[h]? = some none
  else_ : ∀ p, p ≤ n → p ≠ h → ∃ c, C[p]? = some (some c)
section
variable {C : List (Option Int)} {n h : Nat}
theorem lfp_ge {p : Nat} {c : Int} (hc : C[p]? = some (some c)) : 1 ≤ lfp C p := by
  rw [lfp_at hc]; unfold bs; omega
theorem lfp_le {p : Nat} {c : Int} (hc : C[p]? = some (some c)) : lfp C p ≤ (sg C).length := by
  rw [lfp_at hc]
  have a := count_take hc (fun o => decide (o = some c)) (by simp)
  rw [sg_count c C] at a
  have b := count_two (sg C) c
  unfold bs; omega
theorem lfp_lt {a b : Nat} {c d : Int} (ha : C[a]? = some (some c)) (hb : C[b]? = some (some d)) (h : c < d ∨ (c = d ∧ a < b)) : lfp C a < lfp C b := by
  rw [lfp_at ha, lfp_at hb]
  unfold bs
  rcases h with h | ⟨rfl, h⟩
  · have x := count_take ha (fun o => decide (o = some c)) (by simp)
    rw [sg_count c C] at x
    have y := count_lt (sg C) h
    omega
  · have x := count_take2 ha h (fun o => decide (o = some c)) (by simp)
    omega
theorem lfp_iff {a b : Nat} {c d : Int} (ha : C[a]? = some (some c)) (hb : C[b]? = some (some d)) : lfp C a < lfp C b ↔ c < d ∨ (c = d ∧ a < b) := by
  refine ⟨fun h => ?_, lfp_lt ha hb⟩
  refine Decidable.byContradiction fun z => ?_
  by_cases h1 : d < c
  · have := lfp_lt hb ha (.inl h1); omega
  · have e : c = d := by omega
    subst e
    by_cases h2 : b < a
    · have := lfp_lt hb ha (.inr ⟨rfl, h2⟩); omega
    · have e : a = b := by
        have : ¬ a < b := fun x => z (.inr ⟨rfl, x⟩)
        omega
      subst e
      omega
theorem lfp_inj {a b : Nat} {c d : Int} (ha : C[a]? = some (some c)) (hb : C[b]? = some (some d)) (h : lfp C a = lfp C b) : a = b := by
  have x := lfp_iff ha hb
  have y := lfp_iff hb ha
  rw [h] at x y
  have nx : ¬ (c < d ∨ c = d ∧ a < b) := fun z => absurd (x.mpr z) (Nat.lt_irrefl _)
  have ny : ¬ (d < c ∨ d = c ∧ b < a) := fun z => absurd (y.mpr z) (Nat.lt_irrefl _)
  have e : c = d := by
    have h1 : ¬ c < d := fun z => nx (.inl z)
    have h2 : ¬ d < c := fun z => ny (.inl z)
    omega
  have h1 : ¬ a < b := fun z => nx (.inr ⟨e, z⟩)
  have h2 : ¬ b < a := fun z => ny (.inr ⟨e.symm, z⟩)
  omega
def pos (C : List (Option Int)) : Nat → Nat
  | 0 => 0
  | i + 1 => lfp C (pos C i)
def sgn (C : List (Option Int)) (i : Nat) : Int := ((C[pos C i]?).getD none).getD 0
theorem sgn_at {i : Nat} {c : Int} (h : C[pos C i]? = some (some c)) : sgn C i = c := by unfold sgn; rw [h]; rfl
theorem Col.at (K : Col C n h) {i : Nat} (hp : pos C i ≤ n) (hh : pos C i ≠ h) : C[pos C i]? = some (some (sgn C i)) := by
  obtain ⟨c, e⟩ := K.else_ _ hp hh
  rw [sgn_at e]; exact e
theorem Col.le (K : Col C n h) {m : Nat} (hm : ∀ i, i < m → pos C i ≠ h) : ∀ i, i ≤ m → pos C i ≤ n
  | 0, _ => Nat.zero_le _
  | i + 1, hi => by
    have e := K.at (K.le hm i (by omega)) (hm i (by omega))
    have := lfp_le e
    rw [K.sl] at this
    exact this
theorem Col.inj (K : Col C n h) {m : Nat} (hm : ∀ i, i < m → pos C i ≠ h) : ∀ i j, i < j → j ≤ m → pos C i ≠ pos C j
  | i, 0, hij, _ => absurd hij (Nat.not_lt_zero _)
  | 0, j + 1, _, hj => by
    have := lfp_ge (K.at (K.le hm j (by omega)) (hm j (by omega)))
    show 0 ≠ lfp C (pos C j)
    omega
  | i + 1, j + 1, hij, hj => fun z => K.inj hm i j (by omega) (by omega) (lfp_inj (K.at (K.le hm i (by omega)) (hm i (by omega))) (K.at (K.le hm j (by omega)) (hm j (by omega))) z)
theorem Col.nodup (K : Col C n h) {m : Nat} (hm : ∀ i, i < m → pos C i ≠ h) : ((List.range (m + 1)).map (pos C)).Nodup := by
  refine List.pairwise_map.mpr ?_
  refine List.Pairwise.imp_of_mem (fun {a b} ha hb hab => ?_) List.pairwise_lt_range
  exact K.inj hm a b hab (by have := List.mem_range.mp hb; omega)
def fnd (C : List (Option Int)) (i : Nat) : List Int := (List.range i).map (sgn C)
def sS (C : List (Option Int)) (i : Nat) : List Int := (fnd C i).reverse
theorem fnd_succ (C : List (Option Int)) (i : Nat) : fnd C (i + 1) = fnd C i ++ [sgn C i] := by
  unfold fnd; rw [List.range_succ, List.map_append]; rfl
theorem sS_succ (C : List (Option Int)) (i : Nat) : sS C (i + 1) = sgn C i :: sS C i := by
  unfold sS; rw [fnd_succ, List.reverse_append]; rfl
theorem Col.order (K : Col C n h) (hm : ∀ i, i < n → pos C i ≠ h) : ∀ i j, i ≤ n → j ≤ n → HT.lexLt (sS C i) (sS C j) = decide (pos C i < pos C j)
  | 0, 0, _, _ => by
    rw [decide_eq_false (Nat.lt_irrefl _)]; rfl
  | 0, j + 1, _, hj => by
    rw [sS_succ, decide_eq_true (show pos C 0 < pos C (j + 1) from lfp_ge (K.at (K.le hm j (by omega)) (hm j (by omega))))]
    rfl
  | i + 1, 0, hi, _ => by
    rw [sS_succ, decide_eq_false (show ¬ pos C (i + 1) < pos C 0 from Nat.not_lt_zero _)]
    rfl
  | i + 1, j + 1, hi, hj => by
    have ih := K.order hm i j (by omega) (by omega)
    have z := lfp_iff (K.at (K.le hm i (by omega)) (hm i (by omega))) (K.at (K.le hm j (by omega)) (hm j (by omega)))
    rw [sS_succ, sS_succ, HT.lexLt_cons]
    show _ = decide (lfp C (pos C i) < lfp C (pos C j))
    by_cases e : sgn C i = sgn C j
    · rw [if_pos e, ih]
      refine decide_eq_decide.mpr ?_
      rw [z]
      exact ⟨fun x => .inr ⟨e, x⟩, fun x => x.elim (fun y => by omega) fun y => y.2⟩
    · rw [if_neg e]
      refine decide_eq_decide.mpr ?_
      rw [z]
      exact ⟨.inl, fun x => x.elim id fun y => absurd y.1 e⟩
theorem sf_sS (C : List (Option Int)) : ∀ i : Nat, (sf (sS C i)).Perm ((List.range (i + 1)).map (sS C))
  | 0 => List.Perm.refl _
  | i + 1 => by
    have ih := sf_sS C i
    rw [sS_succ]
    show (List.Perm (_ :: sf (sS C i)) _)
    rw [List.range_succ, List.map_append, ← sS_succ]
    exact (ih.cons _).trans (List.perm_append_singleton _ _).symm
theorem count_range (p n : Nat) (hp : p ≤ n) : (List.range n).countP (fun x => decide (x < p)) = p := by
  induction n with
  | zero => have : p = 0 := by omega
            subst this; rfl
  | succ n ih =>
    rw [List.range_succ, List.countP_append]
    by_cases h : p ≤ n
    · rw [ih h]
      simp; omega
    · have e : p = n + 1 := by omega
      subst e
      rw [List.countP_eq_length.mpr (fun x hx => decide_eq_true (by have := List.mem_range.mp hx; omega)), List.length_range]
      simp
theorem Col.es (K : Col C n h) (hm : ∀ i, i < n → pos C i ≠ h) {i : Nat} (hi : i ≤ n) : (Es (sS C n))[pos C i]? = some (sS C i) := by
  have mem : sS C i ∈ Es (sS C n) := (Es_perm _).mem_iff.mpr ((sf_sS C n).mem_iff.mpr (List.mem_map.mpr ⟨i, List.mem_range.mpr (by omega), rfl⟩))
  obtain ⟨j, hj⟩ := List.mem_iff_getElem?.mp mem
  have rk := st_rank (Es_st _) hj
  rw [(Es_perm _).countP_eq, (sf_sS C n).countP_eq, List.countP_map] at rk
  have e1 : (List.range (n + 1)).countP ((fun f => HT.lexLt f (sS C i)) ∘ sS C) = ((List.range (n + 1)).map (pos C)).countP (fun x => decide (x < pos C i)) := by
    rw [List.countP_map]
    refine List.countP_congr fun k hk => ?_
    show HT.lexLt (sS C k) (sS C i) = true ↔ decide (pos C k < pos C i) = true
    rw [K.order hm k i (by have := List.mem_range.mp hk; omega) hi]
  have pl := K.le hm i hi
  have pm : ((List.range (n + 1)).map (pos C)).Perm (List.range (n + 1)) := full_perm (K.nodup hm) (fun x hx => by
    obtain ⟨k, hk, rfl⟩ := List.mem_map.mp hx
    have := K.le hm k (by have := List.mem_range.mp hk; omega)
    omega) (by rw [List.length_map, List.length_range])
  rw [e1, pm.countP_eq, count_range _ _ (by omega)] at rk
  rw [rk]; exact hj
def col (R : List Int) (h : Nat) : List (Option Int) := (R.take h).map some ++ none :: (R.drop h).map some
end
end K63.Tn

namespace K63.Tn
open VH K63

end K63.Tn

namespace K63.Fr
open K63
abbrev I (o : Bool) (xs : List Int) : D := .node .lst o (xs.map .int)
theorem cc (n : Int) (r : Rho) : cC (.int n) r = .ok (.val (.int n)) r := rfl
def Ok (xs : List Int) : Prop := ∀ x ∈ xs, 0 ≤ x ∧ x ≤ 255
def ix (row : List Int) (s : Int) : Nat := (row.findIdx? fun n => n == s).getD 0
def mv (row : List Int) (s : Int) : List Int := [s] ++ row.take (ix row s) ++ row.drop (ix row s + 1)
def fr : List Int → List Int → List Int
  | _, [] => []
  | row, s :: xs => (ix row s : Int) :: fr (mv row s) xs
def full : List Int := (List.range 256).map fun i : Nat => (i : Int)
def rest (st : List Int) : List Int := full.filter fun x => !st.contains x
def at_ (row : List Int) (p : Int) : Int := row.getD p.toNat 0
end K63.Fr

namespace K63.Rn
open K63
def okR : Option Int → List (Int × Int) → Prop
  | _, [] => True
  | l, p :: ps => l ≠ some p.1 ∧ 1 ≤ p.2 ∧ okR (some p.1) ps
def lst : Option Int → List (Int × Int) → Option Int
  | l, [] => l
  | _, p :: ps => lst (some p.1) ps
def ex (ps : List (Int × Int)) : List Int := (ps.map fun p => List.replicate p.2.toNat p.1).flatten
def total (ps : List (Int × Int)) : Int := (ps.map (·.2)).sum
def ld : Option Int → D
  | none => .non
  | some n => .int n
end K63.Rn

namespace K63.Gr
open K63
abbrev I (o : Bool) (xs : List Int) : D := .node .lst o (xs.map .int)
theorem cc (n : Int) (r : Rho) : cC (.int n) r = .ok (.val (.int n)) r := rfl
abbrev nt (k : Nat) : D := .int (k : Nat)
abbrev L (o : Bool) (ks : List Nat) : D := .node .lst o (ks.map nt)
theorem neg_ok {fa : Ev} {r r1 : Rho} {n : Int} (h : fa r = .ok (.val (.int n)) r1) : cNeg fa r = .ok (.val (.int (-n))) r1 := by
  unfold cNeg
  rw [h]
  rfl
theorem base_ex : ∃ b : List (List Nat), b.length = 256 ∧ ∀ s, s < 256 → b.getD s [] = [s] :=
  ⟨(List.range 256).map fun i => [i], by rw [List.length_map, List.length_range], fun s h => by
    rw [List.getD_eq_getElem?_getD, List.getElem?_map, List.getElem?_range h]; rfl⟩
noncomputable def base : List (List Nat) := Classical.choose base_ex
def put (t : List (List Nat)) (p : Nat × Nat) : List (List Nat) := t ++ [t.getD p.1 [] ++ t.getD p.2 []]
noncomputable def tbs (rs : List (Nat × Nat)) : List (List Nat) := rs.foldl put base
noncomputable def ex (rs : List (Nat × Nat)) (s : Nat) : List Nat := (tbs rs).getD s []
def Vd (rs : List (Nat × Nat)) : Prop := ∀ k (h : k < rs.length), (rs[k]).1 < 256 + k ∧ (rs[k]).2 < 256 + k
theorem Vd.nil : Vd [] := fun k h => absurd h (Nat.not_lt_zero _)
theorem Vd.at {rs qs : List (Nat × Nat)} {p : Nat × Nat} (hv : Vd (rs ++ p :: qs)) : p.1 < 256 + rs.length ∧ p.2 < 256 + rs.length := by
  have := hv rs.length (by rw [List.length_append, List.length_cons]; omega)
  rw [List.getElem_append_right (Nat.le_refl _)] at this
  simp only [Nat.sub_self, List.getElem_cons_zero] at this
  exact this
abbrev pn (p : Nat × Nat) : D := .node .tup false [nt p.1, nt p.2]
abbrev RS (o : Bool) (rs : List (Nat × Nat)) : D := .node .lst o (rs.map pn)
theorem frzs_pn (rs : List (Nat × Nat)) : frzs (rs.map pn) = rs.map pn := by
  rw [frzs_map, List.map_map]
  exact List.map_congr_left fun _ _ => rfl
noncomputable def szs (rs : List (Nat × Nat)) : List Int := (tbs rs).map fun x => ((x.length : Nat) : Int)
noncomputable abbrev S8 (rs : List (Nat × Nat)) (B : D) (m : Nat) (f w : List Nat) (u : Option D) : Rho := [some (RS false rs), some B, some (.int 0), some (nt m), some (I true (szs rs)), some (L true f), some (L true w), u]
end K63.Gr

namespace K63.Gr
open VH K63
theorem and_b {fa fb : Ev} {r : Rho} {a b : Bool} (h1 : fa r = .ok (.val (.bl a)) r) (h2 : fb r = .ok (.val (.bl b)) r) : cAnd fa fb r = .ok (.val (.bl (a && b))) r := by
  rw [q_and, h1, bd_ok]
  cases a
  · rfl
  · exact h2
def fit (w t : List Nat) (k : Nat) : Prop := k ≤ w.length ∧ w.take k <:+ t
def IsL (w t : List Nat) (s : Nat) : Prop := fit w t s ∧ ∀ k, fit w t k → k ≤ s
theorem IsL.uniq {w t : List Nat} {a b : Nat} (h : IsL w t a) (h2 : IsL w t b) : a = b := Nat.le_antisymm (h2.2 a h.1) (h.2 b h2.1)
theorem top_ex (p : Nat → Prop) (h0 : p 0) : ∀ n, (∀ k, p k → k ≤ n) → ∃ s, p s ∧ ∀ k, p k → k ≤ s
  | 0, h => ⟨0, h0, h⟩
  | n + 1, h => by
    by_cases hn : p (n + 1)
    · exact ⟨n + 1, hn, h⟩
    · exact top_ex p h0 n fun k hk => by
        have := h k hk
        have : k ≠ n + 1 := fun e => hn (e ▸ hk)
        omega
theorem fit_0 (w t : List Nat) : fit w t 0 := ⟨Nat.zero_le _, by rw [List.take_zero]; exact List.nil_suffix⟩
theorem isL_ex (w t : List Nat) : ∃ s, IsL w t s := top_ex (fit w t) (fit_0 w t) w.length fun k h => h.1
noncomputable def lps (w t : List Nat) : Nat := (isL_ex w t).choose
theorem lps_is (w t : List Nat) : IsL w t (lps w t) := (isL_ex w t).choose_spec
theorem IsL.eq {w t : List Nat} {a : Nat} (h : IsL w t a) : lps w t = a := (lps_is w t).uniq h
theorem suf_snoc {l t : List Nat} {a c : Nat} : l ++ [a] <:+ t ++ [c] ↔ l <:+ t ∧ a = c := by
  constructor
  · rintro ⟨p, h⟩
    rw [← List.append_assoc] at h
    have := List.append_inj' h rfl
    exact ⟨⟨p, this.1⟩, by simpa using this.2⟩
  · rintro ⟨⟨p, h⟩, e⟩
    exact ⟨p, by rw [← List.append_assoc, h, e]⟩
theorem take_snoc {w : List Nat} {k : Nat} (h : k < w.length) : w.take (k + 1) = w.take k ++ [w[k]] := by
  rw [List.take_add_one, List.getElem?_eq_getElem h]; rfl
theorem fit_snoc {w t : List Nat} {c k : Nat} : fit w (t ++ [c]) (k + 1) ↔ fit w t k ∧ ∃ h : k < w.length, w[k] = c := by
  constructor
  · rintro ⟨h1, h2⟩
    rw [take_snoc h1] at h2
    exact ⟨⟨by omega, (suf_snoc.mp h2).1⟩, h1, (suf_snoc.mp h2).2⟩
  · rintro ⟨⟨h1, h2⟩, h3, e⟩
    refine ⟨h3, ?_⟩
    rw [take_snoc h3]
    exact suf_snoc.mpr ⟨h2, e⟩
def Jn (w t : List Nat) (c come : Nat) : Prop := fit w t come ∧ come < w.length ∧ ∀ k, fit w t k → (h : k < w.length) → come < k → w[k] ≠ c
theorem Jn.done {w t : List Nat} {c come : Nat} (h : Jn w t c come) (hc : come = 0 ∨ w[come]? = some c) : IsL w (t ++ [c]) (come + if w[come]? = some c then 1 else 0) := by
  obtain ⟨h1, h2, h3⟩ := h
  have e0 : w[come]? = some w[come] := List.getElem?_eq_getElem h2
  by_cases e : w[come]? = some c
  · rw [if_pos e]
    have e' : w[come] = c := by rw [e0] at e; injection e
    refine ⟨fit_snoc.mpr ⟨h1, h2, e'⟩, fun k hk => ?_⟩
    match k, hk with
    | 0, _ => omega
    | k + 1, hk =>
      obtain ⟨f, hkw, ek⟩ := fit_snoc.mp hk
      by_cases l : come < k
      · exact absurd ek (h3 k f hkw l)
      · omega
  · rw [if_neg e]
    have z : come = 0 := hc.resolve_right e
    subst z
    refine ⟨fit_0 _ _, fun k hk => ?_⟩
    match k, hk with
    | 0, _ => omega
    | k + 1, hk =>
      obtain ⟨f, hkw, ek⟩ := fit_snoc.mp hk
      by_cases l : 0 < k
      · exact absurd ek (h3 k f hkw l)
      · have : k = 0 := by omega
        subst this
        exact absurd (by rw [e0, ek]) e
theorem Jn.start {w t : List Nat} {c s : Nat} (h : IsL w t s) (hs : s < w.length) : Jn w t c s := ⟨h.1, hs, fun k hk _ l => by have := h.2 k hk; omega⟩
noncomputable def dl (w : List Nat) (s c : Nat) : Nat := lps w (w.take s ++ [c])
noncomputable def run (w : List Nat) : Nat → List Nat → Nat × Nat
  | s, [] => (s, 0)
  | s, c :: u => ((run w (dl w s c) u).1, (if dl w s c = w.length then 1 else 0) + (run w (dl w s c) u).2)
noncomputable abbrev tw (w u : List Nat) (n : Nat) : List D := (List.range n).map fun k => pn (run w k u)
noncomputable abbrev TW (o : Bool) (w u : List Nat) : D := .node .lst o (tw w u (w.length + 1))
theorem frzs_tw (w u : List Nat) (n : Nat) : frzs (tw w u n) = tw w u n := VH.frzs_enc (fun _ => rfl) _
instance : Fzs (tw w u n) (tw w u n) := ⟨frzs_tw _ _ _⟩
structure Di (w : List Nat) (rs : List (Nat × Nat)) (ks : List Int) (f : Int → D) (n m : Nat) : Prop where
  nd : ks.Nodup
  few : ks.length ≤ n
  at' : ∀ x ∈ ks, ∃ s : Nat, x = (s : Int) ∧ s < m ∧ frz (f x) = TW false w (ex rs s)
theorem Di.frz {w : List Nat} {rs : List (Nat × Nat)} {ks : List Int} {f : Int → D} {n m : Nat} (h : Di w rs ks f n m) : Di w rs ks (fun x => VL.frz (f x)) n m := ⟨h.nd, h.few, fun x hx => by
  obtain ⟨s, e, hs, z⟩ := h.at' x hx
  exact ⟨s, e, hs, by rw [VL.frz_frz]; exact z⟩⟩
instance : Nls (tw w u n) := ⟨VH.noLs_enc (fun _ => rfl) _⟩
instance : Fzs (List.map pn rs) (List.map pn rs) := ⟨frzs_pn rs⟩
noncomputable abbrev S9 (rs : List (Nat × Nat)) (B : D) (k m : Nat) (f : List Nat) (w : List D) (u : Option D) : Rho := [some (RS false rs), some B, some (nt k), some (nt m), some (I true (szs rs)), some (L true f), some (.node .lst true w), u]
end K63.Gr

namespace K63.Gr
open VH K63
abbrev pI (p : Nat × Nat) : List Int := [(p.1 : Int), (p.2 : Int)]
def scP (row : List Nat) (p : Nat × Nat) : Nat → Nat × Nat
  | 0 => (0, 0)
  | m + 1 => if row[m]? = some p.1 ∧ row[m + 1]? = some p.2 ∧ (scP row p m).2 ≤ m then ((scP row p m).1 + 1, m + 2) else scP row p m
structure FI (row : List Nat) (m : Nat) (ks : List (List Int)) (c : (Nat × Nat) → Nat) (f : List Int → D) : Prop where
  nd : ks.Nodup
  len : ks.length ≤ m
  mem : ∀ k, k ∈ ks ↔ ∃ p, k = pI p ∧ 0 < (scP row p m).1
  val : ∀ p, 0 < (scP row p m).1 → f (pI p) = nt (c p)
theorem FI.stay {row : List Nat} {m : Nat} {ks : List (List Int)} {f : List Int → D} {sel : Nat × Nat → Nat} (h : FI row m ks (fun p => sel (scP row p m)) f) (hs : ∀ p, scP row p (m + 1) = scP row p m) : FI row (m + 1) ks (fun p => sel (scP row p (m + 1))) f :=
  ⟨h.nd, Nat.le_succ_of_le h.len, fun k => by rw [h.mem]; simp only [hs], fun p hp => by rw [hs] at hp; simp only [hs]; exact h.val p hp⟩
theorem FI.noL {row : List Nat} {m : Nat} {ks : List (List Int)} {c : (Nat × Nat) → Nat} {f : List Int → D} (h : FI row m ks c f) : ∀ x ∈ ks, noL (f x) = true := fun x hx => by
  obtain ⟨p, rfl, hp⟩ := (h.mem x).mp hx
  rw [h.val p hp]; rfl
def pf (p : Nat × Nat) (s : Nat) : List Nat → List Nat
  | x :: y :: t => if x = p.1 ∧ y = p.2 then s :: pf p s t else x :: pf p s (y :: t)
  | [x] => [x]
  | [] => []
end K63.Gr

namespace K63.Gr
open VH K63
end K63.Gr

namespace K63.Cp
open K63
def Mt (xs : List Int) (k a m : Nat) : Prop := ∀ j, j < m → xs.getD (k + j) 0 = xs.getD (a + j) 0
instance (xs : List Int) (k a m : Nat) : Decidable (Mt xs k a m) := Nat.decidableBallLT m fun j _ => xs.getD (k + j) 0 = xs.getD (a + j) 0
theorem Mt.succ {xs : List Int} {k a m : Nat} : Mt xs k a (m + 1) ↔ Mt xs k a m ∧ xs.getD (k + m) 0 = xs.getD (a + m) 0 := by
  constructor
  · exact fun h => ⟨fun j hj => h j (by omega), h m (by omega)⟩
  · rintro ⟨h1, h2⟩ j hj
    by_cases e : j = m
    · rw [e]; exact h2
    · exact h1 j (by omega)
def S (xs : List Int) (a m : Nat) : List Nat := (List.range a).filter fun k => decide (Mt xs k a m)
def g (xs : List Int) (a : Nat) : Nat → Nat → Nat
  | 0, m => m
  | t + 1, m => if a + m < xs.length ∧ S xs a (m + 1) ≠ [] then g xs a t (m + 1) else m
def rc (xs : List Int) (a : Nat) : Nat := g xs a xs.length 0
def G (xs : List Int) (a : Nat) : Nat := max 1 (rc xs a)
def E (xs : List Int) (a : Nat) : Nat := a + G xs a
inductive Pc where
  | sign (s : Int) | copy (b t : Nat)
def enc : Pc → D
  | .sign s => .node .tup false [.str "sign", .int s]
  | .copy b t => .node .tup false [.str "copy", .int (b : Nat), .int (t : Nat)]
abbrev I (o : Bool) (xs : List Int) : D := .node .lst o (xs.map .int)
theorem cc (n : Int) (r : Rho) : cC (.int n) r = .ok (.val (.int n)) r := rfl
theorem so : PyData.canLay0 (.str "sign") = true ∧ PyData.canLay0 (.str "copy") = true := by decide +kernel
theorem ss : (("sign" : Str) == "sign") = true := by decide +kernel
theorem cs : (("copy" : Str) == "sign") = false := by decide +kernel
end K63.Cp

namespace K63.Cp
open K63
def Ok (xs : List Int) : Prop := ∀ x ∈ xs, 0 ≤ x ∧ x ≤ 255
theorem Ok.app {xs ys : List Int} (h1 : Ok xs) (h2 : Ok ys) : Ok (xs ++ ys) := fun x m => by
  rcases List.mem_append.mp m with m | m
  · exact h1 x m
  · exact h2 x m
def size : Pc → Nat
  | .sign _ => 1
  | .copy _ t => t
def Good : Pc → Prop
  | .sign s => 0 ≤ s ∧ s ≤ 255
  | .copy b t => 1 ≤ b ∧ 1 ≤ t
theorem Good.size {p : Pc} (h : Good p) : 1 ≤ size p := by
  cases p with
  | sign s => exact Nat.le_refl 1
  | copy b t => exact h.2
theorem sc : (("sign" : Str) == "copy") = false := by decide +kernel
theorem neg_ok {fa : Ev} {r r1 : Rho} {n : Int} (h : fa r = .ok (.val (.int n)) r1) : cNeg fa r = .ok (.val (.int (-n))) r1 := by
  unfold cNeg
  rw [h]
  rfl
end K63.Cp

namespace K63.Sh
open K63
abbrev I (o : Bool) (xs : List Int) : D := .node .lst o (xs.map .int)
theorem cc (n : Int) (r : Rho) : cC (.int n) r = .ok (.val (.int n)) r := rfl
abbrev nt (k : Nat) : D := .int (k : Nat)
abbrev L (o : Bool) (ks : List Nat) : D := .node .lst o (ks.map nt)
theorem so : PyData.canLay0 (.str "sign") = true ∧ PyData.canLay0 (.str "copy") = true := by decide +kernel
theorem ss : (("sign" : Str) == "sign") = true := by decide +kernel
theorem cs : (("copy" : Str) == "sign") = false := by decide +kernel
theorem sc : (("sign" : Str) == "copy") = false := by decide +kernel
theorem neg_ok {fa : Ev} {r r1 : Rho} {n : Int} (h : fa r = .ok (.val (.int n)) r1) : cNeg fa r = .ok (.val (.int (-n))) r1 := by
  unfold cNeg
  rw [h]
  rfl
def mx : List Nat → Nat
  | [] => 0
  | k :: ks => ks.foldl max k
theorem mx_foldl : ∀ (ks : List Nat) (k : Nat), (ks.map fun x => ((x : Nat) : Int)).foldl max (k : Int) = ((ks.foldl max k : Nat) : Int)
  | [], _ => rfl
  | x :: ks, k => by
    show (ks.map fun x => ((x : Nat) : Int)).foldl max (max (k : Int) (x : Int)) = _
    rw [show max (k : Int) (x : Int) = ((max k x : Nat) : Int) by omega, mx_foldl ks (max k x)]
    rfl
theorem max_ok {fa : Ev} {r r1 : Rho} {ks : List Nat} (h : fa r = .ok (.val (L true ks)) r1) (hk : ks ≠ []) : cB (b1 maxD) (cCons fa cNil) r = .ok (.val (nt (mx ks))) r1 := by
  refine b1_ok h rfl ?_ rfl
  show ((intsOf (ks.map nt)).bind fun ns => (maxL ns).map D.int) = _
  have e : ks.map nt = (ks.map fun x => ((x : Nat) : Int)).map D.int := by rw [List.map_map]; rfl
  rw [e, intsOf_map]
  cases ks with
  | nil => exact absurd rfl hk
  | cons k ks =>
    show some (D.int ((ks.map fun x => ((x : Nat) : Int)).foldl max (k : Int))) = _
    rw [mx_foldl]
    rfl
def ch : Nat → Nat → Nat
  | _, 0 => 1
  | 0, _ + 1 => 0
  | n + 1, k + 1 => ch n k + ch n (k + 1)
def tot (ps : List (Nat × Nat)) : Nat := (ps.map (·.2)).sum
def mt : Nat → List (Nat × Nat) → Nat
  | _, [] => 1
  | t, p :: ps => ch (t + p.2) p.2 * mt (t + p.2) ps
theorem tot_cons (p : Nat × Nat) (ps : List (Nat × Nat)) : tot (p :: ps) = p.2 + tot ps := by unfold tot; simp
def Gd : Int → Nat → List (Nat × Nat) → Prop
  | _, _, [] => True
  | l, t, p :: ps => l < p.1 ∧ p.1 ≤ 255 ∧ 1 ≤ p.2 ∧ t + p.2 ≤ 400 ∧ Gd p.1 (t + p.2) ps
theorem Gd.tot_le : ∀ {ps : List (Nat × Nat)} {l : Int} {t : Nat}, Gd l t ps → t ≤ 400 → t + tot ps ≤ 400
  | [], _, _, _, h => by simpa [tot] using h
  | p :: ps, l, t, h, _ => by have := Gd.tot_le h.2.2.2.2 h.2.2.2.1; rw [tot_cons]; omega
theorem Gd.len : ∀ {ps : List (Nat × Nat)} {l : Int} {t : Nat}, Gd l t ps → t ≤ 400 → t + ps.length ≤ 400
  | [], _, _, _, h => by simpa using h
  | p :: ps, l, t, h, _ => by have := Gd.len h.2.2.2.2 h.2.2.2.1; have := h.2.2.1; rw [List.length_cons]; omega
end K63.Sh

namespace K63.Sh
open K63
abbrev pn (p : Nat × Nat) : D := .node .tup false [nt p.1, nt p.2]
abbrev C (o : Bool) (ps : List (Nat × Nat)) : D := .node .lst o (ps.map pn)
abbrev S9 (d : D) (mo : Nat) (ks : D) (j k : Option D) (ps : List (Nat × Nat)) (s t : Option D) : Rho := [some d, some (nt mo), some ks, j, k, some (C true ps), some (nt (tot ps)), s, t]
end K63.Sh

namespace K63.Sh
open K63
end K63.Sh

namespace K63.Sh
open K63
def cn (ss xs : List Nat) : List (Nat × Nat) := ss.map fun s => (s, xs.count s)
def A (ss xs : List Nat) : Nat := mt 0 (cn ss xs)
def lt (xs : List Nat) (x : Nat) : Nat := xs.countP fun z => decide (z < x)
def rk (ss : List Nat) : List Nat → Nat
  | [] => 0
  | x :: xs => A ss (x :: xs) * lt (x :: xs) x / (xs.length + 1) + rk ss xs
end K63.Sh

namespace K63.Sh.Co
open K63
abbrev ct (t : Int) : Prop := 0 ≤ t ∧ t < 256
def cnt (ts : List Int) (x : Int) : Int × Int := (x, (ts.count x : Nat))
def clN (ts : List Int) (ns : List Nat) : List (Int × Int) := (ns.filter fun s => decide (0 < ts.count ((s : Nat) : Int))).map fun s => cnt ts (s : Nat)
def cl (ts : List Int) : List (Int × Int) := clN ts (List.range 256)
end K63.Sh.Co

namespace K63.Sh
open K63
def si (ss : List Nat) : List Int := ss.map fun n : Nat => (n : Int)
abbrev S10 (N : D) (cs dd s3 s4 many number at_ lesser : Option D) : Rho := [some N, cs, dd, s3, s4, many, number, at_, lesser, none]
end K63.Sh

namespace K63.Sh
open K63
end K63.Sh

namespace K63.Pk
open VH K63
abbrev IL (o : Bool) (xs : List Int) : D := .node .lst o (xs.map .int)
abbrev CD (o : Bool) (cs : List (Int × Int)) : D := .node .lst o (cs.map pr)
abbrev BL (o : Bool) (bs : List Bool) : D := .node .lst o ((VL.bi bs).map .int)
abbrev PS (o : Bool) (ps : List Cp.Pc) : D := .node .lst o (ps.map Cp.enc)
theorem bi_app (a b : List Bool) : VL.bi (a ++ b) = VL.bi a ++ VL.bi b := by unfold VL.bi; rw [List.map_append]
theorem bi_len (a : List Bool) : (VL.bi a).length = a.length := by unfold VL.bi; rw [List.length_map]
def str (ps : List (Int × Int)) : List Int := (ps.map fun p => [p.1, p.2]).flatten
theorem str_len : ∀ ps : List (Int × Int), (str ps).length = 2 * ps.length
  | [] => rfl
  | p :: ps => by
    show (p.1 :: p.2 :: str ps).length = _
    rw [List.length_cons, List.length_cons, List.length_cons, str_len ps]
    omega
end K63.Pk

namespace K63.Pk
open VH K63
def rowB (R : List Int) : List Bool := Bt.encR (R.map Int.toNat)
theorem nn_toN {R : List Int} (h : ∀ x ∈ R, 0 ≤ x) : Bt.nn (R.map Int.toNat) = R := by
  unfold Bt.nn
  rw [List.map_map]
  refine (List.map_congr_left fun x hx => ?_).trans (List.map_id R)
  have := h x hx
  show ((x.toNat : Nat) : Int) = x
  omega
theorem row_k {R : List Int} (h : ∀ x ∈ R, 0 ≤ x ∧ x < 1000000000) (hl : R.length ≤ 2000) : F_row_bits [IL false R] = .ok (BL true (rowB R)) := by
  have big : (1000000000 : Nat) + 1 < 2 ^ 4000 := Nat.lt_of_lt_of_le (show 1000000000 + 1 < 2 ^ 40 by decide) (Nat.pow_le_pow_right (by decide) (by decide))
  have e := Bt.row_ok (R.map Int.toNat) (by rw [List.length_map]; exact hl) (fun m hm => by
    obtain ⟨x, hx, rfl⟩ := List.mem_map.mp hm
    have := h x hx
    exact Nat.lt_of_le_of_lt (show x.toNat + 1 ≤ 1000000000 + 1 by omega) big)
  rw [nn_toN fun x hx => (h x hx).1] at e
  exact e
theorem enc_small {m : Nat} (h : m < 2 ^ 40) : (Bt.enc m).length ≤ 80 := by
  have := figs_len h
  unfold Bt.enc
  rw [List.length_append, List.length_replicate, List.length_reverse]
  omega
theorem encs_len : ∀ ns : List Nat, (∀ m ∈ ns, m < 1000000000) → (Bt.encs ns).length ≤ 80 * ns.length
  | [], _ => Nat.zero_le _
  | m :: ns, h => by
    have ih := encs_len ns fun k hk => h k (List.mem_cons_of_mem _ hk)
    have h1 : (Bt.encs (m :: ns)).length = (Bt.enc (m + 1)).length + (Bt.encs ns).length := by
      show ((Bt.enc (m + 1) :: ns.map fun n => Bt.enc (n + 1)).flatten).length = _
      rw [List.flatten_cons, List.length_append]; rfl
    have h2 := enc_small (m := m + 1) (by
      have := h m List.mem_cons_self
      exact Nat.lt_of_le_of_lt (show m + 1 ≤ 1000000000 by omega) (by decide))
    rw [List.length_cons]
    omega
theorem rowB_len {R : List Int} (h : ∀ x ∈ R, 0 ≤ x ∧ x < 1000000000) (hl : R.length ≤ 2000) : (rowB R).length ≤ 80 * R.length + 80 := by
  unfold rowB Bt.encR
  rw [List.length_append]
  have h1 := enc_small (m := (R.map Int.toNat).length + 1) (by
    rw [List.length_map]
    exact Nat.lt_of_le_of_lt (show R.length + 1 ≤ 2001 by omega) (by decide))
  have h2 := encs_len (R.map Int.toNat) (fun m hm => by
    obtain ⟨x, hx, rfl⟩ := List.mem_map.mp hm
    have := h x hx
    omega)
  rw [List.length_map] at h2
  omega
end K63.Pk

namespace K63.Pk
open VH K63
end K63.Pk

namespace K63.Pk
open VH K63
end K63.Pk

namespace K63.Pk
open VH K63
instance fzCD (o : Bool) (cs : List (Int × Int)) : Fz (CD o cs) (CD false cs) := ⟨by show D.node .lst false (frzs _) = _; rw [frzs_pr]⟩
end K63.Pk

namespace K63.Ds
open VH K63
def KS : List L2.Key := [Sum.inr "rest", Sum.inr "digits", Sum.inr "count"]
theorem ix_r : dix KS (Sum.inr ("rest" : Str)) = some 0 := by decide +kernel
theorem ix_g : dix KS (Sum.inr "digits") = some 1 := by decide +kernel
theorem ix_c : dix KS (Sum.inr "count") = some 2 := by decide +kernel
theorem ok_KS : okD KS := by unfold okD; decide +kernel
theorem mk_KS (x y z : D) : mkD [(Sum.inr "rest", x), (Sum.inr "digits", y), (Sum.inr "count", z)] = .node (.dK KS) true [x, y, z] := by
  have e1 : dix [(Sum.inr "rest" : L2.Key)] (Sum.inr "digits") = none := by decide +kernel
  have e2 : dix [(Sum.inr "rest" : L2.Key), Sum.inr "digits"] (Sum.inr "count") = none := by decide +kernel
  unfold mkD
  simp only [List.foldl_cons, List.foldl_nil]
  have p0 : putP (([] : List L2.Key), ([] : List D)) ((Sum.inr "rest" : L2.Key), x) = ([(Sum.inr "rest" : L2.Key)], [x]) := rfl
  have p1 : putP ([(Sum.inr "rest" : L2.Key)], [x]) ((Sum.inr "digits" : L2.Key), y) = ([(Sum.inr "rest" : L2.Key), Sum.inr "digits"], [x, y]) := by
    unfold putP
    simp only [e1]
    rfl
  have p2 : putP ([(Sum.inr "rest" : L2.Key), Sum.inr "digits"], [x, y]) ((Sum.inr "count" : L2.Key), z) = (KS, [x, y, z]) := by
    unfold putP
    simp only [e2]
    rfl
  rw [p0, p1, p2]
abbrev sd (a : Int) (b : Bool) (c : Int) : D := .node (.dK KS) true [.int a, .bl b, .int c]
theorem getS {r : Rho} {i j : Nat} {o : Bool} {xs : List D} {k : Str} {d : D} (h : r[i]? = some (some (.node (.dK KS) o xs))) (hj : dix KS (Sum.inr k) = some j) (hd : xs[j]? = some d) (a : atom d = true) : cBin dgetK (cVar i) (cC (.str k)) r = .ok (.val d) r := by
  refine VL.bin_ok (x := .loc i) (y := .val (.str k)) (VL.cvar_loc h rfl) rfl ?_
  unfold dgetK
  rw [VL.opd_loc' h]
  show (match dix KS (Sum.inr k) with | some j => (match xs[j]? with | some d => pick r (.loc i) d | none => .bad) | none => .bad) = _
  rw [hj]
  show (match xs[j]? with | some d => pick r (.loc i) d | none => .bad) = _
  rw [hd]
  show pick r (.loc i) d = _
  unfold pick
  rw [if_pos a]
theorem putS {r r1 : Rho} {i j : Nat} {xs : List D} {k : Str} {d : D} {fa : Ev} (hv : fa r = .ok (.val d) r1) (h : r1[i]? = some (some (.node (.dK KS) true xs))) (hj : dix KS (Sum.inr k) = some j) : cDPut i (cC (.str k)) fa r = .nx (r1.set i (some (.node (.dK KS) true (xs.set j d)))) := by
  unfold cDPut
  rw [VH.set_val hv]
  show (if isDk r1 i = true then (cC (.str k) r1).st (dputK i (.val d)) else .bad) = _
  rw [if_pos (by unfold isDk; rw [h])]
  show dputK i (.val d) (.val (.str k)) r1 = _
  unfold dputK
  rw [h]
  show (if okD KS then SO.nx (r1.set i (some (putD KS xs (Sum.inr k) d))) else .bad) = _
  rw [if_pos ok_KS]
  unfold putD
  rw [hj]
theorem div_big {fa fb : Ev} {r r1 r2 : Rho} {i j : Int} (h1 : fa r = .ok (.val (.int i)) r1) (h2 : fb r1 = .ok (.val (.int j)) r2) (hj : 0 < j) (hj2 : j.natAbs.log2 < 9000) : cBin gDiv fa fb r = .ok (.val (.int (i / j))) r2 :=
  bin_ok h1 h2 (g2_ok rfl rfl (by
    have e : divOk i j = true := by
      unfold divOk
      rw [decide_eq_true hj, decide_eq_true hj2, Bool.or_true]; rfl
    rw [q_fI, if_pos e]) rfl)
theorem draw_ok (a : Int) (b : Bool) (c m : Int) (hm : 0 < m) (hm2 : m.natAbs.log2 < 9000) : ∃ v a' c', F__law_draw (sd a b c) [.int m] = .ok (.int v) (sd a' b c') ∧ 0 ≤ v ∧ v < m := by
  cases b with
  | true =>
    refine ⟨a % m, a / m, c, ?_, Int.emod_nonneg _ (by omega), Int.emod_lt_of_pos _ hm⟩
    have g1 := getS (r := [some (sd a true c), some (.int m), none, none]) (i := 0) (k := "digits") rfl ix_g rfl rfl
    have g2 := getS (r := [some (sd a true c), some (.int m), none, none]) (i := 0) (k := "rest") rfl ix_r rfl rfl
    have g3 := getS (r := [some (sd a true c), some (.int m), some (.int (a % m)), none]) (i := 0) (k := "rest") rfl ix_r rfl rfl
    have s1 : cAsg (.nm 2) (cBin gMod (cBin dgetK (cVar 0) (cC (.str "rest"))) (cVar 1)) [some (sd a true c), some (.int m), none, none] = .nx [some (sd a true c), some (.int m), some (.int (a % m)), none] := VH.asg_go (set_val (mod_ok (fb := cVar 1) (j := m) g2 rfl hm)) rfl
    have s2 := putS (fa := cBin gDiv (cBin dgetK (cVar 0) (cC (.str "rest"))) (cVar 1)) (i := 0) (k := "rest") (div_big (fb := cVar 1) (j := m) g3 rfl hm hm2) rfl ix_r
    unfold F__law_draw runQ f__law_draw
    have e5 : startR 4 (putQ 0 (sd a true c) [.int m]) = [some (sd a true c), some (.int m), none, none] := rfl
    have fin := VL.seq_rt (g := (cSeq (cDPut 0 (cC (.str "count")) (cBin gAdd (cBin dgetK (cVar 0) (cC (.str "count"))) (cC (.int 1))))
  (cSeq (cAsg (.nm 3) (cBin gMod (cBin gAdd (cBin gMod (cBin dgetK (cVar 0) (cC (.str "rest"))) (cC (.int 999999999989))) (cBin gMul (cC (.int 350377)) (cBin dgetK (cVar 0) (cC (.str "count"))))) (cC (.int 999999999989))))
  (cSeq (cAsg (.nm 3) (cBin gMod (cBin gMul (cVar 3) (cVar 3)) (cC (.int 1000000000039))))
  (cSeq (cAsg (.nm 3) (cBin gMod (cBin gMul (cBin gAdd (cVar 3) (cC (.int 290027))) (cVar 3)) (cC (.int 999999999961))))
  (cRet (cBin gMod (cBin gDiv (cVar 3) (cC (.int 7))) (cVar 1)))))))) (VH.ifs_y (g := cSkip) (VH.tru_bl g1) rfl (seq_go s1 (seq_go s2 (ret_go (fa := cVar 2) (x := .val (.int (a % m))) rfl))))
    rw [e5, fin]
    rfl
  | false =>
    generalize hx1 : (a % 999999999989 + 350377 * (c + 1)) % 999999999989 = x1
    have b1 : 0 ≤ x1 ∧ x1 < 999999999989 := by rw [← hx1]; exact ⟨Int.emod_nonneg _ (by decide), Int.emod_lt_of_pos _ (by decide)⟩
    generalize hx2 : x1 * x1 % 1000000000039 = x2
    have b2 : 0 ≤ x2 ∧ x2 < 1000000000039 := by rw [← hx2]; exact ⟨Int.emod_nonneg _ (by decide), Int.emod_lt_of_pos _ (by decide)⟩
    generalize hx3 : (x2 + 290027) * x2 % 999999999961 = x3
    have b3 : 0 ≤ x3 ∧ x3 < 999999999961 := by rw [← hx3]; exact ⟨Int.emod_nonneg _ (by decide), Int.emod_lt_of_pos _ (by decide)⟩
    refine ⟨x3 / 7 % m, a, c + 1, ?_, Int.emod_nonneg _ (by omega), Int.emod_lt_of_pos _ hm⟩
    have g1 := getS (r := [some (sd a false c), some (.int m), none, none]) (i := 0) (k := "digits") rfl ix_g rfl rfl
    have g2 := getS (r := [some (sd a false c), some (.int m), none, none]) (i := 0) (k := "count") rfl ix_c rfl rfl
    have s1 := putS (fa := cBin gAdd (cBin dgetK (cVar 0) (cC (.str "count"))) (cC (.int 1))) (i := 0) (k := "count") (add_ok (fb := cC (.int 1)) (j := 1) g2 rfl) rfl ix_c
    have g3 := getS (r := [some (sd a false (c + 1)), some (.int m), none, none]) (i := 0) (k := "rest") rfl ix_r rfl rfl
    have g4 := getS (r := [some (sd a false (c + 1)), some (.int m), none, none]) (i := 0) (k := "count") rfl ix_c rfl rfl
    have s2 : cAsg (.nm 3) (cBin gMod (cBin gAdd (cBin gMod (cBin dgetK (cVar 0) (cC (.str "rest"))) (cC (.int 999999999989))) (cBin gMul (cC (.int 350377)) (cBin dgetK (cVar 0) (cC (.str "count"))))) (cC (.int 999999999989))) [some (sd a false (c + 1)), some (.int m), none, none] = .nx [some (sd a false (c + 1)), some (.int m), none, some (.int x1)] := by
      have q := mod_ok (fb := cC (.int 999999999989)) (j := 999999999989) (add_ok (mod_ok (fb := cC (.int 999999999989)) (j := 999999999989) g3 rfl (by decide)) (mul_ok (fa := cC (.int 350377)) (i := 350377) rfl g4 (VH.mulOk_l (by decide)))) rfl (by decide)
      rw [hx1] at q
      exact VH.asg_go (set_val q) rfl
    have s3 : cAsg (.nm 3) (cBin gMod (cBin gMul (cVar 3) (cVar 3)) (cC (.int 1000000000039))) [some (sd a false (c + 1)), some (.int m), none, some (.int x1)] = .nx [some (sd a false (c + 1)), some (.int m), none, some (.int x2)] := by
      have q := mod_ok (fb := cC (.int 1000000000039)) (j := 1000000000039) (mul_ok (fa := cVar 3) (fb := cVar 3) (i := x1) (j := x1) (r := [some (sd a false (c + 1)), some (.int m), none, some (.int x1)]) rfl rfl (VH.mulOk_r (by omega))) rfl (by decide)
      rw [hx2] at q
      exact VH.asg_go (set_val q) rfl
    have s4 : cAsg (.nm 3) (cBin gMod (cBin gMul (cBin gAdd (cVar 3) (cC (.int 290027))) (cVar 3)) (cC (.int 999999999961))) [some (sd a false (c + 1)), some (.int m), none, some (.int x2)] = .nx [some (sd a false (c + 1)), some (.int m), none, some (.int x3)] := by
      have q := mod_ok (fb := cC (.int 999999999961)) (j := 999999999961) (mul_ok (fb := cVar 3) (j := x2) (add_ok (fa := cVar 3) (fb := cC (.int 290027)) (i := x2) (j := 290027) (r := [some (sd a false (c + 1)), some (.int m), none, some (.int x2)]) rfl rfl) rfl (VH.mulOk_r (by omega))) rfl (by decide)
      rw [hx3] at q
      exact VH.asg_go (set_val q) rfl
    have s5 : cRet (cBin gMod (cBin gDiv (cVar 3) (cC (.int 7))) (cVar 1)) [some (sd a false (c + 1)), some (.int m), none, some (.int x3)] = .rt (.val (.int (x3 / 7 % m))) [some (sd a false (c + 1)), some (.int m), none, some (.int x3)] :=
      ret_go (mod_ok (fb := cVar 1) (j := m) (div_ok (fa := cVar 3) (fb := cC (.int 7)) (i := x3) (j := 7) (r := [some (sd a false (c + 1)), some (.int m), none, some (.int x3)]) rfl rfl (by decide) (by decide)) rfl hm)
    unfold F__law_draw runQ f__law_draw
    have e5 : startR 4 (putQ 0 (sd a false c) [.int m]) = [some (sd a false c), some (.int m), none, none] := rfl
    have s0 : cIfS (cTru (cBin dgetK (cVar 0) (cC (.str "digits")))) (cSeq (cAsg (.nm 2) (cBin gMod (cBin dgetK (cVar 0) (cC (.str "rest"))) (cVar 1)))
  (cSeq (cDPut 0 (cC (.str "rest")) (cBin gDiv (cBin dgetK (cVar 0) (cC (.str "rest"))) (cVar 1)))
  (cRet (cVar 2)))) cSkip [some (sd a false c), some (.int m), none, none] = .nx [some (sd a false c), some (.int m), none, none] := VH.ifs_n (VH.tru_bl g1) rfl rfl
    have fin := seq_go s0 (seq_go s1 (seq_go s2 (seq_go s3 (seq_go s4 s5))))
    rw [e5, fin]
    rfl
theorem dS {r r1 : Rho} {i : Nat} {a : Int} {b : Bool} {c a1 c1 m : Int} {fm : Ev} (h : r[i]? = some (some (sd a b c))) (h2 : cSet fm r = .ok (.val (.int m)) r1) (h5 : r1[i]? = some (some (sd a1 b c1))) (hm : 0 < m) (hm2 : m.natAbs.log2 < 9000) : ∃ v a' c', cCallQ 0 1 F__law_draw (cCons (cVar i) (cCons (cSet fm) cNil)) r = .ok (.val (.int v)) (r1.set i (some (sd a' b c'))) ∧ 0 ≤ v ∧ v < m := by
  obtain ⟨v, a', c', e, h3, h4⟩ := draw_ok a1 b c1 m hm hm2
  exact ⟨v, a', c', callQ_loc (cons_ok (VL.cvar_loc h rfl) (cons_ok h2 (nil_ok _))) rfl rfl rfl rfl h5 e, h3, h4⟩
theorem log_small {m : Int} (h0 : 0 < m) (h : m < 1000000000) : m.natAbs.log2 < 9000 := by
  have : m.natAbs < 2 ^ 30 := by omega
  exact Nat.lt_trans ((Nat.log2_lt (by omega)).mpr this) (by decide)

end K63.Ds

namespace K63.Ds
open VH K63
theorem disp3 {f1 f2 f3 : Ev} {r : Rho} {a c : Int} {b : Bool} (h1 : f1 r = .ok (.val (.int a)) r) (h2 : f2 r = .ok (.val (.bl b)) r) (h3 : f3 r = .ok (.val (.int c)) r) : cDDisp [((cC (.str "rest")), f1), ((cC (.str "digits")), f2), ((cC (.str "count")), f3)] r = .ok (.val (sd a b c)) r := by
  unfold cDDisp
  show (f1 r).bd _ = _
  rw [h1]
  show (f2 r).bd _ = _
  rw [h2]
  show (f3 r).bd _ = _
  rw [h3]
  show EO.ok (.val (mkD [(Sum.inr "rest", .int a), (Sum.inr "digits", .bl b), (Sum.inr "count", .int c)])) r = _
  rw [mk_KS]
theorem len_sc (ns : List Int) (r : Rho) (h : r[0]? = some (some (script ns))) : cB (b1 lenD) (cCons (cVar 0) cNil) r = .ok (.val (.int (ns.length : Nat))) r :=
  VH.lenE_go (fa := cVar 0) (f := D.int) (xs := ns) (k := .rd) (o := false) (x := .loc 0) (VL.cvar_loc h rfl) (VL.opd_loc' h) rfl
theorem dig_ok (ns : List Int) (r : Rho) (h : r[0]? = some (some (script ns))) : ∃ b, cOr (cBin gEq (cSl (cVar 0) none (some (cC (.int 1)))) (cLst cNil)) (cBin gEq (cBin gMod (cBin gIx (cVar 0) (cC (.int 0))) (cC (.int 2))) (cC (.int 0))) r = .ok (.val (.bl b)) r := by
  have e : cSl (cVar 0) none (some (cC (.int 1))) r = .ok (.val (.node .lst true ((ns.map D.int).take (1 : Int).toNat))) r :=
    sl_ns (x := .loc 0) (r1 := r) (k := .rd) (o := false) (xs := ns.map D.int) (xs' := ns.map D.int) (VL.cvar_loc h rfl) (VL.opd_loc' h) rfl inferInstance rfl (VH.touch_l h inferInstance) (by decide)
  rw [← List.map_take] at e
  have e2 := VH.eqD_go (fb := cLst cNil) (y := .val (.node .lst true [])) (d := .node .lst true ((ns.take (1 : Int).toNat).map D.int)) e rfl rfl rfl (VL.eq_lints (ns.take (1 : Int).toNat) [])
  cases ns with
  | nil => exact ⟨true, VH.or_yes e2⟩
  | cons x ns =>
    have g : cBin gIx (cVar 0) (cC (.int 0)) r = .ok (.val (.int x)) r := ixA_go (n := 0) (x := .loc 0) (k := .rd) (o := false) (xs := (x :: ns).map D.int) (VL.cvar_loc h rfl) rfl (VL.opd_loc' h) rfl (VH.at_enc (f := D.int) (xs := x :: ns) (i := 0) (Nat.succ_pos _)) rfl
    exact ⟨_, VH.or_go e2 (eq_ok (fb := cC (.int 0)) (j := 0) (mod_ok (fb := cC (.int 2)) (j := 2) g rfl (by decide)) rfl)⟩
theorem state_ok (ns : List Int) (k : Nat) : ∃ a b, F__law_state [script ns, .int (k : Nat)] = .ok (sd a b ((k : Nat) : Int)) := by
  have l := len_sc ns [some (script ns), some (.int (k : Nat)), some (.int 0)] rfl
  have t := lt_ok (fa := cVar 1) (i := ((k : Nat) : Int)) (r := [some (script ns), some (.int (k : Nat)), some (.int 0)]) rfl l
  have s2 : ∃ a : Int, cIfS (cBin gLt (cVar 1) (cB (b1 lenD) (cCons (cVar 0) cNil))) (cAsg (.nm 2) (cBin gIx (cVar 0) (cVar 1))) cSkip [some (script ns), some (.int (k : Nat)), some (.int 0)] = .nx [some (script ns), some (.int (k : Nat)), some (.int a)] := by
    by_cases h : k < ns.length
    · have g : cBin gIx (cVar 0) (cVar 1) [some (script ns), some (.int (k : Nat)), some (.int 0)] = .ok (.val (.int ns[k])) [some (script ns), some (.int (k : Nat)), some (.int 0)] := ixA_go (n := ((k : Nat) : Int)) (x := .loc 0) (k := .rd) (o := false) (xs := ns.map D.int) (VL.cvar_loc rfl rfl) rfl rfl rfl (by rw [VH.at_enc h]) rfl
      exact ⟨ns[k], VH.ifs_y t (decide_eq_true (by omega)) (VH.asg_go (set_val g) rfl)⟩
    · exact ⟨0, VH.ifs_n t (decide_eq_false (by omega)) rfl⟩
  obtain ⟨a, s2⟩ := s2
  obtain ⟨b, d⟩ := dig_ok ns [some (script ns), some (.int (k : Nat)), some (.int a)] rfl
  refine ⟨a, b, ?_⟩
  unfold F__law_state f__law_state
  exact runF_go (r := [some (script ns), some (.int (k : Nat)), none]) rfl (seq_go (r1 := [some (script ns), some (.int (k : Nat)), some (.int 0)]) (VH.asg_go (set_val rfl) rfl) (seq_go s2 (ret_go (disp3 (f1 := cVar 2) (f3 := cVar 1) rfl d rfl)))) rfl
theorem first_ex (ns : List Int) : ∃ v, F__law_first [script ns] = .ok (.int v) := by
  have t := VL.eqR_sc (i := 0) (ns := ns) (r := [some (script ns)]) rfl
  unfold F__law_first f__law_first
  cases ns with
  | nil => exact ⟨0, runF_go (r := [some (script [])]) rfl (VL.seq_rt (VH.ifs_y t rfl (ret_go (x := .val (.int 0)) rfl))) rfl⟩
  | cons x ns =>
    have g : cBin gIx (cVar 0) (cC (.int 0)) [some (script (x :: ns))] = .ok (.val (.int x)) [some (script (x :: ns))] := ixA_go (n := 0) (x := .loc 0) (k := .rd) (o := false) (xs := (x :: ns).map D.int) (VL.cvar_loc rfl rfl) rfl rfl rfl (VH.at_enc (f := D.int) (xs := x :: ns) (i := 0) (Nat.succ_pos _)) rfl
    exact ⟨x / 2, runF_go (r := [some (script (x :: ns))]) rfl (seq_go (VH.ifs_n t rfl rfl) (ret_go (div_ok (fb := cC (.int 2)) (j := 2) g rfl (by decide) (by decide)))) rfl⟩
theorem frz_sc (ns : List Int) : frz (script ns) = script ns := by
  show D.node .rd false (frzs (ns.map D.int)) = _
  rw [frzs_ints]; rfl

end K63.Ds

namespace K63.Un
open VH K63
open K63.Co
end K63.Un

namespace K63.Un
open VH K63
open K63.Pk
def sm (ps : List (Int × Int)) : Int := (ps.map (·.2)).sum
end K63.Un

namespace K63.Un
open VH K63
open K63.Pk
end K63.Un

namespace K63.Un
open VH K63
open K63.Pk
def tp : Cp.Pc → Int × Int
  | .sign s => (0, s)
  | .copy b t => (((b : Nat) : Int), ((t : Nat) : Int))
def sz : Cp.Pc → Int × Int
  | .sign _ => (0, 1)
  | .copy b t => (((b : Nat) : Int), ((t : Nat) : Int))
end K63.Un

namespace K63.Un
open VH K63
open K63.Pk
end K63.Un

namespace K63.Lw
open VH K63
open K63.Pk
open K63.Bt (ff be rdN rds rdR ff_hit ff_go ff_out ff_ge nn)
theorem len_B {r : Rho} {i : Nat} {o : Bool} {B : List Bool} (h : r[i]? = some (some (BL o B))) : cB (b1 lenD) (cCons (cVar i) cNil) r = .ok (.val (.int (B.length : Nat))) r := by
  have e := VH.lenE_go (fa := cVar i) (f := D.int) (xs := VL.bi B) (k := .lst) (o := o) (x := .loc i) (r := r) (VL.cvar_loc h rfl) (VL.opd_loc' h) rfl
  rw [Pk.bi_len] at e
  exact e
theorem len_I {r : Rho} {i : Nat} {o : Bool} {R : List Int} (h : r[i]? = some (some (IL o R))) : cB (b1 lenD) (cCons (cVar i) cNil) r = .ok (.val (.int (R.length : Nat))) r :=
  VH.lenE_go (fa := cVar i) (f := D.int) (xs := R) (k := .lst) (o := o) (x := .loc i) (r := r) (VL.cvar_loc h rfl) (VL.opd_loc' h) rfl
abbrev E6 (B : List Bool) (i w : Nat) (h n b : Option D) : Rho := [some (BL false B), some (nt i), some (nt w), h, n, b]
theorem at_iw (B : List Bool) (i w : Nat) (h n b : Option D) : cBin gAdd (cVar 1) (cVar 2) (E6 B i w h n b) = .ok (.val (nt (i + w))) (E6 B i w h n b) := by
  have q := add_ok (fa := cVar 1) (fb := cVar 2) (i := ((i : Nat) : Int)) (j := ((w : Nat) : Int)) (r := E6 B i w h n b) rfl rfl
  rw [show ((i : Nat) : Int) + ((w : Nat) : Int) = ((i + w : Nat) : Int) by omega] at q
  exact q
noncomputable abbrev nmT : Ev := (cAnd (cBin gLt (cBin gAdd (cVar 1) (cVar 2)) (cB (b1 lenD) (cCons (cVar 0) cNil))) (cBin gEq (cBin gIx (cVar 0) (cBin gAdd (cVar 1) (cVar 2))) (cC (.int 0))))
noncomputable abbrev nmB : Sv := (cAsg (.nm 2) (cBin gAdd (cVar 2) (cC (.int 1))))
theorem add1 {r : Rho} {j n : Nat} (h : r[j]? = some (some (nt n))) : cBin gAdd (cVar j) (cC (.int 1)) r = .ok (.val (nt (n + 1))) r := by
  have q := add_ok (fa := cVar j) (fb := cC (.int 1)) (i := ((n : Nat) : Int)) (j := 1) (cvar_at h rfl) (cc_d _ _)
  rw [show ((n : Nat) : Int) + 1 = ((n + 1 : Nat) : Int) by omega] at q
  exact q
theorem nm_loop (B : List Bool) (i : Nat) : ∀ (k m w : Nat), B.length - (i + w) ≤ k → k < m → whileL nmT nmB m (E6 B i w none none none) = .nx (E6 B i (ff B (i + w) - i) none none none)
  | k, 0, w, _, h => absurd h (Nat.not_lt_zero _)
  | k, m + 1, w, h, hm => by
    have l1 := lt_ok (at_iw B i w none none none) (len_B (B := B) (i := 0) (o := false) rfl)
    by_cases hi : i + w < B.length
    · rw [decide_eq_true (by omega)] at l1
      have g : cBin gIx (cVar 0) (cBin gAdd (cVar 1) (cVar 2)) (E6 B i w none none none) = .ok (.val (.int ((B[i + w]).toNat : Nat))) (E6 B i w none none none) := ixA_go (n := ((i + w : Nat) : Int)) (x := .loc 0) (k := .lst) (o := false) (xs := (VL.bi B).map .int) (VL.cvar_loc rfl rfl) (at_iw B i w none none none) rfl rfl (Bt.bi_at B (i + w) hi) rfl
      have l2 := eq_ok (fb := cC (.int 0)) (j := 0) g rfl
      cases hb : B[i + w] with
      | true =>
        rw [hb] at l2
        rw [ff_hit hi hb, show i + w - i = w by omega]
        exact VH.wh_n (VH.and_go l1 l2) rfl
      | false =>
        rw [hb] at l2
        cases k with
        | zero => omega
        | succ k =>
          have e := nm_loop B i k m (w + 1) (by omega) (by omega)
          rw [ff_go hi hb]
          exact VH.wh_y (VH.and_go l1 l2) rfl (show nmB (E6 B i w none none none) = .nx (E6 B i (w + 1) none none none) from VH.asg_go (set_val (add1 rfl)) rfl) e
    · rw [decide_eq_false (by omega)] at l1
      rw [ff_out (by omega), show i + w - i = w by omega]
      exact VH.wh_n (VH.and_no l1) rfl
theorem ac_loop (B : List Bool) (i w : Nat) (h : Option D) : ∀ (bs : List Bool) (a : Nat) (u : Option D), ∃ u', forL (.nm 5) (cAsg (.nm 4) (cBin gAdd (cBin gMul (cC (.int 2)) (cVar 4)) (cVar 5))) ((VL.bi bs).map .int) (E6 B i w h (some (nt a)) u) = .nx (E6 B i w h (some (nt (bs.foldl (fun n b => 2 * n + b.toNat) a))) u')
  | [], a, u => ⟨u, rfl⟩
  | b :: bs, a, u => by
    obtain ⟨u', e⟩ := ac_loop B i w h bs (2 * a + b.toNat) (some (nt b.toNat))
    have s := VH.asg_go (i := 4) (set_val (add_ok (fb := cVar 5) (j := ((b.toNat : Nat) : Int)) (mul_ok (fa := cC (.int 2)) (fb := cVar 4) (i := 2) (j := ((a : Nat) : Int)) (r := E6 B i w h (some (nt a)) (some (nt b.toNat))) rfl rfl (VH.mulOk_l (by decide))) rfl)) (r2 := E6 B i w h (some (.int (2 * (a : Nat) + (b.toNat : Nat)))) (some (nt b.toNat))) rfl
    have s' : cAsg (.nm 4) (cBin gAdd (cBin gMul (cC (.int 2)) (cVar 4)) (cVar 5)) (E6 B i w h (some (nt a)) (some (nt b.toNat))) = .nx (E6 B i w h (some (nt (2 * a + b.toNat))) (some (nt b.toNat))) := by
      rw [s]
      show SO.nx (E6 B i w h (some (.int _)) _) = SO.nx (E6 B i w h (some (.int _)) _)
      rw [show (2 : Int) * ((a : Nat) : Int) + ((b.toNat : Nat) : Int) = ((2 * a + b.toNat : Nat) : Int) by omega]
    exact ⟨u', forL_c (r1 := E6 B i w h (some (nt a)) (some (nt b.toNat))) rfl s' e⟩
def numD (B : List Bool) (i : Nat) : D := if be B i ≤ B.length then .node .tup false [nt (rdN B i), nt (be B i)] else .non
theorem lnum_ok (B : List Bool) (i : Nat) (hB : B.length < 1000000) : F__law_read_ending [BL false B, nt i] = .ok (numD B i) := by
  have s1 : cAsg (.nm 2) (cC (.int 0)) [some (BL false B), some (nt i), none, none, none, none] = .nx (E6 B i 0 none none none) := rfl
  have s2 := nm_loop B i B.length fuel 0 (by omega) (VH.lt_fuel (by omega))
  rw [Nat.add_zero] at s2
  have hg := ff_ge B i
  have hbe : be B i = i + 2 * (ff B i - i) + 1 := by unfold be; omega
  have a3 := add_ok (fb := cC (.int 1)) (j := 1) (add_ok (fa := cVar 1) (i := ((i : Nat) : Int)) (r := E6 B i (ff B i - i) none none none) rfl (mul_ok (fa := cC (.int 2)) (fb := cVar 2) (i := 2) (j := ((ff B i - i : Nat) : Int)) (r := E6 B i (ff B i - i) none none none) rfl rfl (VH.mulOk_l (by decide)))) rfl
  rw [show ((i : Nat) : Int) + 2 * ((ff B i - i : Nat) : Int) + 1 = ((be B i : Nat) : Int) by omega] at a3
  have s3 := VH.asg_go (i := 3) (set_val a3) (r2 := E6 B i (ff B i - i) (some (nt (be B i))) none none) rfl
  have t := gt_ok (fa := cVar 3) (i := ((be B i : Nat) : Int)) (r := E6 B i (ff B i - i) (some (nt (be B i))) none none) rfl (len_B (B := B) (i := 0) (o := false) rfl)
  unfold F__law_read_ending f__law_read_ending numD
  by_cases h : be B i ≤ B.length
  · rw [if_pos h]
    let H : Option D := some (nt (be B i))
    have s4 : cAsg (.nm 4) (cC (.int 0)) (E6 B i (ff B i - i) H none none) = .nx (E6 B i (ff B i - i) H (some (nt 0)) none) := rfl
    have a' := at_iw B i (ff B i - i) H (some (nt 0)) none
    rw [show i + (ff B i - i) = ff B i by omega] at a'
    have sl := sl_ss (fh := cVar 3) (i := ((ff B i : Nat) : Int)) (j := ((be B i : Nat) : Int)) (x := .loc 0) (k := .lst) (o := false) (xs := (VL.bi B).map .int) (xs' := (VL.bi B).map .int) (r := E6 B i (ff B i - i) H (some (nt 0)) none) (VL.cvar_loc rfl rfl) rfl rfl inferInstance a' rfl (VH.touch_l (o := false) (k := .lst) (ys := (VL.bi B).map .int) rfl inferInstance) (by omega) (by omega)
    have es : (((VL.bi B).map D.int).drop ((ff B i : Nat) : Int).toNat).take (((be B i : Nat) : Int).toNat - ((ff B i : Nat) : Int).toNat) = (VL.bi ((B.drop (ff B i)).take (be B i - ff B i))).map D.int := by
      rw [Int.toNat_natCast, Int.toNat_natCast]
      unfold VL.bi
      rw [List.map_take, List.map_take, List.map_drop, List.map_drop]
    rw [es] at sl
    obtain ⟨u', e⟩ := ac_loop B i (ff B i - i) H ((B.drop (ff B i)).take (be B i - ff B i)) 0 none
    have e : forL (.nm 5) (cAsg (.nm 4) (cBin gAdd (cBin gMul (cC (.int 2)) (cVar 4)) (cVar 5))) ((VL.bi ((B.drop (ff B i)).take (be B i - ff B i))).map .int) (E6 B i (ff B i - i) H (some (nt 0)) none) = .nx (E6 B i (ff B i - i) H (some (nt (rdN B i))) u') := e
    have it := it_lstG (o := true) (k := .lst) (set_val sl) rfl
    have tt := tup_ok (ds := [nt (rdN B i), nt (be B i)]) (r := E6 B i (ff B i - i) H (some (nt (rdN B i))) u') (cons_ok (set_val (cvar_at (i := 4) rfl rfl)) (cons_ok (set_val (cvar_at (i := 3) rfl rfl)) (nil_ok _))) rfl (Nat.le_of_ble_eq_true rfl)
    exact runF_go (r := [some (BL false B), some (nt i), none, none, none, none]) rfl (seq_go s1 (seq_go s2 (seq_go s3 (seq_go (VH.ifs_n t (decide_eq_false (by omega)) rfl) (seq_go s4 (seq_go (for_go it e) (ret_go tt))))))) rfl
  · rw [if_neg h]
    exact runF_go (r := [some (BL false B), some (nt i), none, none, none, none]) (x := .val .non) rfl (seq_go s1 (seq_go s2 (seq_go s3 (VL.seq_rt (VH.ifs_y t (decide_eq_true (by omega)) (ret_go rfl)))))) rfl
abbrev Q5 (B : List Bool) (p : Nat) (fi : D) (acc : List Nat) (u : Option D) : Rho := [some (BL false B), some (nt 0), some fi, some (IL true (nn acc)), some (nt p), u]
noncomputable abbrev lrT : Ev := (cBin gLt (cB (b1 lenD) (cCons (cVar 3) cNil)) (cBin gSub (cBin gIx (cVar 2) (cC (.int 0))) (cC (.int 1))))
noncomputable abbrev lrB : Sv := (cSeq (cAsg (.nm 5) (cCall 2 F__law_read_ending (cCons (cVar 0) (cCons (cVar 4) cNil))))
  (cSeq (cIfS (cBin gIs (cVar 5) (cC .non)) (cRet (cC .non)) cSkip)
  (cSeq (cExpr (cApp 3 (cBin gSub (cBin gIx (cVar 5) (cC (.int 0))) (cC (.int 1)))))
  (cAsg (.nm 4) (cBin gIx (cVar 5) (cC (.int 1)))))))
theorem ixT {r : Rho} {j a b : Nat} (h : r[j]? = some (some (.node .tup false [nt a, nt b]))) : cBin gIx (cVar j) (cC (.int 0)) r = .ok (.val (nt a)) r ∧ cBin gIx (cVar j) (cC (.int 1)) r = .ok (.val (nt b)) r :=
  ⟨ixA_go (n := 0) (x := .loc j) (k := .tup) (o := false) (xs := [nt a, nt b]) (VL.cvar_loc h rfl) rfl (VL.opd_loc' h) rfl rfl rfl, ixA_go (n := 1) (x := .loc j) (k := .tup) (o := false) (xs := [nt a, nt b]) (VL.cvar_loc h rfl) rfl (VL.opd_loc' h) rfl rfl rfl⟩
theorem call_num (B : List Bool) (hB : B.length < 1000000) {r : Rho} {p : Nat} (h0 : r[0]? = some (some (BL false B))) (h1 : r[4]? = some (some (nt p))) : cCall 2 F__law_read_ending (cCons (cVar 0) (cCons (cVar 4) cNil)) r = .ok (.val (numD B p)) r := by
  have nl : noL (numD B p) = true := by
    unfold numD
    split <;> rfl
  exact VH.call_go (xs := [.loc 0, .val (nt p)]) (ds := [BL false B, nt p]) (ds' := [BL false B, nt p]) (cons_ok (VL.cvar_loc h0 rfl) (cons_ok (cvar_at h1 rfl) (nil_ok _))) (by simp only [q_opds1, q_opds0, q_opd1, VL.opd_loc' h0]) inferInstance rfl (lnum_ok B p hB) ⟨nl⟩
theorem call_num1 (B : List Bool) (hB : B.length < 1000000) {r : Rho} {p : Nat} (h0 : r[0]? = some (some (BL false B))) (h1 : r[1]? = some (some (nt p))) : cCall 2 F__law_read_ending (cCons (cVar 0) (cCons (cVar 1) cNil)) r = .ok (.val (numD B p)) r := by
  have nl : noL (numD B p) = true := by
    unfold numD
    split <;> rfl
  exact VH.call_go (xs := [.loc 0, .val (nt p)]) (ds := [BL false B, nt p]) (ds' := [BL false B, nt p]) (cons_ok (VL.cvar_loc h0 rfl) (cons_ok (cvar_at h1 rfl) (nil_ok _))) (by simp only [q_opds1, q_opds0, q_opd1, VL.opd_loc' h0]) inferInstance rfl (lnum_ok B p hB) ⟨nl⟩
theorem lr_loop (B : List Bool) (hB : B.length < 1000000) (many b : Nat) : ∀ (t m k p : Nat) (acc : List Nat) (u : Option D), B.length + 1 - p ≤ t → t < m → acc.length + k + 1 = many → acc.length + t < 16000000 →
    (∀ l q, rds B k p = some (l, q) → ∃ u', whileL lrT lrB m (Q5 B p (.node .tup false [nt many, nt b]) acc u) = .nx (Q5 B q (.node .tup false [nt many, nt b]) (acc ++ l) u')) ∧ (rds B k p = none → ∃ r, whileL lrT lrB m (Q5 B p (.node .tup false [nt many, nt b]) acc u) = .rt (.val .non) r)
  | t, 0, k, p, acc, u, _, h, _, _ => absurd h (Nat.not_lt_zero _)
  | t, m + 1, k, p, acc, u, ht, hm, hk, hz => by
    have ln := len_I (R := nn acc) (i := 3) (o := true) (r := Q5 B p (.node .tup false [nt many, nt b]) acc u) rfl
    rw [Bt.lenNN] at ln
    have tt := lt_ok ln (sub_ok (fb := cC (.int 1)) (j := 1) (ixT (r := Q5 B p (.node .tup false [nt many, nt b]) acc u) (j := 2) rfl).1 rfl)
    cases k with
    | zero =>
      rw [decide_eq_false (by omega)] at tt
      refine ⟨fun l q e => ?_, fun e => by cases e⟩
      cases e
      rw [List.append_nil]
      exact ⟨u, VH.wh_n tt rfl⟩
    | succ k =>
      rw [decide_eq_true (by omega)] at tt
      have cr := call_num B hB (r := Q5 B p (.node .tup false [nt many, nt b]) acc u) (p := p) rfl rfl
      unfold numD at cr
      by_cases hbe : be B p ≤ B.length
      · rw [if_pos hbe] at cr
        obtain ⟨n0, _⟩ := Bt.read_enc hbe
        have hge : p < be B p := by
          have := ff_ge B p
          unfold be; omega
        have b1 : cAsg (.nm 5) (cCall 2 F__law_read_ending (cCons (cVar 0) (cCons (cVar 4) cNil))) (Q5 B p (.node .tup false [nt many, nt b]) acc u) = .nx (Q5 B p (.node .tup false [nt many, nt b]) acc (some (.node .tup false [nt (rdN B p), nt (be B p)]))) := VH.asg_go (set_val cr) rfl
        have i2 : cBin gIs (cVar 5) (cC .non) (Q5 B p (.node .tup false [nt many, nt b]) acc (some (.node .tup false [nt (rdN B p), nt (be B p)]))) = .ok (.val (.bl false)) (Q5 B p (.node .tup false [nt many, nt b]) acc (some (.node .tup false [nt (rdN B p), nt (be B p)]))) := VL.bin_ok (x := .loc 5) (y := .val .non) (VL.cvar_loc rfl rfl) rfl (VL.g2_ok rfl rfl rfl rfl)
        have x0 := ixT (r := Q5 B p (.node .tup false [nt many, nt b]) acc (some (.node .tup false [nt (rdN B p), nt (be B p)]))) (j := 5) (a := rdN B p) (b := be B p) rfl
        have s0 := sub_ok (fb := cC (.int 1)) (j := 1) x0.1 rfl
        rw [show ((rdN B p : Nat) : Int) - 1 = ((rdN B p - 1 : Nat) : Int) by omega] at s0
        have na : (nn acc).map D.int ++ [.int ((rdN B p - 1 : Nat) : Int)] = (nn (acc ++ [rdN B p - 1])).map .int := by simp [nn]
        have b3 : cExpr (cApp 3 (cBin gSub (cBin gIx (cVar 5) (cC (.int 0))) (cC (.int 1)))) (Q5 B p (.node .tup false [nt many, nt b]) acc (some (.node .tup false [nt (rdN B p), nt (be B p)]))) = .nx (Q5 B p (.node .tup false [nt many, nt b]) (acc ++ [rdN B p - 1]) (some (.node .tup false [nt (rdN B p), nt (be B p)]))) := app_go (ds := (nn acc).map .int) rfl (set_val s0) rfl (by rw [List.length_map, Bt.lenNN]; omega) (by rw [na]; rfl)
        have x1 := ixT (r := Q5 B p (.node .tup false [nt many, nt b]) (acc ++ [rdN B p - 1]) (some (.node .tup false [nt (rdN B p), nt (be B p)]))) (j := 5) (a := rdN B p) (b := be B p) rfl
        have bb : lrB (Q5 B p (.node .tup false [nt many, nt b]) acc u) = .nx (Q5 B (be B p) (.node .tup false [nt many, nt b]) (acc ++ [rdN B p - 1]) (some (.node .tup false [nt (rdN B p), nt (be B p)]))) := seq_go b1 (seq_go (VH.ifs_n i2 rfl rfl) (seq_go b3 (VH.asg_go (set_val x1.2) rfl)))
        obtain ⟨g1, g2⟩ := lr_loop B hB many b (t - 1) m k (be B p) (acc ++ [rdN B p - 1]) (some (.node .tup false [nt (rdN B p), nt (be B p)])) (by omega) (by omega) (by rw [List.length_append, List.length_singleton]; omega) (by rw [List.length_append, List.length_singleton]; omega)
        refine ⟨fun l q e => ?_, fun e => ?_⟩
        · unfold rds at e
          rw [if_pos hbe] at e
          cases e2 : rds B k (be B p) with
          | none => rw [e2] at e; cases e
          | some x =>
            obtain ⟨l2, q2⟩ := x
            rw [e2] at e
            cases e
            obtain ⟨u', e3⟩ := g1 l2 q e2
            refine ⟨u', VH.wh_y tt rfl bb ?_⟩
            rw [e3, List.append_assoc]; rfl
        · unfold rds at e
          rw [if_pos hbe] at e
          cases e2 : rds B k (be B p) with
          | none =>
            obtain ⟨r, e3⟩ := g2 e2
            exact ⟨r, VH.wh_y tt rfl bb e3⟩
          | some x => obtain ⟨l2, q2⟩ := x; rw [e2] at e; cases e
      · rw [if_neg hbe] at cr
        have b1 : cAsg (.nm 5) (cCall 2 F__law_read_ending (cCons (cVar 0) (cCons (cVar 4) cNil))) (Q5 B p (.node .tup false [nt many, nt b]) acc u) = .nx (Q5 B p (.node .tup false [nt many, nt b]) acc (some .non)) := VH.asg_go (set_val cr) rfl
        have bb : lrB (Q5 B p (.node .tup false [nt many, nt b]) acc u) = .rt (.val .non) (Q5 B p (.node .tup false [nt many, nt b]) acc (some .non)) := seq_go b1 (VL.seq_rt (VH.ifs_y (fa := cBin gIs (cVar 5) (cC .non)) (b := true) (r1 := Q5 B p (.node .tup false [nt many, nt b]) acc (some .non)) rfl rfl (ret_go rfl)))
        refine ⟨fun l q e => ?_, fun _ => ⟨Q5 B p (.node .tup false [nt many, nt b]) acc (some .non), ?_⟩⟩
        · unfold rds at e
          rw [if_neg hbe] at e
          cases e
        · unfold whileL
          rw [show lrT (Q5 B p (.node .tup false [nt many, nt b]) acc u) = _ from tt, q_st1]
          show (match lrB (Q5 B p (.node .tup false [nt many, nt b]) acc u) with | .nx r2 => whileL lrT lrB m r2 | .ct r2 => whileL lrT lrB m r2 | .bk r2 => .nx r2 | o => o) = _
          rw [bb]
def rowD (B : List Bool) (i : Nat) : D := match rdR B i with
  | some (l, q) => .node .tup false [IL false (nn l), nt q]
  | none => .non
theorem lrow_ok (B : List Bool) (hB : B.length < 1000000) : F__law_read_row [BL false B, nt 0] = .ok (rowD B 0) := by
  let S0 := fun (x : Option D) => ([some (BL false B), some (nt 0), x, none, none, none] : Rho)
  have cr := call_num1 B hB (r := S0 none) (p := 0) rfl rfl
  unfold F__law_read_row f__law_read_row rowD rdR
  unfold numD at cr
  by_cases hbe : be B 0 ≤ B.length
  · rw [if_pos hbe] at cr ⊢
    obtain ⟨n0, _⟩ := Bt.read_enc hbe
    let T : D := .node .tup false [nt (rdN B 0), nt (be B 0)]
    have s1 := VH.asg_go (i := 2) (set_val cr) (r2 := S0 (some T)) rfl
    have i2 : cBin gIs (cVar 2) (cC .non) (S0 (some T)) = .ok (.val (.bl false)) (S0 (some T)) := VL.bin_ok (x := .loc 2) (y := .val .non) (VL.cvar_loc rfl rfl) rfl (VL.g2_ok rfl rfl rfl rfl)
    have s3 : cAsg (.nm 3) (cLst cNil) (S0 (some T)) = .nx [some (BL false B), some (nt 0), some T, some (IL true []), none, none] := VH.asg_go (set_val rfl) rfl
    have s4 := VH.asg_go (i := 4) (set_val (ixT (r := [some (BL false B), some (nt 0), some T, some (IL true []), none, none]) (j := 2) (a := rdN B 0) (b := be B 0) rfl).2) (r2 := Q5 B (be B 0) T [] none) rfl
    obtain ⟨g1, g2⟩ := lr_loop B hB (rdN B 0) (be B 0) (B.length + 1) fuel (rdN B 0 - 1) (be B 0) [] none (by omega) (VH.lt_fuel (by omega)) (by show 0 + _ + 1 = _; omega) (by show 0 + _ < _; omega)
    cases e : rds B (rdN B 0 - 1) (be B 0) with
    | none =>
      obtain ⟨r, g⟩ := g2 e
      exact runF_go (r := S0 none) (x := .val .non) rfl (seq_go s1 (seq_go (VH.ifs_n i2 rfl rfl) (seq_go s3 (seq_go s4 (VL.seq_rt g))))) rfl
    | some z =>
      obtain ⟨l, q⟩ := z
      obtain ⟨u', g⟩ := g1 l q e
      rw [List.nil_append] at g
      have tt := tup_ok (ds := [IL false (nn l), nt q]) (cons_ok (set_loc (i := 3) (d := IL true (nn l)) (r := Q5 B q T l u') rfl rfl inferInstance rfl) (cons_ok (set_val (cvar_at (i := 4) rfl rfl)) (nil_ok _))) rfl (Nat.le_of_ble_eq_true rfl)
      exact runF_go (r := S0 none) rfl (seq_go s1 (seq_go (VH.ifs_n i2 rfl rfl) (seq_go s3 (seq_go s4 (seq_go g (ret_go tt)))))) rfl
  · rw [if_neg hbe] at cr ⊢
    have s1 := VH.asg_go (i := 2) (set_val cr) (r2 := S0 (some .non)) rfl
    exact runF_go (r := S0 none) (x := .val .non) rfl (seq_go s1 (VL.seq_rt (VH.ifs_y (fa := cBin gIs (cVar 2) (cC .non)) (b := true) (r1 := S0 (some .non)) rfl rfl (ret_go rfl)))) rfl

end K63.Lw

namespace K63.Lw
open VH K63
open K63.Pk
open K63.Bt (be rdN rds rdR nn lenNN)
abbrev TB (k : Nat) (o : Bool) (B : List Bool) : D := .node .tup false [nt k, BL o B]
theorem fz_BL (o : Bool) (B : List Bool) : frz (BL o B) = BL false B := by
  show D.node .lst false (frzs _) = _
  rw [frzs_ints]
theorem fz_TB (k : Nat) (o : Bool) (B : List Bool) : frz (TB k o B) = TB k false B := by
  show D.node .tup false [D.int _, frz (BL o B)] = _
  rw [fz_BL]
def ckn (n m : Nat) : Nat := (m + n - 1) / n
abbrev tb (p : Nat × List Bool) : D := TB p.1 false p.2
theorem frzs_tb (bl : List (Nat × List Bool)) : frzs (bl.map tb) = bl.map tb := by
  rw [frzs_map, List.map_map]
  exact List.map_congr_left fun p _ => fz_TB p.1 false p.2
abbrev BK (o : Bool) (bl : List (Nat × List Bool)) : D := .node .lst o (bl.map tb)
abbrev CN (o : Bool) (n m : Nat) (bl : List (Nat × List Bool)) : D := .node .tup false [nt n, nt m, BK o bl]
theorem fz_CN (o : Bool) (n m : Nat) (bl : List (Nat × List Bool)) : frz (CN o n m bl) = CN false n m bl := by
  show D.node .tup false [nt n, nt m, .node .lst false (frzs _)] = _
  rw [frzs_tb]
abbrev to (p : Nat × List Bool) : D := TB p.1 true p.2
theorem frzs_to (bl : List (Nat × List Bool)) : frzs (bl.map to) = bl.map tb := by
  rw [frzs_map, List.map_map]
  exact List.map_congr_left fun p _ => fz_TB p.1 true p.2
abbrev CO (o o' : Bool) (n m : Nat) (bl : List (Nat × List Bool)) : D := .node .tup o [nt n, nt m, .node .lst o' (bl.map to)]
theorem fz_CO (o o' : Bool) (n m : Nat) (bl : List (Nat × List Bool)) : frz (CO o o' n m bl) = CN false n m bl := by
  show D.node .tup false [nt n, nt m, .node .lst false (frzs _)] = _
  rw [frzs_to]
theorem blocks_ok {n m : Nat} (hn : 1 ≤ n) (h64 : n ≤ 64) : F_blocks_for [nt n, nt m] = .ok (nt (ckn n m)) := by
  have a := add_ok (fa := cVar 1) (fb := cVar 0) (i := ((m : Nat) : Int)) (j := ((n : Nat) : Int)) (r := [some (nt n), some (nt m)]) rfl rfl
  have s := sub_ok (fb := cC (.int 1)) (j := 1) a rfl
  have d := div_ok (fb := cVar 0) (j := ((n : Nat) : Int)) s rfl (by omega) (by omega)
  rw [show (((m : Nat) : Int) + ((n : Nat) : Int) - 1) / ((n : Nat) : Int) = ((ckn n m : Nat) : Int) by
    unfold ckn
    rw [show ((m : Nat) : Int) + ((n : Nat) : Int) - 1 = ((m + n - 1 : Nat) : Int) by omega]
    rfl] at d
  unfold F_blocks_for f_blocks_for
  exact runF_go (r := [some (nt n), some (nt m)]) rfl (ret_go d) rfl
abbrev N6 (n m : Nat) (bl : List (Nat × List Bool)) (w b : Option D) : Rho := [some (CN false n m bl), some (nt n), some (nt m), some (BK false bl), w, b]
theorem need_loop (n m : Nat) (b0 : List (Nat × List Bool)) : ∀ (bl : List (Nat × List Bool)) (w b : Option D), ∃ w' b', forL (.tp [4, 5]) (cIfS (cBin gLt (cVar 4) (cC (.int 0))) (cRaise 4) cSkip) (bl.map tb) (N6 n m b0 w b) = .nx (N6 n m b0 w' b')
  | [], w, b => ⟨w, b, rfl⟩
  | p :: bl, w, b => by
    have t := lt_ok (fa := cVar 4) (fb := cC (.int 0)) (i := ((p.1 : Nat) : Int)) (j := 0) (r := N6 n m b0 (some (nt p.1)) (some (BL false p.2))) rfl rfl
    obtain ⟨w', b', e⟩ := need_loop n m b0 bl (some (nt p.1)) (some (BL false p.2))
    exact ⟨w', b', forL_c (r1 := N6 n m b0 (some (nt p.1)) (some (BL false p.2))) rfl (VH.ifs_n t (decide_eq_false (by omega)) rfl) e⟩
theorem set_CN {r : Rho} {i : Nat} {n m : Nat} {bl : List (Nat × List Bool)} (h : r[i]? = some (some (CN false n m bl))) (h2 : r.set i (some (CN false n m bl)) = r) : cSet (cVar i) r = .ok (.val (CN false n m bl)) r := set_loc (d := CN false n m bl) h rfl ⟨fz_CN false n m bl⟩ h2
theorem needC_ok {n m : Nat} {bl : List (Nat × List Bool)} (hn : 1 ≤ n) (h64 : n ≤ 64) (hm : m ≤ 400) (hl : bl.length = ckn n m) : F_need_container [CN false n m bl] = .ok .non := by
  have s1 : cAsg (.tp [1, 2, 3]) (cVar 0) [some (CN false n m bl), none, none, none, none, none] = .nx (N6 n m bl none none) := VH.asgT_go (set_CN rfl rfl) rfl
  have t := VH.or_b (lt_ok (fa := cVar 1) (fb := cC (.int 1)) (i := ((n : Nat) : Int)) (j := 1) (r := N6 n m bl none none) rfl rfl) (VH.or_b (gt_ok (fa := cVar 1) (fb := cC (.int 64)) (i := ((n : Nat) : Int)) (j := 64) rfl rfl) (VH.or_b (lt_ok (fa := cVar 2) (fb := cC (.int 0)) (i := ((m : Nat) : Int)) (j := 0) rfl rfl) (gt_ok (fa := cVar 2) (fb := cC (.int 400)) (i := ((m : Nat) : Int)) (j := 400) rfl rfl)))
  rw [decide_eq_false (by omega), decide_eq_false (by omega), decide_eq_false (by omega), decide_eq_false (by omega)] at t
  have l3 := VH.lenE_go (f := tb) (xs := bl) (k := .lst) (o := false) (fa := cVar 3) (x := .loc 3) (r := N6 n m bl none none) (VL.cvar_loc rfl rfl) rfl rfl
  have c := VH.call_go (F := F_blocks_for) (n := 2) (xs := [.val (nt n), .val (nt m)]) (ds := [nt n, nt m]) (ds' := [nt n, nt m]) (r := N6 n m bl none none) (fs := cCons (cVar 1) (cCons (cVar 2) cNil)) (cons_ok (cvar_at rfl rfl) (cons_ok (cvar_at rfl rfl) (nil_ok _))) rfl inferInstance rfl (blocks_ok (m := m) hn h64) inferInstance
  have t2 := ne_ok l3 c
  rw [decide_eq_true (by omega)] at t2
  obtain ⟨w', b', e⟩ := need_loop n m bl bl none none
  have it : iLst (cVar 3) (N6 n m bl none none) = .ok (bl.map tb) (N6 n m bl none none) := it_lstG (o := false) (k := .lst) (set_loc (d := BK false bl) rfl rfl ⟨by show D.node .lst false (frzs _) = _; rw [frzs_tb]⟩ rfl) rfl
  unfold F_need_container f_need_container
  exact VH.runF_nx (r := [some (CN false n m bl), none, none, none, none, none]) rfl (seq_go s1 (seq_go (VH.ifs_n t rfl rfl) (seq_go (VH.ifs_n t2 rfl rfl) (for_go it e))))
theorem ix_I {r : Rho} {i : Nat} {o : Bool} {R : List Int} {fb : Ev} {k : Nat} {x : Int} (h : r[i]? = some (some (IL o R))) (h2 : fb r = .ok (.val (nt k)) r) (hx : R[k]? = some x) : cBin gIx (cVar i) fb r = .ok (.val (.int x)) r := by
  have hk : k < R.length := (List.getElem?_eq_some_iff.mp hx).1
  have e : R[k] = x := (List.getElem?_eq_some_iff.mp hx).2
  exact ixA_go (n := ((k : Nat) : Int)) (x := .loc i) (k := .lst) (o := o) (xs := R.map .int) (VL.cvar_loc h rfl) h2 (VL.opd_loc' h) rfl (by rw [VH.at_enc hk, e]) rfl
theorem size_two (l : Nat) : Builtin.Range.rangeSize 2 ((2 + 2 * l : Nat) : Int) 2 = ((l : Nat) : Int) := by
  unfold Builtin.Range.rangeSize
  rw [if_pos (by omega)]
  split <;> omega
theorem rng2_two (l : Nat) : rngD 2 2 (turns 2 ((2 + 2 * l : Nat) : Int) 2) = (List.range' 0 l).map fun i => nt (2 + 2 * i) := by
  unfold turns
  rw [size_two, Int.toNat_natCast]
  unfold rngD
  rw [List.range'_eq_map_range, List.map_map]
  refine List.map_congr_left fun i _ => ?_
  show D.int _ = D.int ((2 + 2 * (0 + i) : Nat) : Int)
  congr 1
  omega
theorem small_two (l : Nat) (hl : l ≤ 4000) : Builtin.Range.small 2 ((2 + 2 * l : Nat) : Int) 2 = true := by
  unfold Builtin.Range.small
  rw [size_two]
  generalize hq : ((2 + 2 * l : Nat) : Int) = b
  have hb : b = 2 + 2 * ((l : Nat) : Int) := by omega
  simp only [Builtin.Range.rangeFitsLong, Bool.and_eq_true, Bool.or_eq_true, decide_eq_true_eq, beq_iff_eq]
  rw [if_pos (show (2 : Int) > 0 by omega)]
  simp only [Bool.and_eq_true, decide_eq_true_eq]
  omega
theorem needC_no {n m : Nat} {bl : List (Nat × List Bool)} (h : ¬ (1 ≤ n ∧ n ≤ 64 ∧ m ≤ 400 ∧ bl.length = ckn n m)) (hl : bl.length < 1000000) : F_need_container [CN false n m bl] = .exc 4 := by
  have s1 : cAsg (.tp [1, 2, 3]) (cVar 0) [some (CN false n m bl), none, none, none, none, none] = .nx (N6 n m bl none none) := VH.asgT_go (set_CN rfl rfl) rfl
  have t := VH.or_b (lt_ok (fa := cVar 1) (fb := cC (.int 1)) (i := ((n : Nat) : Int)) (j := 1) (r := N6 n m bl none none) rfl rfl) (VH.or_b (gt_ok (fa := cVar 1) (fb := cC (.int 64)) (i := ((n : Nat) : Int)) (j := 64) rfl rfl) (VH.or_b (lt_ok (fa := cVar 2) (fb := cC (.int 0)) (i := ((m : Nat) : Int)) (j := 0) rfl rfl) (gt_ok (fa := cVar 2) (fb := cC (.int 400)) (i := ((m : Nat) : Int)) (j := 400) rfl rfl)))
  unfold F_need_container f_need_container
  by_cases h1 : 1 ≤ n ∧ n ≤ 64 ∧ m ≤ 400
  · rw [decide_eq_false (by omega), decide_eq_false (by omega), decide_eq_false (by omega), decide_eq_false (by omega)] at t
    have l3 := VH.lenE_go (f := tb) (xs := bl) (k := .lst) (o := false) (fa := cVar 3) (x := .loc 3) (r := N6 n m bl none none) (VL.cvar_loc rfl rfl) rfl rfl
    have c := VH.call_go (F := F_blocks_for) (n := 2) (xs := [.val (nt n), .val (nt m)]) (ds := [nt n, nt m]) (ds' := [nt n, nt m]) (r := N6 n m bl none none) (fs := cCons (cVar 1) (cCons (cVar 2) cNil)) (cons_ok (cvar_at rfl rfl) (cons_ok (cvar_at rfl rfl) (nil_ok _))) rfl inferInstance rfl (blocks_ok (m := m) h1.1 h1.2.1) inferInstance
    have t2 := ne_ok l3 c
    exact VH.runF_exc (r := [some (CN false n m bl), none, none, none, none, none]) rfl (seq_go s1 (seq_go (VH.ifs_n t rfl rfl) (seq_exc (VH.ifs_y t2 (by first | exact tt | (rw [decide_eq_false (by omega)]; rfl) | (rw [decide_eq_true (by omega)])) rfl))))
  · have tt : (decide (((n : Nat) : Int) < 1) || (decide (((n : Nat) : Int) > 64) || (decide (((m : Nat) : Int) < 0) || decide (((m : Nat) : Int) > 400)))) = true := by
      rcases (show n < 1 ∨ n > 64 ∨ m > 400 by omega) with z | z | z
      · rw [decide_eq_true (show ((n : Nat) : Int) < 1 by omega)]; rfl
      · rw [decide_eq_true (show ((n : Nat) : Int) > 64 by omega), Bool.true_or, Bool.or_true]
      · rw [decide_eq_true (show ((m : Nat) : Int) > 400 by omega), Bool.or_true, Bool.or_true, Bool.or_true]
    exact VH.runF_exc (r := [some (CN false n m bl), none, none, none, none, none]) rfl (seq_go s1 (seq_exc (VH.ifs_y t tt rfl)))
def flat : List (Nat × Nat) → List Nat
  | [] => []
  | p :: t => p.1 :: p.2 :: flat t
def unflat : List Nat → List (Nat × Nat)
  | a :: b :: l => (a, b) :: unflat l
  | _ => []
theorem flat_un : ∀ l : List Nat, l.length % 2 = 0 → flat (unflat l) = l
  | [], _ => rfl
  | [a], h => by simp at h
  | a :: b :: l, h => by
    show a :: b :: flat (unflat l) = _
    rw [flat_un l (by simp only [List.length_cons] at h; omega)]
theorem flat_len : ∀ ps : List (Nat × Nat), (flat ps).length = 2 * ps.length
  | [] => rfl
  | p :: t => by
    show (flat t).length + 1 + 1 = 2 * (t.length + 1)
    rw [flat_len t]; omega
theorem flat_app : ∀ a b : List (Nat × Nat), flat (a ++ b) = flat a ++ flat b
  | [], _ => rfl
  | p :: t, b => by
    show p.1 :: p.2 :: flat (t ++ b) = _
    rw [flat_app t b]; rfl
def prt (W : List Bool) : List (Nat × Nat) → Nat → List (Nat × List Bool)
  | [], _ => []
  | p :: t, q => (p.1, (W.drop q).take p.2) :: prt W t (q + p.2)
def szs : List (Nat × Nat) → Nat
  | [] => 0
  | p :: t => p.2 + szs t
theorem prt_len (W : List Bool) : ∀ (ps : List (Nat × Nat)) (q : Nat), (prt W ps q).length = ps.length
  | [], _ => rfl
  | p :: t, q => by
    show (prt W t _).length + 1 = t.length + 1
    rw [prt_len W t]
def rdC (W : List Bool) : Option (Nat × Nat × List (Nat × List Bool)) := match rdR W 0 with
  | some (n :: m :: l, q) => if l.length % 2 = 0 ∧ q + szs (unflat l) = W.length ∧ 1 ≤ n ∧ n ≤ 64 ∧ m ≤ 400 ∧ (unflat l).length = ckn n m then some (n, m, prt W (unflat l) q) else none
  | _ => none
theorem at_row (n m : Nat) (done todo : List (Nat × Nat)) (p : Nat × Nat) : (nn (n :: m :: flat (done ++ p :: todo)))[2 + 2 * done.length]? = some ((p.1 : Nat) : Int) ∧ (nn (n :: m :: flat (done ++ p :: todo)))[2 + 2 * done.length + 1]? = some ((p.2 : Nat) : Int) := by
  have e : n :: m :: flat (done ++ p :: todo) = (n :: m :: flat done) ++ (p.1 :: p.2 :: flat todo) := by rw [flat_app]; rfl
  have hl : (n :: m :: flat done).length = 2 + 2 * done.length := by rw [List.length_cons, List.length_cons, flat_len]; omega
  unfold Bt.nn
  rw [List.getElem?_map, List.getElem?_map, e, List.getElem?_append_right (by omega), List.getElem?_append_right (by omega), hl]
  rw [show 2 + 2 * done.length - (2 + 2 * done.length) = 0 by omega, show 2 + 2 * done.length + 1 - (2 + 2 * done.length) = 1 by omega]
  exact ⟨rfl, rfl⟩
abbrev R6 (W : List Bool) (nu : List Int) (pl : Nat) (done : List (Nat × List Bool)) (k c : Option D) : Rho := [some (BL false W), some (IL false nu), some (nt pl), some (.node .lst true (done.map to)), k, c]
noncomputable abbrev raB : Sv := (cSeq (cExpr (cApp 3 (cTup (cCons (cSet (cBin gIx (cVar 1) (cVar 4))) (cCons (cSet (cSl (cVar 0) (some (cVar 2)) (some (cBin gAdd (cVar 2) (cBin gIx (cVar 1) (cBin gAdd (cVar 4) (cC (.int 1)))))))) cNil))))) (cAug 2 (g2 iAdd) (cBin gIx (cVar 1) (cBin gAdd (cVar 4) (cC (.int 1))))))
theorem ra_loop (W : List Bool) (n m : Nat) (ps : List (Nat × Nat)) (hl : ps.length ≤ 4000) (cc : Option D) : ∀ (todo done : List (Nat × Nat)) (bd : List (Nat × List Bool)) (pl : Nat) (k : Option D), done ++ todo = ps → bd.length = done.length →
    ∃ k', forL (.nm 4) raB ((List.range' done.length todo.length).map fun i => nt (2 + 2 * i)) (R6 W (nn (n :: m :: flat ps)) pl bd k cc) = .nx (R6 W (nn (n :: m :: flat ps)) (pl + szs todo) (bd ++ prt W todo pl) k' cc)
  | [], done, bd, pl, k, e, hb => by
    refine ⟨k, ?_⟩
    show SO.nx _ = SO.nx (R6 W _ (pl + 0) (bd ++ []) k cc)
    rw [List.append_nil, Nat.add_zero]
  | p :: todo, done, bd, pl, k, e, hb => by
    obtain ⟨a1, a2⟩ := at_row n m done todo p
    rw [e] at a1 a2
    have hdl : done.length ≤ 4000 := by rw [← e, List.length_append] at hl; omega
    let q : Nat × List Bool := (p.1, (W.drop pl).take p.2)
    obtain ⟨k', e2⟩ := ra_loop W n m ps hl cc todo (done ++ [p]) (bd ++ [q]) (pl + p.2) (some (nt (2 + 2 * done.length))) (by rw [List.append_assoc]; exact e) (by rw [List.length_append, List.length_append, hb]; rfl)
    rw [List.length_append, List.length_singleton, List.append_assoc, Nat.add_assoc] at e2
    generalize nn (n :: m :: flat ps) = H at *
    have i4 : ∀ (pl : Nat) (dn : List (Nat × List Bool)), cBin gIx (cVar 1) (cVar 4) (R6 W H pl dn (some (nt (2 + 2 * done.length))) cc) = .ok (.val (nt p.1)) (R6 W H pl dn (some (nt (2 + 2 * done.length))) cc) := fun pl dn => ix_I (i := 1) (o := false) rfl (cvar_at rfl rfl) a1
    have i5 : ∀ (pl : Nat) (dn : List (Nat × List Bool)), cBin gIx (cVar 1) (cBin gAdd (cVar 4) (cC (.int 1))) (R6 W H pl dn (some (nt (2 + 2 * done.length))) cc) = .ok (.val (nt p.2)) (R6 W H pl dn (some (nt (2 + 2 * done.length))) cc) := fun pl dn => by
      have ad := add_ok (fa := cVar 4) (fb := cC (.int 1)) (i := ((2 + 2 * done.length : Nat) : Int)) (j := 1) (r := R6 W H pl dn (some (nt (2 + 2 * done.length))) cc) rfl rfl
      rw [show ((2 + 2 * done.length : Nat) : Int) + 1 = ((2 + 2 * done.length + 1 : Nat) : Int) by omega] at ad
      exact ix_I (i := 1) (o := false) rfl ad a2
    have hi := add_ok (fa := cVar 2) (i := ((pl : Nat) : Int)) (r := R6 W H pl bd (some (nt (2 + 2 * done.length))) cc) rfl (i5 pl bd)
    have sl := sl_ss (fa := cVar 0) (fl := cVar 2) (i := ((pl : Nat) : Int)) (x := .loc 0) (k := .lst) (o := false) (xs := (VL.bi W).map .int) (xs' := (VL.bi W).map .int) (r := R6 W H pl bd (some (nt (2 + 2 * done.length))) cc) (VL.cvar_loc rfl rfl) rfl rfl inferInstance rfl hi (VH.touch_l (o := false) (k := .lst) (ys := (VL.bi W).map .int) rfl inferInstance) (by omega) (by omega)
    have es : (((VL.bi W).map D.int).drop ((pl : Nat) : Int).toNat).take ((((pl : Nat) : Int) + ((p.2 : Nat) : Int)).toNat - ((pl : Nat) : Int).toNat) = (VL.bi ((W.drop pl).take p.2)).map D.int := by
      rw [Int.toNat_natCast, show (((pl : Nat) : Int) + ((p.2 : Nat) : Int)).toNat - pl = p.2 by omega]
      unfold VL.bi
      rw [List.map_take, List.map_take, List.map_drop, List.map_drop]
    rw [es] at sl
    have t := tup_ok (ds := [nt p.1, BL true q.2]) (cons_ok (set_val (i4 pl bd)) (cons_ok (set_val sl) (nil_ok _))) rfl (Nat.le_of_ble_eq_true rfl)
    have s1 : cExpr (cApp 3 (cTup (cCons (cSet (cBin gIx (cVar 1) (cVar 4))) (cCons (cSet (cSl (cVar 0) (some (cVar 2)) (some (cBin gAdd (cVar 2) (cBin gIx (cVar 1) (cBin gAdd (cVar 4) (cC (.int 1)))))))) cNil)))) (R6 W H pl bd (some (nt (2 + 2 * done.length))) cc) = .nx (R6 W H pl (bd ++ [q]) (some (nt (2 + 2 * done.length))) cc) := by
      refine VH.app_go (i := 3) (ds := bd.map to) rfl (set_val t) rfl (by rw [List.length_map]; omega) ?_
      rw [show bd.map to ++ [D.node .tup false [nt p.1, BL true q.2]] = (bd ++ [q]).map to by rw [List.map_append]; rfl]
      rfl
    have s2 : cAug 2 (g2 iAdd) (cBin gIx (cVar 1) (cBin gAdd (cVar 4) (cC (.int 1)))) (R6 W H pl (bd ++ [q]) (some (nt (2 + 2 * done.length))) cc) = .nx (R6 W H (pl + p.2) (bd ++ [q]) (some (nt (2 + 2 * done.length))) cc) := by
      refine aug_go (i := 2) rfl (i5 pl (bd ++ [q])) ?_
      show _ = [_, _, some (D.int ((pl + p.2 : Nat) : Int)), _, _, _]
      rw [show ((pl + p.2 : Nat) : Int) = ((pl : Nat) : Int) + ((p.2 : Nat) : Int) by omega]
      rfl
    exact ⟨k', forL_c rfl (seq_go s1 s2) e2⟩

end K63.Lw

namespace K63.Lw
open VH K63
open K63.Pk
open K63.Bt (be rdN rds rdR nn lenNN)
instance (bl : List (Nat × List Bool)) : Nls (bl.map to) := ⟨VH.noLs_of fun x hx => by
  obtain ⟨p, _, rfl⟩ := List.mem_map.mp hx
  exact (inferInstance : Nl (TB p.1 true p.2)).e⟩
theorem rd_any (W : List Bool) (hW : W.length < 1000000) : F_read_row [BL false W, .int 0] = match rdR W 0 with
    | some (l, q) => .ok (.node .tup false [IL false (nn l), nt q])
    | none => .exc 4 := Bt.rrow_ok W 0 hW
theorem readAny (W : List Bool) (hW : W.length ≤ 3900) : F_read_container [BL false W] = match rdC W with
    | some (n, m, bl) => .ok (CO false true n m bl)
    | none => .exc 4 := by
  have f := rd_any W (by omega)
  let r0 : Rho := [some (BL false W), none, none, none, none, none]
  unfold rdC
  cases e : rdR W 0 with
  | none =>
    rw [e] at f
    have c1 := VH.call_exc (F := F_read_row) (n := 2) (xs := [.loc 0, .val (.int 0)]) (ds := [BL false W, .int 0]) (ds' := [BL false W, .int 0]) (fs := cCons (cVar 0) (cCons (cC (.int 0)) cNil)) (r := r0) (cons_ok (VL.cvar_loc rfl rfl) (cons_ok (cc_d _ _) (nil_ok _))) rfl inferInstance rfl f
    unfold F_read_container f_read_container
    exact VH.runF_exc (r := r0) rfl (seq_exc (VH.asg_exc c1))
  | some x =>
    obtain ⟨l, q⟩ := x
    rw [e] at f
    have hll : l.length ≤ 3900 := by
      have := (Bt.rdR_sound W hW 0 (Nat.zero_le _) l q e).2.2.2
      omega
    let r1 : Rho := [some (BL false W), some (IL false (nn l)), some (nt q), none, none, none]
    have c1 := VH.call_any (F := F_read_row) (n := 2) (xs := [.loc 0, .val (.int 0)]) (ds := [BL false W, .int 0]) (ds' := [BL false W, .int 0]) (fs := cCons (cVar 0) (cCons (cC (.int 0)) cNil)) (r := r0) (cons_ok (VL.cvar_loc rfl rfl) (cons_ok (cc_d _ _) (nil_ok _))) rfl inferInstance rfl f (by
      show [some (frz (BL false W)), _, _, _, _, _] = _
      rw [fz_BL])
    have s1 : cAsg (.tp [1, 2]) (cCall 2 F_read_row (cCons (cVar 0) (cCons (cC (.int 0)) cNil))) r0 = .nx r1 := VH.asgT_go (set_val c1) rfl
    have ln := len_I (R := nn l) (i := 1) (o := false) (r := r1) rfl
    rw [lenNN] at ln
    have t2 := VH.or_b (lt_ok (fb := cC (.int 2)) (j := 2) ln rfl) (eq_ok (fb := cC (.int 1)) (j := 1) (mod_ok (fb := cC (.int 2)) (j := 2) ln rfl (by decide)) rfl)
    have bad : (decide (((l.length : Nat) : Int) < 2) || decide (((l.length : Nat) : Int) % 2 = 1)) = true → F_read_container [BL false W] = .exc 4 := fun h => by
      unfold F_read_container f_read_container
      exact VH.runF_exc (r := r0) rfl (seq_go s1 (seq_exc (VH.ifs_y t2 h rfl)))
    rcases l with _ | ⟨n, _ | ⟨m, l⟩⟩
    · exact bad rfl
    · exact bad rfl
    · show F_read_container [BL false W] = match (if _ then _ else none : Option (Nat × Nat × List (Nat × List Bool))) with | some (n, m, bl) => _ | none => _
      by_cases hev : l.length % 2 = 0
      · rw [decide_eq_false (by simp only [List.length_cons]; omega), decide_eq_false (by simp only [List.length_cons]; omega)] at t2
        have hps : (unflat l).length * 2 = l.length := by
          have := flat_len (unflat l)
          rw [flat_un l hev] at this
          omega
        have hfl := flat_un l hev
        have hl2 : l.length ≤ 3898 := by simp only [List.length_cons] at hll; omega
        generalize unflat l = ps at *
        subst hfl
        let r2 := R6 W (nn (n :: m :: flat ps)) q [] none none
        have s3 : cAsg (.nm 3) (cLst cNil) [some (BL false W), some (IL false (nn (n :: m :: flat ps))), some (nt q), none, none, none] = .nx r2 := rfl
        obtain ⟨k', e4⟩ := ra_loop W n m ps (by omega) none ps [] [] q none rfl rfl
        rw [List.nil_append] at e4
        have ln4 := len_I (R := nn (n :: m :: flat ps)) (i := 1) (o := false) (r := r2) rfl
        rw [lenNN, show (n :: m :: flat ps).length = 2 + 2 * ps.length by rw [List.length_cons, List.length_cons, flat_len]; omega] at ln4
        have it := VH.it_rng3 (fa := cC (.int 2)) (fc := cC (.int 2)) (i := 2) (z := 2) (r := r2) rfl ln4 rfl (by
          rw [Bool.and_eq_true, Bool.and_eq_true]
          exact ⟨⟨rfl, rfl⟩, small_two _ (by omega)⟩)
        rw [rng2_two] at it
        have s4 := for_go (t := .nm 4) it e4
        let bl := prt W ps q
        let r3 := R6 W (nn (n :: m :: flat ps)) (q + szs ps) bl k' none
        have lb := len_B (B := W) (i := 0) (o := false) (r := r3) rfl
        have t5 := ne_ok (fa := cVar 2) (i := ((q + szs ps : Nat) : Int)) (r := r3) rfl lb
        have hbl : bl.length = ps.length := prt_len W ps q
        have i0 : cBin gIx (cVar 1) (cC (.int 0)) r3 = .ok (.val (nt n)) r3 := ix_I (i := 1) (o := false) (k := 0) rfl (cc_d _ _) rfl
        have i1 : cBin gIx (cVar 1) (cC (.int 1)) r3 = .ok (.val (nt m)) r3 := ix_I (i := 1) (o := false) (k := 1) rfl (cc_d _ _) rfl
        have t6 := tup_ok (ds := [nt n, nt m, .node .lst true (bl.map to)]) (cons_ok (set_val i0) (cons_ok (set_val i1) (cons_ok (take_at (i := 3) (d := .node .lst true (bl.map to)) rfl) (nil_ok _)))) rfl (Nat.le_of_ble_eq_true rfl)
        let r4 : Rho := [some (BL false W), some (IL false (nn (n :: m :: flat ps))), some (nt (q + szs ps)), some .any, k', some (CO false true n m bl)]
        have s6 := VH.asg_go (i := 5) (set_val t6) (r2 := r4) rfl
        have pre : ∀ {o : SO}, (cSeq (cIfS (cBin gNe (cVar 2) (cB (b1 lenD) (cCons (cVar 0) cNil))) (cRaise 4) cSkip) (cSeq (cAsg (.nm 5) (cTup (cCons (cSet (cBin gIx (cVar 1) (cC (.int 0)))) (cCons (cSet (cBin gIx (cVar 1) (cC (.int 1)))) (cCons (cTake 3) cNil))))) (cSeq (cExpr (cCall 1 F_need_container (cCons (cVar 5) cNil))) (cRet (cVar 5))))) r3 = o → f_read_container r0 = o := fun {o} h => by
          unfold f_read_container
          exact seq_go s1 (seq_go (VH.ifs_n t2 rfl rfl) (seq_go s3 (seq_go s4 h)))
        by_cases hq : q + szs ps = W.length
        · rw [decide_eq_true (by omega)] at t5
          by_cases hc : 1 ≤ n ∧ n ≤ 64 ∧ m ≤ 400 ∧ bl.length = ckn n m
          · rw [if_pos ⟨hev, hq, hc.1, hc.2.1, hc.2.2.1, by rw [← hbl]; exact hc.2.2.2⟩]
            have c7 := VH.call_go (F := F_need_container) (n := 1) (xs := [.loc 5]) (ds := [CO false true n m bl]) (ds' := [CN false n m bl]) (r := r4) (fs := cCons (cVar 5) cNil) (cons_ok (VL.cvar_loc rfl rfl) (nil_ok _)) rfl ⟨by show [frz (CO false true n m bl)] = _; rw [fz_CO]⟩ rfl (needC_ok hc.1 hc.2.1 hc.2.2.1 hc.2.2.2) inferInstance
            unfold F_read_container
            exact runF_go (r := r0) (x := .loc 5) (r1 := r4) rfl (pre (seq_go (VH.ifs_n t5 rfl rfl) (seq_go s6 (seq_go (VH.expr_go c7) (ret_go (VL.cvar_loc rfl rfl)))))) rfl
          · rw [if_neg (fun h => hc ⟨h.2.2.1, h.2.2.2.1, h.2.2.2.2.1, by rw [hbl]; exact h.2.2.2.2.2⟩)]
            have c7 := VH.call_exc (F := F_need_container) (n := 1) (xs := [.loc 5]) (ds := [CO false true n m bl]) (ds' := [CN false n m bl]) (r := r4) (fs := cCons (cVar 5) cNil) (cons_ok (VL.cvar_loc rfl rfl) (nil_ok _)) rfl ⟨by show [frz (CO false true n m bl)] = _; rw [fz_CO]⟩ rfl (needC_no hc (by omega))
            unfold F_read_container
            exact VH.runF_exc (r := r0) rfl (pre (seq_go (VH.ifs_n t5 rfl rfl) (seq_go s6 (seq_exc (VH.expr_exc c7)))))
        · rw [if_neg (fun h => hq h.2.1)]
          rw [decide_eq_false (by omega)] at t5
          unfold F_read_container
          exact VH.runF_exc (r := r0) rfl (pre (seq_exc (VH.ifs_y t5 rfl rfl)))
      · rw [if_neg (fun h => hev h.1)]
        exact bad (by
          rw [decide_eq_true (show ((((n :: m :: l).length : Nat) : Int)) % 2 = 1 by simp only [List.length_cons]; omega), Bool.or_true])

end K63.Lw

namespace K63.Lw
open VH K63
open K63.Pk
open K63.Bt (be rdN rds rdR nn lenNN)
abbrev RT (H : List Int) (q : Nat) : D := .node .tup false [IL false H, nt q]
theorem ixR0 {r : Rho} {H : List Int} {q : Nat} (h : r[1]? = some (some (RT H q))) : cBin gIx (cVar 1) (cC (.int 0)) r = .ok (.val (IL false H)) r :=
  ix_go (n := 0) (x := .loc 1) (k := .tup) (o := false) (xs := [IL false H, nt q]) (d := IL false H) (VL.cvar_loc h rfl) rfl (VL.opd_loc' h) rfl rfl ⟨by show D.node .lst false (frzs _) = _; rw [frzs_ints]⟩ (VH.touch_l (o := false) (k := .tup) (ys := [IL false H, nt q]) h ⟨by show [D.node .lst false (frzs _), _] = _; rw [frzs_ints]; rfl⟩) (fun h => by cases h)
theorem ixR1 {r : Rho} {H : List Int} {q : Nat} (h : r[1]? = some (some (RT H q))) : cBin gIx (cVar 1) (cC (.int 1)) r = .ok (.val (nt q)) r :=
  ixA_go (n := 1) (x := .loc 1) (k := .tup) (o := false) (xs := [IL false H, nt q]) (VL.cvar_loc h rfl) rfl (VL.opd_loc' h) rfl rfl rfl
theorem ixRk {r : Rho} {H : List Int} {q : Nat} {fb : Ev} {k : Nat} {x : Int} (h : r[1]? = some (some (RT H q))) (h2 : fb r = .ok (.val (nt k)) r) (hx : H[k]? = some x) : cBin gIx (cBin gIx (cVar 1) (cC (.int 0))) fb r = .ok (.val (.int x)) r := by
  have hk : k < H.length := (List.getElem?_eq_some_iff.mp hx).1
  have e : H[k] = x := (List.getElem?_eq_some_iff.mp hx).2
  exact ixA_go (n := ((k : Nat) : Int)) (x := .val (IL false H)) (k := .lst) (o := false) (xs := H.map .int) (ixR0 h) h2 rfl rfl (by rw [VH.at_enc hk, e]) rfl
theorem lenR {r : Rho} {H : List Int} {q : Nat} (h : r[1]? = some (some (RT H q))) : cB (b1 lenD) (cCons (cBin gIx (cVar 1) (cC (.int 0))) cNil) r = .ok (.val (nt H.length)) r :=
  VH.lenE_go (f := D.int) (xs := H) (k := .lst) (o := false) (x := .val (IL false H)) (ixR0 h) rfl rfl
abbrev D7 (W : List Bool) (H : List Int) (q n m pl : Nat) (bd : List (Nat × List Bool)) (k : Option D) : Rho := [some (BL false W), some (RT H q), some (nt n), some (nt m), some (nt pl), some (.node .lst true (bd.map to)), k]
noncomputable abbrev ldB : Sv := (cSeq (cExpr (cApp 5 (cTup (cCons (cSet (cBin gIx (cBin gIx (cVar 1) (cC (.int 0))) (cVar 6))) (cCons (cSet (cSl (cVar 0) (some (cVar 4)) (some (cBin gAdd (cVar 4) (cBin gIx (cBin gIx (cVar 1) (cC (.int 0))) (cBin gAdd (cVar 6) (cC (.int 1)))))))) cNil)))))
  (cAsg (.nm 4) (cBin gAdd (cVar 4) (cBin gIx (cBin gIx (cVar 1) (cC (.int 0))) (cBin gAdd (cVar 6) (cC (.int 1)))))))
theorem ld_loop (W : List Bool) (n m q : Nat) (ps : List (Nat × Nat)) (hl : ps.length ≤ 4000) : ∀ (todo done : List (Nat × Nat)) (bd : List (Nat × List Bool)) (pl : Nat) (k : Option D), done ++ todo = ps → bd.length = done.length →
    ∃ k', forL (.nm 6) ldB ((List.range' done.length todo.length).map fun i => nt (2 + 2 * i)) (D7 W (nn (n :: m :: flat ps)) q n m pl bd k) = .nx (D7 W (nn (n :: m :: flat ps)) q n m (pl + szs todo) (bd ++ prt W todo pl) k')
  | [], done, bd, pl, k, e, hb => by
    refine ⟨k, ?_⟩
    show SO.nx _ = SO.nx (D7 W _ q n m (pl + 0) (bd ++ []) k)
    rw [List.append_nil, Nat.add_zero]
  | p :: todo, done, bd, pl, k, e, hb => by
    obtain ⟨a1, a2⟩ := at_row n m done todo p
    rw [e] at a1 a2
    have hdl : done.length ≤ 4000 := by rw [← e, List.length_append] at hl; omega
    let b : Nat × List Bool := (p.1, (W.drop pl).take p.2)
    obtain ⟨k', e2⟩ := ld_loop W n m q ps hl todo (done ++ [p]) (bd ++ [b]) (pl + p.2) (some (nt (2 + 2 * done.length))) (by rw [List.append_assoc]; exact e) (by rw [List.length_append, List.length_append, hb]; rfl)
    rw [List.length_append, List.length_singleton, List.append_assoc, Nat.add_assoc] at e2
    generalize nn (n :: m :: flat ps) = H at *
    have i5 : ∀ (pl : Nat) (dn : List (Nat × List Bool)), cBin gIx (cBin gIx (cVar 1) (cC (.int 0))) (cBin gAdd (cVar 6) (cC (.int 1))) (D7 W H q n m pl dn (some (nt (2 + 2 * done.length)))) = .ok (.val (nt p.2)) (D7 W H q n m pl dn (some (nt (2 + 2 * done.length)))) := fun pl dn => by
      have ad := add_ok (fa := cVar 6) (fb := cC (.int 1)) (i := ((2 + 2 * done.length : Nat) : Int)) (j := 1) (r := D7 W H q n m pl dn (some (nt (2 + 2 * done.length)))) rfl rfl
      rw [show ((2 + 2 * done.length : Nat) : Int) + 1 = ((2 + 2 * done.length + 1 : Nat) : Int) by omega] at ad
      exact ixRk rfl ad a2
    have i4 := ixRk (q := q) (r := D7 W H q n m pl bd (some (nt (2 + 2 * done.length)))) (fb := cVar 6) rfl (cvar_at (i := 6) rfl rfl) a1
    have hi := add_ok (fa := cVar 4) (i := ((pl : Nat) : Int)) (r := D7 W H q n m pl bd (some (nt (2 + 2 * done.length)))) rfl (i5 pl bd)
    have sl := sl_ss (fa := cVar 0) (fl := cVar 4) (i := ((pl : Nat) : Int)) (x := .loc 0) (k := .lst) (o := false) (xs := (VL.bi W).map .int) (xs' := (VL.bi W).map .int) (r := D7 W H q n m pl bd (some (nt (2 + 2 * done.length)))) (VL.cvar_loc rfl rfl) rfl rfl inferInstance rfl hi (VH.touch_l (o := false) (k := .lst) (ys := (VL.bi W).map .int) rfl inferInstance) (by omega) (by omega)
    have es : (((VL.bi W).map D.int).drop ((pl : Nat) : Int).toNat).take ((((pl : Nat) : Int) + ((p.2 : Nat) : Int)).toNat - ((pl : Nat) : Int).toNat) = (VL.bi ((W.drop pl).take p.2)).map D.int := by
      rw [Int.toNat_natCast, show (((pl : Nat) : Int) + ((p.2 : Nat) : Int)).toNat - pl = p.2 by omega]
      unfold VL.bi
      rw [List.map_take, List.map_take, List.map_drop, List.map_drop]
    rw [es] at sl
    have t := tup_ok (ds := [nt p.1, BL true b.2]) (cons_ok (set_val i4) (cons_ok (set_val sl) (nil_ok _))) rfl (Nat.le_of_ble_eq_true rfl)
    have s1 : cExpr (cApp 5 (cTup (cCons (cSet (cBin gIx (cBin gIx (cVar 1) (cC (.int 0))) (cVar 6))) (cCons (cSet (cSl (cVar 0) (some (cVar 4)) (some (cBin gAdd (cVar 4) (cBin gIx (cBin gIx (cVar 1) (cC (.int 0))) (cBin gAdd (cVar 6) (cC (.int 1)))))))) cNil)))) (D7 W H q n m pl bd (some (nt (2 + 2 * done.length)))) = .nx (D7 W H q n m pl (bd ++ [b]) (some (nt (2 + 2 * done.length)))) := by
      refine VH.app_go (i := 5) (ds := bd.map to) rfl (set_val t) rfl (by rw [List.length_map]; omega) ?_
      rw [show bd.map to ++ [D.node .tup false [nt p.1, BL true b.2]] = (bd ++ [b]).map to by rw [List.map_append]; rfl]
      rfl
    have hi2 := add_ok (fa := cVar 4) (i := ((pl : Nat) : Int)) (r := D7 W H q n m pl (bd ++ [b]) (some (nt (2 + 2 * done.length)))) rfl (i5 pl (bd ++ [b]))
    rw [show ((pl : Nat) : Int) + ((p.2 : Nat) : Int) = ((pl + p.2 : Nat) : Int) by omega] at hi2
    have s2 := VH.asg_go (i := 4) (set_val hi2) (r2 := D7 W H q n m (pl + p.2) (bd ++ [b]) (some (nt (2 + 2 * done.length)))) rfl
    exact ⟨k', forL_c rfl (seq_go s1 s2) e2⟩

end K63.Lw

namespace K63.Lw
open VH K63
open K63.Pk
open K63.Bt (be rdN rds rdR nn lenNN)
theorem due_ok (W : List Bool) (hW : W.length ≤ 3900) : F__law_due [BL false W] = match rdC W with
    | some (n, m, bl) => .ok (CN false n m bl)
    | none => .ok .non := by
  have f := lrow_ok W (by omega)
  let r0 : Rho := [some (BL false W), none, none, none, none, none, none]
  unfold rowD at f
  unfold rdC
  cases e : rdR W 0 with
  | none =>
    rw [e] at f
    have c1 := VH.call_any (F := F__law_read_row) (n := 2) (xs := [.loc 0, .val (.int 0)]) (ds := [BL false W, .int 0]) (ds' := [BL false W, .int 0]) (fs := cCons (cVar 0) (cCons (cC (.int 0)) cNil)) (r := r0) (cons_ok (VL.cvar_loc rfl rfl) (cons_ok (cc_d _ _) (nil_ok _))) rfl inferInstance rfl f (by
      show [some (frz (BL false W)), _, _, _, _, _, _] = _
      rw [fz_BL])
    have s1 := VH.asg_go (i := 1) (set_val c1) (r2 := [some (BL false W), some .non, none, none, none, none, none]) rfl
    unfold F__law_due f__law_due
    exact runF_go (r := r0) (x := .val .non) rfl (seq_go s1 (VL.seq_rt (VH.ifs_y (b := true) (r1 := [some (BL false W), some .non, none, none, none, none, none]) (VH.or_yes (fa := cBin gIs (cVar 1) (cC .non)) (r := [some (BL false W), some .non, none, none, none, none, none]) rfl) rfl (ret_go rfl)))) rfl
  | some x =>
    obtain ⟨l, q⟩ := x
    rw [e] at f
    have hll : l.length ≤ 3900 := by
      have := (Bt.rdR_sound W hW 0 (Nat.zero_le _) l q e).2.2.2
      omega
    let r1 : Rho := [some (BL false W), some (RT (nn l) q), none, none, none, none, none]
    have c1 := VH.call_any (F := F__law_read_row) (n := 2) (xs := [.loc 0, .val (.int 0)]) (ds := [BL false W, .int 0]) (ds' := [BL false W, .int 0]) (fs := cCons (cVar 0) (cCons (cC (.int 0)) cNil)) (r := r0) (cons_ok (VL.cvar_loc rfl rfl) (cons_ok (cc_d _ _) (nil_ok _))) rfl inferInstance rfl f (by
      show [some (frz (BL false W)), _, _, _, _, _, _] = _
      rw [fz_BL])
    have s1 := VH.asg_go (i := 1) (set_val c1) (r2 := r1) rfl
    have i0 : cBin gIs (cVar 1) (cC .non) r1 = .ok (.val (.bl false)) r1 := VL.bin_ok (x := .loc 1) (y := .val .non) (VL.cvar_loc rfl rfl) rfl (VL.g2_ok rfl rfl rfl rfl)
    have ln := lenR (H := nn l) (q := q) (r := r1) rfl
    rw [lenNN] at ln
    have t2 := VH.or_go i0 (VH.or_b (lt_ok (fb := cC (.int 2)) (j := 2) ln rfl) (eq_ok (fb := cC (.int 1)) (j := 1) (mod_ok (fb := cC (.int 2)) (j := 2) ln rfl (by decide)) rfl))
    have bad : (decide (((l.length : Nat) : Int) < 2) || decide (((l.length : Nat) : Int) % 2 = 1)) = true → F__law_due [BL false W] = .ok .non := fun h => by
      unfold F__law_due f__law_due
      exact runF_go (r := r0) (x := .val .non) rfl (seq_go s1 (VL.seq_rt (VH.ifs_y t2 h (ret_go rfl)))) rfl
    rcases l with _ | ⟨n, _ | ⟨m, l⟩⟩
    · exact bad rfl
    · exact bad rfl
    · show F__law_due [BL false W] = match (if _ then _ else none : Option (Nat × Nat × List (Nat × List Bool))) with | some (n, m, bl) => _ | none => _
      by_cases hev : l.length % 2 = 0
      · rw [decide_eq_false (by simp only [List.length_cons]; omega), decide_eq_false (by simp only [List.length_cons]; omega)] at t2
        have hps : (unflat l).length * 2 = l.length := by
          have := flat_len (unflat l)
          rw [flat_un l hev] at this
          omega
        have hfl := flat_un l hev
        have hl2 : l.length ≤ 3898 := by simp only [List.length_cons] at hll; omega
        generalize unflat l = ps at *
        subst hfl
        have sl := sl_ns (fh := cC (.int 2)) (j := 2) (x := .val (IL false (nn (n :: m :: flat ps)))) (k := .lst) (o := false) (xs := (nn (n :: m :: flat ps)).map .int) (xs' := (nn (n :: m :: flat ps)).map .int) (r := r1) (ixR0 rfl) rfl rfl inferInstance rfl rfl (by decide)
        have sl : cSl (cBin gIx (cVar 1) (cC (.int 0))) none (some (cC (.int 2))) r1 = .ok (.val (.node .lst true [nt n, nt m])) r1 := sl
        let r2 : Rho := [some (BL false W), some (RT (nn (n :: m :: flat ps)) q), some (nt n), some (nt m), none, none, none]
        have s3 : cAsg (.tl [2, 3]) (cSl (cBin gIx (cVar 1) (cC (.int 0))) none (some (cC (.int 2)))) r1 = .nx r2 := VH.asgT_go (set_val sl) rfl
        have s4 := VH.asg_go (i := 4) (set_val (ixR1 (r := r2) (H := nn (n :: m :: flat ps)) (q := q) rfl)) (r2 := [some (BL false W), some (RT (nn (n :: m :: flat ps)) q), some (nt n), some (nt m), some (nt q), none, none]) rfl
        let r3 := D7 W (nn (n :: m :: flat ps)) q n m q [] none
        have s5 : cAsg (.nm 5) (cLst cNil) [some (BL false W), some (RT (nn (n :: m :: flat ps)) q), some (nt n), some (nt m), some (nt q), none, none] = .nx r3 := rfl
        obtain ⟨k', e6⟩ := ld_loop W n m q ps (by omega) ps [] [] q none rfl rfl
        rw [List.nil_append] at e6
        have ln6 := lenR (H := nn (n :: m :: flat ps)) (q := q) (r := r3) rfl
        rw [lenNN, show (n :: m :: flat ps).length = 2 + 2 * ps.length by rw [List.length_cons, List.length_cons, flat_len]; omega] at ln6
        have it := VH.it_rng3 (fa := cC (.int 2)) (fc := cC (.int 2)) (i := 2) (z := 2) (r := r3) rfl ln6 rfl (by
          rw [Bool.and_eq_true, Bool.and_eq_true]
          exact ⟨⟨rfl, rfl⟩, small_two _ (by omega)⟩)
        rw [rng2_two] at it
        have s6 := for_go (t := .nm 6) it e6
        let bl := prt W ps q
        have hbl : bl.length = ps.length := prt_len W ps q
        let r4 := D7 W (nn (n :: m :: flat ps)) q n m (q + szs ps) bl k'
        have t7a := ne_ok (fa := cVar 4) (i := ((q + szs ps : Nat) : Int)) (r := r4) rfl (len_B (B := W) (i := 0) (o := false) rfl)
        have t7b := lt_ok (fa := cVar 2) (fb := cC (.int 1)) (i := ((n : Nat) : Int)) (j := 1) (r := r4) rfl rfl
        have t7c := gt_ok (fa := cVar 2) (fb := cC (.int 64)) (i := ((n : Nat) : Int)) (j := 64) (r := r4) rfl rfl
        have t7d := gt_ok (fa := cVar 3) (fb := cC (.int 400)) (i := ((m : Nat) : Int)) (j := 400) (r := r4) rfl rfl
        have lb := VH.lenE_go (f := to) (xs := bl) (k := .lst) (o := true) (fa := cVar 5) (x := .loc 5) (r := r4) (VL.cvar_loc rfl rfl) rfl rfl
        have pre : ∀ {o : SO}, (cSeq (cIfS (cOr (cBin gNe (cVar 4) (cB (b1 lenD) (cCons (cVar 0) cNil))) (cOr (cBin gLt (cVar 2) (cC (.int 1))) (cOr (cBin gGt (cVar 2) (cC (.int 64))) (cOr (cBin gGt (cVar 3) (cC (.int 400))) (cBin gNe (cB (b1 lenD) (cCons (cVar 5) cNil)) (cBin gDiv (cBin gSub (cBin gAdd (cVar 3) (cVar 2)) (cC (.int 1))) (cVar 2))))))) (cRet (cC .non)) cSkip) (cRet (cTup (cCons (cSet (cVar 2)) (cCons (cSet (cVar 3)) (cCons (cSet (cVar 5)) cNil)))))) r4 = o → f__law_due r0 = o := fun {o} h => by
          unfold f__law_due
          exact seq_go s1 (seq_go (VH.ifs_n t2 rfl rfl) (seq_go s3 (seq_go s4 (seq_go s5 (seq_go s6 h)))))
        have no : ∀ {b : Bool} {r : Rho}, cOr (cBin gNe (cVar 4) (cB (b1 lenD) (cCons (cVar 0) cNil))) (cOr (cBin gLt (cVar 2) (cC (.int 1))) (cOr (cBin gGt (cVar 2) (cC (.int 64))) (cOr (cBin gGt (cVar 3) (cC (.int 400))) (cBin gNe (cB (b1 lenD) (cCons (cVar 5) cNil)) (cBin gDiv (cBin gSub (cBin gAdd (cVar 3) (cVar 2)) (cC (.int 1))) (cVar 2)))))) r4 = .ok (.val (.bl b)) r → b = true → F__law_due [BL false W] = .ok .non := fun h hb => by
          unfold F__law_due
          exact runF_go (r := r0) (x := .val .non) rfl (pre (VL.seq_rt (VH.ifs_y h hb (ret_go rfl)))) rfl
        by_cases hq : q + szs ps = W.length
        · rw [decide_eq_true (by omega)] at t7a
          by_cases hn : 1 ≤ n
          · have d := div_ok (fb := cVar 2) (j := ((n : Nat) : Int)) (sub_ok (fb := cC (.int 1)) (j := 1) (add_ok (fa := cVar 3) (fb := cVar 2) (i := ((m : Nat) : Int)) (j := ((n : Nat) : Int)) (r := r4) rfl rfl) rfl) rfl (by omega)
            by_cases h64 : n ≤ 64
            · have d := d (by omega)
              rw [show (((m : Nat) : Int) + ((n : Nat) : Int) - 1) / ((n : Nat) : Int) = ((ckn n m : Nat) : Int) by
                unfold ckn
                rw [show ((m : Nat) : Int) + ((n : Nat) : Int) - 1 = ((m + n - 1 : Nat) : Int) by omega]
                rfl] at d
              have t7 := VH.or_b t7a (VH.or_b t7b (VH.or_b t7c (VH.or_b t7d (ne_ok lb d))))
              by_cases hc : m ≤ 400 ∧ bl.length = ckn n m
              · rw [if_pos ⟨hev, hq, hn, h64, hc.1, by rw [← hbl]; exact hc.2⟩]
                rw [decide_eq_false (by omega), decide_eq_false (by omega), decide_eq_false (by omega), decide_eq_true (by omega)] at t7
                have sB : cSet (cVar 5) r4 = .ok (.val (BK false bl)) [some (BL false W), some (RT (nn (n :: m :: flat ps)) q), some (nt n), some (nt m), some (nt (q + szs ps)), some (BK false bl), k'] := set_loc (d := .node .lst true (bl.map to)) rfl rfl ⟨by
                  show D.node .lst false (frzs _) = _
                  rw [frzs_to]⟩ rfl
                have tt := tup_ok (ds := [nt n, nt m, BK false bl]) (cons_ok (set_val (cvar_at (i := 2) (r := r4) rfl rfl)) (cons_ok (set_val (cvar_at (i := 3) (r := r4) rfl rfl)) (cons_ok sB (nil_ok _)))) rfl (Nat.le_of_ble_eq_true rfl)
                unfold F__law_due
                exact runF_go (r := r0) rfl (pre (seq_go (VH.ifs_n t7 rfl rfl) (ret_go tt))) rfl
              · rw [if_neg (fun h => hc ⟨h.2.2.2.2.1, by rw [hbl]; exact h.2.2.2.2.2⟩)]
                refine no t7 ?_
                by_cases hm : m ≤ 400
                · rw [decide_eq_false (show ¬ (((bl.length : Nat) : Int) = ((ckn n m : Nat) : Int)) by omega), Bool.not_false, Bool.or_true, Bool.or_true, Bool.or_true, Bool.or_true]
                · rw [decide_eq_true (show ((m : Nat) : Int) > 400 by omega), Bool.true_or, Bool.or_true, Bool.or_true, Bool.or_true]
            · rw [if_neg (fun h => h64 h.2.2.2.1)]
              rw [decide_eq_true (by omega)] at t7c
              rw [decide_eq_false (by omega)] at t7b
              exact no (VH.or_go t7a (VH.or_go t7b (VH.or_yes t7c))) rfl
          · rw [if_neg (fun h => hn h.2.2.1)]
            rw [decide_eq_true (by omega)] at t7b
            exact no (VH.or_go t7a (VH.or_yes t7b)) rfl
        · rw [if_neg (fun h => hq h.2.1)]
          rw [decide_eq_false (by omega)] at t7a
          exact no (VH.or_yes t7a) rfl
      · rw [if_neg (fun h => hev h.1)]
        exact bad (by
          rw [decide_eq_true (show ((((n :: m :: l).length : Nat) : Int)) % 2 = 1 by simp only [List.length_cons]; omega), Bool.or_true])

end K63.Lw

namespace K63.Lw
open VH K63
open K63.Pk
theorem eqD_cn (o o' : Bool) (n m : Nat) (bl : List (Nat × List Bool)) : FP 4 (CN o n m bl) ∧ toPy (CN o n m bl) = toPy (CN o' n m bl) := by
  refine ⟨VL.fp_tup (k := 3) fun x hx => ?_, rfl⟩
  have hx : x = nt n ∨ x = nt m ∨ x = BK o bl := by simpa only [List.mem_cons, List.not_mem_nil, or_false] using hx
  rcases hx with e | e | e
  · rw [e]; exact VL.fp_int _ _
  · rw [e]; exact VL.fp_int _ _
  · rw [e]
    refine VL.fp_lst (k := 2) fun y hy => ?_
    obtain ⟨p, _, rfl⟩ := List.mem_map.mp hy
    refine VL.fp_tup (k := 1) fun z hz => ?_
    have hz : z = nt p.1 ∨ z = BL false p.2 := by simpa only [List.mem_cons, List.not_mem_nil, or_false] using hz
    rcases hz with e | e
    · rw [e]; exact VL.fp_int _ _
    · rw [e]; exact VL.fp_il false (VL.bi p.2)
instance (o o' : Bool) (n m : Nat) (bl : List (Nat × List Bool)) : Fz (CO o o' n m bl) (CN false n m bl) := ⟨fz_CO o o' n m bl⟩
theorem toPys_to : ∀ bl : List (Nat × List Bool), toPys (bl.map to) = toPys (bl.map tb)
  | [] => rfl
  | p :: bl => by
    show toPy (to p) :: toPys (bl.map to) = toPy (tb p) :: toPys (bl.map tb)
    rw [toPys_to bl]
    rfl
theorem eqD_fpC (n m : Nat) (bl : List (Nat × List Bool)) : VL.FP 4 (CO false true n m bl) ∧ toPy (CO false true n m bl) = toPy (CN false n m bl) := by
  refine ⟨VL.fp_tup (k := 3) fun x hx => ?_, ?_⟩
  · have hx : x = nt n ∨ x = nt m ∨ x = .node .lst true (bl.map to) := by simpa only [List.mem_cons, List.not_mem_nil, or_false] using hx
    rcases hx with e | e | e
    · rw [e]; exact VL.fp_int _ _
    · rw [e]; exact VL.fp_int _ _
    · rw [e]
      refine VL.fp_lst (k := 2) fun y hy => ?_
      obtain ⟨p, _, rfl⟩ := List.mem_map.mp hy
      refine VL.fp_tup (k := 1) fun z hz => ?_
      have hz : z = nt p.1 ∨ z = BL true p.2 := by simpa only [List.mem_cons, List.not_mem_nil, or_false] using hz
      rcases hz with e | e
      · rw [e]; exact VL.fp_int _ _
      · rw [e]; exact VL.fp_il true (VL.bi p.2)
  · have h := toPys_to bl
    simp only [toPy, toPys]
    rw [h]
theorem ne_co (n m : Nat) (bl : List (Nat × List Bool)) : neD (CO false true n m bl) (CN false n m bl) = some (.bl false) := VL.neD_same (eqD_fpC n m bl).1 (by decide) (eqD_fpC n m bl).2
theorem eq_co (n m : Nat) (bl : List (Nat × List Bool)) : eqD (CO false true n m bl) (CN false n m bl) = some (.bl true) := VL.eqD_same (eqD_fpC n m bl).1 (by decide) (eqD_fpC n m bl).2
theorem listOf_IL {r : Rho} {i : Nat} {o : Bool} {X : List Int} (h : r[i]? = some (some (IL o X))) : cB (gListOf) (cCons (cVar i) cNil) r = .ok (.val (IL true X)) r :=
  listOf_go (fa := cVar i) (x := .loc i) (o := o) (k := .lst) (xs := X.map .int) (xs' := X.map .int) (r := r) (VL.cvar_loc h rfl) (VL.opd_loc' h) rfl inferInstance (VH.touch_l (o := o) (k := .lst) (ys := X.map .int) h inferInstance)
theorem fzBK (bl : List (Nat × List Bool)) : frz (BK false bl) = BK false bl := by show D.node .lst false (frzs _) = _; rw [frzs_tb]
abbrev t2 (c : Int) (p : Nat × List Bool) : D := .node .tup false [nt p.1, .node .lst true ((VL.bi p.2).map .int ++ [.int c])]
abbrev t2f (c : Int) (p : Nat × List Bool) : D := .node .tup false [nt p.1, .node .lst false ((VL.bi p.2).map .int ++ [.int c])]
theorem appAll_to (c : Int) : ∀ bl : List (Nat × List Bool), (∀ p ∈ bl, p.2.length < 16777216) → appAll c (bl.map to) = some (bl.map (t2 c))
  | [], _ => rfl
  | p :: bl, h => by
    have e := appAll_to c bl fun q hq => h q (List.mem_cons_of_mem _ hq)
    have hp := h p List.mem_cons_self
    show (if ((VL.bi p.2).map D.int).length < 16777216 then (match appAll c (bl.map to) with | some es => some (t2 c p :: es) | none => none) else none) = _
    rw [if_pos (by rw [List.length_map, Pk.bi_len]; exact hp), e]
    rfl
theorem frz_t2 (c : Int) (p : Nat × List Bool) : frz (t2 c p) = t2f c p := by
  show D.node .tup false [D.int _, D.node .lst false (frzs _)] = _
  rw [show (VL.bi p.2).map D.int ++ [D.int c] = (VL.bi p.2 ++ [c]).map D.int by rw [List.map_append]; rfl, frzs_ints, List.map_append]
  rfl
theorem frzs_t2 (c : Int) (bl : List (Nat × List Bool)) : frzs (bl.map (t2 c)) = bl.map (t2f c) := by
  rw [frzs_map, List.map_map]
  exact List.map_congr_left fun p _ => frz_t2 c p
theorem frzs_t2f (c : Int) (bl : List (Nat × List Bool)) : frzs (bl.map (t2f c)) = bl.map (t2f c) := by
  rw [← frzs_t2, frzs_frzs]
theorem nin6 : (inD (.bl true) (.node .lst true [.bl false, .bl false, .bl false, .bl false, .bl false, .bl false])).map (fun b => D.bl (!b)) = some (.bl true) := by
  unfold inD
  have e : (eqOk (.bl true) && eqOk (.node .lst true [.bl false, .bl false, .bl false, .bl false, .bl false, .bl false])) = true := by
    decide +kernel
  show Option.map _ (if _ then _ else _) = _
  rw [if_pos e]
  have a : ([D.bl false, .bl false, .bl false, .bl false, .bl false, .bl false].any fun z => PyData.eqv (toPy z) (toPy (.bl true))) = false := by
    decide +kernel
  rw [a]; rfl
theorem toPys_t2 : ∀ bl : List (Nat × List Bool), toPys (bl.map (t2f 1)) = toPys (bl.map (t2 1))
  | [] => rfl
  | p :: bl => by
    show toPy (t2f 1 p) :: toPys (bl.map (t2f 1)) = toPy (t2 1 p) :: toPys (bl.map (t2 1))
    rw [toPys_t2 bl]
    rfl
theorem ne_t2 (bl : List (Nat × List Bool)) : neD (.node .lst false (bl.map (t2f 1))) (.node .lst true (bl.map (t2 1))) = some (.bl false) := VL.neD_same (k := 3) (VL.fp_lst (k := 2) fun y hy => by
  obtain ⟨p, _, rfl⟩ := List.mem_map.mp hy
  refine VL.fp_tup (k := 1) fun z hz => ?_
  have hz : z = nt p.1 ∨ z = .node .lst false ((VL.bi p.2).map .int ++ [.int 1]) := by simpa only [List.mem_cons, List.not_mem_nil, or_false] using hz
  rcases hz with e | e
  · rw [e]; exact VL.fp_int _ _
  · rw [e, show (VL.bi p.2).map D.int ++ [D.int 1] = (VL.bi p.2 ++ [1]).map D.int by rw [List.map_append]; rfl]; exact VL.fp_il false (VL.bi p.2 ++ [1])) (by decide) (by
  simp only [toPy]
  rw [toPys_t2])
theorem forApp2 {i a b : Nat} {c : Int} {r : Rho} {n m : Nat} {bz : List (Nat × List Bool)} (h : r[i]? = some (some (CO false true n m bz))) (hb : b < r.length) (hl : ∀ p ∈ bz, p.2.length < 16777216) :
    cForApp i [2] a b c r = .nx (if bz = [] then r else ((r.set i (some (.node .tup false [nt n, nt m, .node .lst true (bz.map (t2 c))]))).set a (some .any)).set b (some .any)) := by
  unfold cForApp
  simp only [h]
  have e : VL.atP [2] (CO false true n m bz) = some (.node .lst true (bz.map to)) := rfl
  simp only [e, appAll_to c bz hl, if_pos hb]
  by_cases z : bz = []
  · rw [if_pos z, if_pos (by rw [z]; rfl)]
  · rw [if_neg z, if_neg (fun y => z (List.map_eq_nil_iff.mp y))]
    rfl
theorem ixTup {r : Rho} {i n m : Nat} {d : D} (h : r[i]? = some (some (.node .tup false [nt n, nt m, d]))) (hf : frz d = d) (ha : atom d = false) : cBin gIx (cVar i) (cC (.int 2)) r = .ok (.val d) r :=
  ix_go (n := 2) (x := .loc i) (k := .tup) (o := false) (xs := [nt n, nt m, d]) (d := d) (VL.cvar_loc h rfl) rfl (VL.opd_loc' h) rfl rfl ⟨hf⟩ (VH.touch_l (o := false) (k := .tup) (ys := [nt n, nt m, d]) h ⟨by show [nt n, nt m, frz d] = _; rw [hf]⟩) (fun h => absurd (ha.symm.trans h) (by decide))
end K63.Lw

namespace K63.Lw
open VH K63
open K63.Pk
open K63.Bt (be rdN rds rdR nn lenNN)
abbrev R7 (W : List Bool) (ca fo ha e du ot : Option D) : Rho := [some (BL false W), ca, fo, ha, e, du, ot]
theorem listOf_BL {r : Rho} {i : Nat} {o : Bool} {W : List Bool} (h : r[i]? = some (some (BL o W))) : cB (gListOf) (cCons (cVar i) cNil) r = .ok (.val (BL true W)) r := listOf_IL (X := VL.bi W) h
theorem ne_B (o o' : Bool) (W : List Bool) : neD (BL o W) (BL o' W) = some (.bl false) := by
  have h := VL.ne_lints (o := o) (o' := o') (VL.bi W) (VL.bi W)
  rw [decide_eq_true rfl] at h
  exact h
theorem fto (bl : List (Nat × List Bool)) : frz (.node .lst true (bl.map to)) = BK false bl := by
  show D.node .lst false (frzs _) = _
  rw [frzs_to]
theorem read_ok (W : List Bool) (hW : W.length ≤ 3900) : F__law_read [BL false W] = .ok (.bl true) := by
  have fr := readAny W hW
  have fd := due_ok W hW
  let HA : Option D := some (BL true W)
  have s3 := VH.asg_go (i := 3) (set_val (listOf_BL (i := 0) (o := false) (W := W) (r := R7 W (some .non) (some .non) none none none none) rfl)) (r2 := R7 W (some .non) (some .non) HA none none none) rfl
  cases e : rdC W with
  | some x =>
    obtain ⟨n, m, bl⟩ := x
    rw [e] at fr fd
    have c4 := VH.call_go (F := F_read_container) (n := 1) (xs := [.loc 3]) (ds := [BL true W]) (ds' := [BL false W]) (fs := cCons (cVar 3) cNil) (r := R7 W (some .non) (some .non) HA none none none) (cons_ok (VL.cvar_loc rfl rfl) (nil_ok _)) rfl ⟨by show [frz (BL true W)] = _; rw [fz_BL]⟩ rfl fr inferInstance
    let FO : Option D := some (CO false true n m bl)
    have s4 := VH.try_no (tb := tbOf tab 0) (jj := some 4) (g := cAsg (.nm 1) (cVar 4)) (VH.asg_go (i := 2) (set_val c4) (r2 := R7 W (some .non) FO HA none none none) rfl)
    have c5 := VH.call_any (F := F__law_due) (n := 1) (xs := [.loc 0]) (ds := [BL false W]) (ds' := [BL false W]) (fs := cCons (cVar 0) cNil) (r := R7 W (some .non) FO HA none none none) (cons_ok (VL.cvar_loc rfl rfl) (nil_ok _)) rfl inferInstance rfl fd (by
      show [some (frz (BL false W)), _, _, _, _, _, _] = _
      rw [fz_BL])
    let E := R7 W (some .non) FO HA none (some (CN false n m bl)) none
    have s5 := VH.asg_go (i := 5) (set_val c5) (r2 := E) rfl
    have t6 := VH.neD_go (fa := cVar 3) (fb := cVar 0) (x := .loc 3) (y := .loc 0) (r := E) (VL.cvar_loc rfl rfl) (VL.cvar_loc rfl rfl) rfl rfl (ne_B true false W)
    have t7 : cBin gIsNot (cVar 5) (cC .non) E = .ok (.val (.bl true)) E := VL.bin_ok (x := .loc 5) (y := .val .non) (VL.cvar_loc rfl rfl) rfl (VL.g2_ok rfl rfl rfl rfl)
    have a1 : cBin gIs (cVar 1) (cC .non) E = .ok (.val (.bl true)) E := rfl
    have a2 := VH.isi_go (fa := cVar 2) (x := .loc 2) (n := "tuple") (E := etab tab) (b := true) (r := E) (VL.cvar_loc rfl rfl) rfl rfl
    have a3 := VH.eqD_go (fa := cVar 2) (fb := cVar 5) (x := .loc 2) (y := .loc 5) (r := E) (VL.cvar_loc rfl rfl) (VL.cvar_loc rfl rfl) rfl rfl (eq_co n m bl)
    have i4 : cBin gIx (cVar 2) (cC (.int 2)) E = .ok (.val (BK false bl)) (R7 W (some .non) (some (CN false n m bl)) HA none (some (CN false n m bl)) none) := ix_go (n := 2) (x := .loc 2) (k := .tup) (o := false) (xs := [nt n, nt m, .node .lst true (bl.map to)]) (d := .node .lst true (bl.map to)) (VL.cvar_loc rfl rfl) rfl rfl rfl rfl ⟨fto bl⟩ (by show R7 W (some .non) (some (.node .tup false [nt n, nt m, frz (.node .lst true (bl.map to))])) HA none (some (CN false n m bl)) none = _; rw [fto]) (fun h => by cases h)
    have a4 := VH.isi_go (n := "list") (E := etab tab) (b := true) i4 rfl rfl
    unfold F__law_read f__law_read
    exact runF_go (r := R7 W none none none none none none) rfl (seq_go (r1 := R7 W (some .non) none none none none none) rfl (seq_go (r1 := R7 W (some .non) (some .non) none none none none) rfl (seq_go s3 (seq_go s4 (seq_go s5 (seq_go (VH.ifs_n t6 rfl rfl) (VL.seq_rt (VH.ifs_y t7 rfl (ret_go (and_go a1 (and_go a2 (and_go a3 a4))))))))))) ) rfl
  | none =>
    rw [e] at fr fd
    have c4 := VH.call_exc (F := F_read_container) (n := 1) (xs := [.loc 3]) (ds := [BL true W]) (ds' := [BL false W]) (fs := cCons (cVar 3) cNil) (r := R7 W (some .non) (some .non) HA none none none) (cons_ok (VL.cvar_loc rfl rfl) (nil_ok _)) rfl ⟨by show [frz (BL true W)] = _; rw [fz_BL]⟩ rfl fr
    let X : Option D := some (.exc 4)
    have s4 : cTry (tbOf tab 0) (some 4) (cAsg (.nm 2) (cCall 1 F_read_container (cCons (cVar 3) cNil))) (cAsg (.nm 1) (cVar 4)) (R7 W (some .non) (some .non) HA none none none) = .nx (R7 W X (some .non) HA none none none) := VH.try_go (VH.asg_exc c4) (show tbOf tab 0 4 = some true by decide +kernel) rfl (r3 := R7 W X (some .non) HA X none none) rfl rfl
    have c5 := VH.call_go (F := F__law_due) (n := 1) (xs := [.loc 0]) (ds := [BL false W]) (ds' := [BL false W]) (fs := cCons (cVar 0) cNil) (r := R7 W X (some .non) HA none none none) (cons_ok (VL.cvar_loc rfl rfl) (nil_ok _)) rfl inferInstance rfl fd ⟨rfl⟩
    let E := fun ot => R7 W X (some .non) HA none (some .non) ot
    have s5 := VH.asg_go (i := 5) (set_val c5) (r2 := E none) rfl
    have t6 := VH.neD_go (fa := cVar 3) (fb := cVar 0) (x := .loc 3) (y := .loc 0) (r := E none) (VL.cvar_loc rfl rfl) (VL.cvar_loc rfl rfl) rfl rfl (ne_B true false W)
    have t7 : cBin gIsNot (cVar 5) (cC .non) (E none) = .ok (.val (.bl false)) (E none) := rfl
    let O3 : Option D := some (.node .lst true [.bl false, .bl false, .bl false])
    let O6 : Option D := some (.node .lst true [.bl false, .bl false, .bl false, .bl false, .bl false, .bl false])
    have s8 : cAsg (.nm 6) (cLst (cCons (cSet (cB (gIsi (etab tab)) (cCons (cVar 1) (cCons (cC (.cls 2)) cNil)))) (cCons (cSet (cB (gIsi (etab tab)) (cCons (cVar 1) (cCons (cC (.cls 6)) cNil)))) (cCons (cSet (cB (gIsi (etab tab)) (cCons (cVar 1) (cCons (cC (.cls 1)) cNil)))) cNil)))) (E none) = .nx (E O3) := rfl
    have l9 : cLst (cCons (cSet (cB (gIsi (etab tab)) (cCons (cVar 1) (cCons (cC (.cls 3)) cNil)))) (cCons (cSet (cB (gIsi (etab tab)) (cCons (cVar 1) (cCons (cC (.cls 7)) cNil)))) (cCons (cSet (cB (gIsi (etab tab)) (cCons (cVar 1) (cCons (cC (.cls 5)) cNil)))) cNil))) (E O3) = .ok (.val (.node .lst true [.bl false, .bl false, .bl false])) (E O3) := rfl
    have a9 := bin_ok (cvar_loc (i := 6) (d := .node .lst true [.bl false, .bl false, .bl false]) rfl rfl) l9 (add_fz (xs := [.bl false, .bl false, .bl false]) (ys := [.bl false, .bl false, .bl false]) rfl rfl rfl rfl (by decide) rfl rfl)
    have s9 := VH.asg_go (i := 6) (set_val a9) (r2 := E O6) rfl
    have i1 : cB (gIsi (etab tab)) (cCons (cVar 1) (cCons (cC (.cls 4)) cNil)) (E O6) = .ok (.val (.bl true)) (E O6) := rfl
    have i2 : cB (gIsi (etab tab)) (cCons (cVar 1) (cCons (cC (.ty "ValueError")) cNil)) (E O6) = .ok (.val (.bl true)) (E O6) := rfl
    have i3 : cBin gNotIn (cC (.bl true)) (cVar 6) (E O6) = .ok (.val (.bl true)) (E O6) := g2_go (fa := cC (.bl true)) (fb := cVar 6) rfl (VL.cvar_loc rfl rfl) rfl rfl nin6 rfl
    unfold F__law_read f__law_read
    exact runF_go (r := R7 W none none none none none none) rfl (seq_go (r1 := R7 W (some .non) none none none none none) rfl (seq_go (r1 := R7 W (some .non) (some .non) none none none none) rfl (seq_go s3 (seq_go s4 (seq_go s5 (seq_go (VH.ifs_n t6 rfl rfl) (seq_go (VH.ifs_n t7 rfl rfl) (seq_go s8 (seq_go s9 (ret_go (and_go i1 (and_go i2 i3)))))))))))) rfl

end K63.Lw

namespace K63.Lw
open VH K63
open K63.Pk K63.Un
abbrev hd (p : Nat × List Bool) : Int × Int := (((p.1 : Nat) : Int), ((p.2.length : Nat) : Int))
def hdC (n m : Nat) (bl : List (Nat × List Bool)) : List Int := [((n : Nat) : Int), ((m : Nat) : Int)] ++ str (bl.map hd)
def catC (bl : List (Nat × List Bool)) : List Bool := (bl.map (·.2)).flatten
def wrC (n m : Nat) (bl : List (Nat × List Bool)) : List Bool := rowB (hdC n m bl) ++ catC bl
theorem str_appC (a b : List (Int × Int)) : str (a ++ b) = str a ++ str b := by
  unfold str
  rw [List.map_append, List.flatten_append]
theorem hdC_len (n m : Nat) (bl : List (Nat × List Bool)) : (hdC n m bl).length = 2 + 2 * bl.length := by
  show ([((n : Nat) : Int), ((m : Nat) : Int)] ++ str (bl.map hd)).length = _
  rw [List.length_append, str_len, List.length_map]; rfl
theorem catC_app (a b : List (Nat × List Bool)) : catC (a ++ b) = catC a ++ catC b := by
  unfold catC
  rw [List.map_append, List.flatten_append]
def SmC (bl : List (Nat × List Bool)) : Prop := bl.length ≤ 400 ∧ (∀ p ∈ bl, p.1 < 1000000000) ∧ (catC bl).length ≤ 500000
theorem mem_cat_len {bl : List (Nat × List Bool)} {p : Nat × List Bool} (h : p ∈ bl) : p.2.length ≤ (catC bl).length := by
  obtain ⟨a, b, rfl⟩ := List.append_of_mem h
  rw [catC_app, List.length_append, show catC (p :: b) = p.2 ++ catC b from rfl, List.length_append]
  omega
theorem hdC_bd {n m : Nat} {bl : List (Nat × List Bool)} (s : SmC bl) (hn : n < 1000000000) (hm : m < 1000000000) : ∀ x ∈ hdC n m bl, 0 ≤ x ∧ x < 1000000000 := fun x hx => by
  have hx : x ∈ [((n : Nat) : Int), ((m : Nat) : Int)] ++ str (bl.map hd) := hx
  rcases List.mem_append.mp hx with hx | hx
  · simp only [List.mem_cons, List.not_mem_nil, or_false] at hx
    omega
  · unfold str at hx
    obtain ⟨q, hq, hx⟩ := List.mem_flatten.mp hx
    obtain ⟨z, hz, rfl⟩ := List.mem_map.mp hq
    obtain ⟨p, hp, rfl⟩ := List.mem_map.mp hz
    have h1 := s.2.1 p hp
    have h2 := mem_cat_len hp
    have h3 := s.2.2
    have hx : x ∈ [((p.1 : Nat) : Int), ((p.2.length : Nat) : Int)] := hx
    simp only [List.mem_cons, List.not_mem_nil, or_false] at hx
    omega
theorem wr_len {n m : Nat} {bl : List (Nat × List Bool)} (s : SmC bl) (hn : n < 1000000000) (hm : m < 1000000000) : (wrC n m bl).length < 600000 ∧ (rowB (hdC n m bl)).length < 100000 := by
  have hl := hdC_len n m bl
  have h400 := s.1
  have h1 := rowB_len (hdC_bd s hn hm) (by omega)
  have h3 := s.2.2
  unfold wrC
  rw [List.length_append]
  omega
abbrev W8 (n m : Nat) (bl : List (Nat × List Bool)) (nu : List Int) (be : List Bool) (w b : Option D) : Rho := [some (CN false n m bl), some (nt n), some (nt m), some (BK false bl), some (IL true nu), some (BL true be), w, b]
theorem cb_loop (n m : Nat) (b0 : List (Nat × List Bool)) : ∀ (bl done : List (Nat × List Bool)) (w b : Option D), (done ++ bl).length ≤ 400 → (catC (done ++ bl)).length ≤ 500000 → ∃ w' b', forL (.tp [6, 7]) (cSeq (cExpr (cExt 4 (cLst (cCons (cSet (cVar 6)) (cCons (cSet (cB (b1 lenD) (cCons (cVar 7) cNil))) cNil))))) (cExpr (cExt 5 (cVar 7)))) (bl.map tb) (W8 n m b0 (hdC n m done) (catC done) w b) = .nx (W8 n m b0 (hdC n m (done ++ bl)) (catC (done ++ bl)) w' b')
  | [], done, w, b, _, _ => ⟨w, b, by rw [List.append_nil]; rfl⟩
  | p :: bl, done, w, b, h1, h2 => by
    obtain ⟨w', b', e⟩ := cb_loop n m b0 bl (done ++ [p]) (some (nt p.1)) (some (BL false p.2)) (by rw [List.append_assoc]; exact h1) (by rw [List.append_assoc]; exact h2)
    rw [List.append_assoc] at e
    have hl := hdC_len n m done
    have h1' : done.length + (bl.length + 1) ≤ 400 := by rw [List.length_append, List.length_cons] at h1; exact h1
    have h2' : (catC done).length + p.2.length ≤ 500000 := by
      rw [catC_app, List.length_append, show catC (p :: bl) = p.2 ++ catC bl from rfl, List.length_append] at h2
      omega
    have ln := len_B (B := p.2) (i := 7) (o := false) (r := W8 n m b0 (hdC n m done) (catC done) (some (nt p.1)) (some (BL false p.2))) rfl
    have l := VH.lst_ok (ds := [nt p.1, nt p.2.length]) (cons_ok (set_val (cvar_at (i := 6) (d := nt p.1) rfl rfl)) (cons_ok (set_val ln) (nil_ok _))) rfl (Nat.le_of_ble_eq_true rfl)
    have s1 : cExpr (cExt 4 (cLst (cCons (cSet (cVar 6)) (cCons (cSet (cB (b1 lenD) (cCons (cVar 7) cNil))) cNil)))) (W8 n m b0 (hdC n m done) (catC done) (some (nt p.1)) (some (BL false p.2))) = .nx (W8 n m b0 (hdC n m (done ++ [p])) (catC done) (some (nt p.1)) (some (BL false p.2))) := by
      refine ext_go (o := true) (es := [nt p.1, nt p.2.length]) (es' := [nt p.1, nt p.2.length]) (ds := (hdC n m done).map .int) (ds' := (hdC n m done).map .int) rfl l rfl rfl rfl inferInstance inferInstance (by rw [List.length_map]; show _ + 2 ≤ _; omega) ?_
      have e2 : hdC n m (done ++ [p]) = hdC n m done ++ [((p.1 : Nat) : Int), ((p.2.length : Nat) : Int)] := by
        show _ ++ str ((done ++ [p]).map hd) = (_ ++ str (done.map hd)) ++ _
        rw [List.map_append, str_appC, ← List.append_assoc]
        rfl
      rw [e2, show ((hdC n m done).map D.int ++ [nt p.1, nt p.2.length]) = (hdC n m done ++ [((p.1 : Nat) : Int), ((p.2.length : Nat) : Int)]).map D.int by rw [List.map_append]; rfl]
      rfl
    have s2 : cExpr (cExt 5 (cVar 7)) (W8 n m b0 (hdC n m (done ++ [p])) (catC done) (some (nt p.1)) (some (BL false p.2))) = .nx (W8 n m b0 (hdC n m (done ++ [p])) (catC (done ++ [p])) (some (nt p.1)) (some (BL false p.2))) := by
      refine ext_go (o := false) (x := .loc 7) (es := (VL.bi p.2).map .int) (es' := (VL.bi p.2).map .int) (ds := (VL.bi (catC done)).map .int) (ds' := (VL.bi (catC done)).map .int) rfl (VL.cvar_loc rfl rfl) rfl (VH.touch_l (o := false) (k := .lst) (ys := (VL.bi p.2).map .int) rfl inferInstance) rfl inferInstance inferInstance (by rw [List.length_map, List.length_map, Pk.bi_len, Pk.bi_len]; omega) ?_
      rw [← List.map_append, ← Pk.bi_app, catC_app, show catC [p] = p.2 from List.append_nil _]
      rfl
    exact ⟨w', b', forL_c rfl (seq_go s1 s2) e⟩
theorem bits_ok {n m : Nat} {bl : List (Nat × List Bool)} (hn : 1 ≤ n) (h64 : n ≤ 64) (hm : m ≤ 400) (hl : bl.length = ckn n m) (s : SmC bl) : F_container_bits [CN false n m bl] = .ok (BL true (wrC n m bl)) := by
  have hw := wr_len (n := n) (m := m) s (by omega) (by omega)
  have hdl := hdC_len n m bl
  have h400 := s.1
  have c1 : cCall 1 F_need_container (cCons (cVar 0) cNil) [some (CN false n m bl), none, none, none, none, none, none, none] = .ok (.val .non) [some (CN false n m bl), none, none, none, none, none, none, none] := VH.call_go (xs := [.loc 0]) (ds := [CN false n m bl]) (ds' := [CN false n m bl]) (cons_ok (VL.cvar_loc rfl rfl) (nil_ok _)) rfl ⟨by show [frz (CN false n m bl)] = _; rw [fz_CN]⟩ rfl (needC_ok hn h64 hm hl) inferInstance
  have s2 : cAsg (.tp [1, 2, 3]) (cVar 0) [some (CN false n m bl), none, none, none, none, none, none, none] = .nx [some (CN false n m bl), some (nt n), some (nt m), some (BK false bl), none, none, none, none] := VH.asgT_go (set_CN rfl rfl) rfl
  obtain ⟨w', b', e⟩ := cb_loop n m bl bl [] none none (by rw [List.nil_append]; exact s.1) (by rw [List.nil_append]; exact s.2.2)
  rw [List.nil_append] at e
  have it : iLst (cVar 3) (W8 n m bl (hdC n m []) (catC []) none none) = .ok (bl.map tb) (W8 n m bl (hdC n m []) (catC []) none none) := it_lstG (o := false) (k := .lst) (set_loc (d := BK false bl) rfl rfl ⟨by show D.node .lst false (frzs _) = _; rw [frzs_tb]⟩ rfl) rfl
  have c6 := VH.call_go (F := F_row_bits) (n := 1) (xs := [.loc 4]) (ds := [IL true (hdC n m bl)]) (ds' := [IL false (hdC n m bl)]) (r := W8 n m bl (hdC n m bl) (catC bl) w' b') (fs := cCons (cVar 4) cNil) (cons_ok (VL.cvar_loc rfl rfl) (nil_ok _)) rfl inferInstance rfl (row_k (hdC_bd s (by omega) (by omega)) (by omega)) inferInstance
  have q := addL_go (fb := cVar 5) (x := .val (BL true (rowB (hdC n m bl)))) (y := .loc 5) (o := true) (o' := true) (xs := (VL.bi (rowB (hdC n m bl))).map .int) (ys := (VL.bi (catC bl)).map .int) (xs' := (VL.bi (rowB (hdC n m bl))).map .int) (ys' := (VL.bi (catC bl)).map .int) c6 (VL.cvar_loc rfl rfl) rfl rfl inferInstance inferInstance (by
    rw [List.length_map, List.length_map, Pk.bi_len, Pk.bi_len]
    have := s.2.2
    omega) (VH.touch_l (o := true) (k := .lst) (ys := (VL.bi (catC bl)).map .int) rfl inferInstance) rfl
  rw [← List.map_append, ← Pk.bi_app] at q
  unfold F_container_bits f_container_bits
  exact runF_go (r := [some (CN false n m bl), none, none, none, none, none, none, none]) (x := .val (BL true (wrC n m bl))) rfl (seq_go (VH.expr_go c1) (seq_go s2 (seq_go (r1 := [some (CN false n m bl), some (nt n), some (nt m), some (BK false bl), some (IL true (hdC n m [])), none, none, none]) rfl (seq_go (r1 := W8 n m bl (hdC n m []) (catC []) none none) rfl (seq_go (for_go it e) (ret_go q)))))) rfl

end K63.Lw

namespace K63.Lw
open VH K63
open K63.Pk
theorem le_loop : ∀ (k m n : Nat) (acc : List Bool), n < 2 ^ k → k < m → acc.length + k < 16777216 → whileL (cBin gGt (cVar 0) (cC (.int 0))) (cSeq (cAsg (.nm 1) (cBin gAdd (cLst (cCons (cSet (cBin gMod (cVar 0) (cC (.int 2)))) cNil)) (cVar 1))) (cAsg (.nm 0) (cBin gDiv (cVar 0) (cC (.int 2))))) m [some (nt n), some (BL true acc)] = .nx [some (nt 0), some (BL true ((figs n).reverse ++ acc))]
  | k, 0, n, acc, _, h, _ => absurd h (Nat.not_lt_zero _)
  | k, m + 1, n, acc, h, hm, ha => by
    have g := gt_ok (fa := cVar 0) (fb := cC (.int 0)) (i := ((n : Nat) : Int)) (j := 0) (r := [some (nt n), some (BL true acc)]) rfl rfl
    by_cases h0 : n = 0
    · subst h0
      rw [decide_eq_false (by omega)] at g
      rw [figs_zero]
      exact VH.wh_n g rfl
    · rw [decide_eq_true (by omega)] at g
      cases k with
      | zero => simp at h; omega
      | succ k =>
        have e := le_loop k m (n / 2) ((n % 2 == 1) :: acc) (by rw [Nat.pow_succ] at h; omega) (by omega) (by rw [List.length_cons]; omega)
        have md := mod_ok (fa := cVar 0) (fb := cC (.int 2)) (i := ((n : Nat) : Int)) (j := 2) (r := [some (nt n), some (BL true acc)]) rfl rfl (by decide)
        have ev : ((n : Nat) : Int) % 2 = ((n % 2 == 1).toNat : Int) := by
          rcases Nat.mod_two_eq_zero_or_one n with z | z
          · rw [z]; show _ = (0 : Int); omega
          · rw [z]; show _ = (1 : Int); omega
        rw [ev] at md
        have l := VH.lst_ok (ds := [.int ((n % 2 == 1).toNat : Int)]) (cons_ok (set_val md) (nil_ok _)) rfl (Nat.le_of_ble_eq_true rfl)
        have a := addL_go (fb := cVar 1) (y := .loc 1) (o := true) (o' := true) (xs := [.int ((n % 2 == 1).toNat : Int)]) (ys := (VL.bi acc).map .int) (xs' := [.int ((n % 2 == 1).toNat : Int)]) (ys' := (VL.bi acc).map .int) l (VL.cvar_loc rfl rfl) rfl rfl inferInstance inferInstance (by rw [List.length_map, Pk.bi_len]; show 1 + _ ≤ _; omega) (VH.touch_l (o := true) (k := .lst) (ys := (VL.bi acc).map .int) rfl inferInstance) rfl
        have s1 := VH.asg_go (i := 1) (set_val a) (r2 := [some (nt n), some (BL true ((n % 2 == 1) :: acc))]) rfl
        have dv := div_ok (fa := cVar 0) (fb := cC (.int 2)) (i := ((n : Nat) : Int)) (j := 2) (r := [some (nt n), some (BL true ((n % 2 == 1) :: acc))]) rfl rfl (by decide) (by decide)
        rw [show ((n : Nat) : Int) / 2 = ((n / 2 : Nat) : Int) by omega] at dv
        have s2 := VH.asg_go (i := 0) (set_val dv) (r2 := [some (nt (n / 2)), some (BL true ((n % 2 == 1) :: acc))]) rfl
        rw [figs_pos h0, List.reverse_cons, List.append_assoc]
        exact VH.wh_y g rfl (seq_go s1 s2) e
theorem lend_w (n : Nat) (hn : n < 2 ^ 4000) (h : n ≠ 0) : F__law_ending [nt n] = .ok (BL true (Bt.enc n)) := by
  have hf := figs_len hn
  have hp : (figs n).length ≠ 0 := by rw [figs_pos h]; simp
  have s1 : cAsg (.nm 1) (cLst cNil) [some (nt n), none] = .nx [some (nt n), some (BL true [])] := rfl
  have s2 := le_loop 4000 fuel n [] hn (VH.lt_fuel (by decide)) (by decide)
  rw [List.append_nil] at s2
  have le := len_B (B := (figs n).reverse) (i := 1) (o := true) (r := [some (nt 0), some (BL true (figs n).reverse)]) rfl
  rw [List.length_reverse] at le
  have sb := sub_ok (fb := cC (.int 1)) (j := 1) le rfl
  have he : Bt.enc n = List.replicate ((figs n).length - 1) false ++ (figs n).reverse := rfl
  have hl2 : (figs n).reverse.length = (figs n).length := List.length_reverse
  rw [he]
  generalize hj : (figs n).length - 1 = j
  rw [show (((figs n).length : Nat) : Int) - 1 = ((j : Nat) : Int) by omega] at sb
  have ml := VH.mulL_go (fa := cLst (cCons (cSet (cC (.int 0))) cNil)) (n := ((j : Nat) : Int)) (xs := [.int 0]) (xs' := [.int 0]) (VH.lst_ok (ds := [.int 0]) (cons_ok (set_val (cc_d (.int 0) _)) (nil_ok _)) rfl (Nat.le_of_ble_eq_true rfl)) sb inferInstance (by omega) (by omega) (by rw [List.length_singleton, Int.toNat_natCast]; omega)
  have e0 : (List.replicate (((j : Nat) : Int)).toNat [D.int 0]).flatten = (VL.bi (List.replicate j false)).map .int := by
    rw [Int.toNat_natCast]
    exact Bt.rep_zero j
  rw [e0] at ml
  have ad := addL_go (fb := cVar 1) (y := .loc 1) (o := true) (o' := true) (xs := (VL.bi (List.replicate j false)).map .int) (ys := (VL.bi (figs n).reverse).map .int) (xs' := (VL.bi (List.replicate j false)).map .int) (ys' := (VL.bi (figs n).reverse).map .int) ml (VL.cvar_loc rfl rfl) rfl rfl inferInstance inferInstance (by rw [List.length_map, List.length_map, Pk.bi_len, Pk.bi_len, List.length_replicate]; omega) (VH.touch_l (o := true) (k := .lst) (ys := (VL.bi (figs n).reverse).map .int) rfl inferInstance) rfl
  rw [← List.map_append, ← Pk.bi_app] at ad
  unfold F__law_ending f__law_ending
  exact runF_go (r := [some (nt n), none]) rfl (seq_go s1 (seq_go s2 (ret_go ad))) rfl
theorem lw_loop (A : D) : ∀ (ms : List Nat) (acc : List Bool) (u : Option D), acc.length + 8000 * ms.length ≤ 16777216 → (∀ m ∈ ms, m + 1 < 2 ^ 4000) → ∃ u', forL (.nm 2) (cAsg (.nm 1) (cBin gAdd (cVar 1) (cCall 1 F__law_ending (cCons (cBin gAdd (cVar 2) (cC (.int 1))) cNil)))) ((Bt.nn ms).map .int) [some A, some (BL true acc), u] = .nx [some A, some (BL true (acc ++ Bt.encs ms)), u']
  | [], acc, u, _, _ => ⟨u, by
    show SO.nx _ = SO.nx [_, some (BL true (acc ++ [])), _]
    rw [List.append_nil]⟩
  | m :: ms, acc, u, hl, hm => by
    have hm0 := hm m List.mem_cons_self
    have hel := Bt.enc_le hm0
    obtain ⟨u', e⟩ := lw_loop A ms (acc ++ Bt.enc (m + 1)) (some (nt m)) (by rw [List.length_append]; rw [List.length_cons] at hl; omega) fun k hk => hm k (List.mem_cons_of_mem _ hk)
    have ad := add_ok (fa := cVar 2) (fb := cC (.int 1)) (i := ((m : Nat) : Int)) (j := 1) (r := [some A, some (BL true acc), some (nt m)]) rfl rfl
    rw [show ((m : Nat) : Int) + 1 = ((m + 1 : Nat) : Int) by omega] at ad
    have c := VH.call_go (F := F__law_ending) (n := 1) (xs := [.val (nt (m + 1))]) (ds := [nt (m + 1)]) (ds' := [nt (m + 1)]) (cons_ok ad (nil_ok _)) rfl inferInstance rfl (lend_w (m + 1) hm0 (by omega)) inferInstance
    have a := addL_go (fa := cVar 1) (x := .loc 1) (o := true) (o' := true) (xs := (VL.bi acc).map .int) (ys := (VL.bi (Bt.enc (m + 1))).map .int) (xs' := (VL.bi acc).map .int) (ys' := (VL.bi (Bt.enc (m + 1))).map .int) (VL.cvar_loc rfl rfl) c rfl rfl inferInstance inferInstance (by rw [List.length_map, List.length_map, Pk.bi_len, Pk.bi_len]; rw [List.length_cons] at hl; omega) rfl (VH.touch_l (o := true) (k := .lst) (ys := (VL.bi acc).map .int) rfl inferInstance)
    rw [← List.map_append, ← Pk.bi_app] at a
    have s := VH.asg_go (i := 1) (set_val a) (r2 := [some A, some (BL true (acc ++ Bt.enc (m + 1))), some (nt m)]) rfl
    have ee : acc ++ Bt.encs (m :: ms) = acc ++ Bt.enc (m + 1) ++ Bt.encs ms := by
      rw [List.append_assoc]; rfl
    rw [ee]
    exact ⟨u', forL_c (r1 := [some A, some (BL true acc), some (nt m)]) rfl s e⟩
theorem lrow_w (ns : List Nat) (hl : ns.length ≤ 2000) (hm : ∀ m ∈ ns, m + 1 < 2 ^ 4000) : F__law_row [IL false (Bt.nn ns)] = .ok (BL true (Bt.encR ns)) := by
  have ln := len_I (R := Bt.nn ns) (i := 0) (o := false) (r := [some (IL false (Bt.nn ns)), none, none]) rfl
  rw [Bt.lenNN] at ln
  have ad := add_ok (fb := cC (.int 1)) (j := 1) ln rfl
  rw [show ((ns.length : Nat) : Int) + 1 = ((ns.length + 1 : Nat) : Int) by omega] at ad
  have big : ns.length + 1 < 2 ^ 4000 := Nat.lt_of_lt_of_le (show ns.length + 1 < 2 ^ 12 by omega) (Nat.pow_le_pow_right (by decide) (by decide))
  have c := VH.call_go (F := F__law_ending) (n := 1) (xs := [.val (nt (ns.length + 1))]) (ds := [nt (ns.length + 1)]) (ds' := [nt (ns.length + 1)]) (cons_ok ad (nil_ok _)) rfl inferInstance rfl (lend_w (ns.length + 1) big (by omega)) inferInstance
  have s1 := VH.asg_go (i := 1) (set_val c) (r2 := [some (IL false (Bt.nn ns)), some (BL true (Bt.enc (ns.length + 1))), none]) rfl
  have hel := Bt.enc_le big
  obtain ⟨u', e⟩ := lw_loop (IL false (Bt.nn ns)) ns (Bt.enc (ns.length + 1)) none (by omega) hm
  have it : iLst (cVar 0) [some (IL false (Bt.nn ns)), some (BL true (Bt.enc (ns.length + 1))), none] = .ok ((Bt.nn ns).map .int) [some (IL false (Bt.nn ns)), some (BL true (Bt.enc (ns.length + 1))), none] := it_lstG (o := false) (k := .lst) (set_loc (d := IL false (Bt.nn ns)) rfl rfl inferInstance rfl) rfl
  unfold F__law_row f__law_row
  exact runF_go (r := [some (IL false (Bt.nn ns)), none, none]) (x := .loc 1) rfl (seq_go s1 (seq_go (for_go it e) (ret_go (VL.cvar_loc rfl rfl)))) rfl
theorem lrow_k {R : List Int} (h : ∀ x ∈ R, 0 ≤ x ∧ x < 1000000000) (hl : R.length ≤ 2000) : F__law_row [IL false R] = .ok (BL true (rowB R)) := by
  have big : (1000000000 : Nat) + 1 < 2 ^ 4000 := Nat.lt_of_lt_of_le (show 1000000000 + 1 < 2 ^ 40 by decide) (Nat.pow_le_pow_right (by decide) (by decide))
  have e := lrow_w (R.map Int.toNat) (by rw [List.length_map]; exact hl) (fun m hm => by
    obtain ⟨x, hx, rfl⟩ := List.mem_map.mp hm
    have := h x hx
    exact Nat.lt_of_le_of_lt (show x.toNat + 1 ≤ 1000000000 + 1 by omega) big)
  rw [nn_toN fun x hx => (h x hx).1] at e
  exact e
abbrev W5 (n m : Nat) (bl : List (Nat × List Bool)) (nu : List Int) (be : List Bool) (w b : Option D) : Rho := [some (CN false n m bl), some (IL true nu), some (BL true be), w, b]
theorem wr_loop (n m : Nat) (b0 : List (Nat × List Bool)) : ∀ (bl done : List (Nat × List Bool)) (w b : Option D), (done ++ bl).length ≤ 400 → (catC (done ++ bl)).length ≤ 500000 → ∃ w' b', forL (.tp [3, 4]) (cSeq (cAsg (.nm 1) (cBin gAdd (cVar 1) (cLst (cCons (cSet (cVar 3)) (cCons (cSet (cB (b1 lenD) (cCons (cVar 4) cNil))) cNil))))) (cAsg (.nm 2) (cBin gAdd (cVar 2) (cVar 4)))) (bl.map tb) (W5 n m b0 (hdC n m done) (catC done) w b) = .nx (W5 n m b0 (hdC n m (done ++ bl)) (catC (done ++ bl)) w' b')
  | [], done, w, b, _, _ => ⟨w, b, by rw [List.append_nil]; rfl⟩
  | p :: bl, done, w, b, h1, h2 => by
    obtain ⟨w', b', e⟩ := wr_loop n m b0 bl (done ++ [p]) (some (nt p.1)) (some (BL false p.2)) (by rw [List.append_assoc]; exact h1) (by rw [List.append_assoc]; exact h2)
    rw [List.append_assoc] at e
    have hl := hdC_len n m done
    have h1' : done.length + (bl.length + 1) ≤ 400 := by rw [List.length_append, List.length_cons] at h1; exact h1
    have h2' : (catC done).length + p.2.length ≤ 500000 := by
      rw [catC_app, List.length_append, show catC (p :: bl) = p.2 ++ catC bl from rfl, List.length_append] at h2
      omega
    have ln := len_B (B := p.2) (i := 4) (o := false) (r := W5 n m b0 (hdC n m done) (catC done) (some (nt p.1)) (some (BL false p.2))) rfl
    have l := VH.lst_ok (ds := [nt p.1, nt p.2.length]) (cons_ok (set_val (cvar_at (i := 3) (d := nt p.1) rfl rfl)) (cons_ok (set_val ln) (nil_ok _))) rfl (Nat.le_of_ble_eq_true rfl)
    have a1 := addL_go (fa := cVar 1) (x := .loc 1) (o := true) (o' := true) (xs := (hdC n m done).map .int) (ys := [nt p.1, nt p.2.length]) (xs' := (hdC n m done).map .int) (ys' := [nt p.1, nt p.2.length]) (VL.cvar_loc rfl rfl) l rfl rfl inferInstance inferInstance (by rw [List.length_map]; show _ + 2 ≤ _; omega) rfl (VH.touch_l (o := true) (k := .lst) (ys := (hdC n m done).map .int) rfl inferInstance)
    have e2 : hdC n m (done ++ [p]) = hdC n m done ++ [((p.1 : Nat) : Int), ((p.2.length : Nat) : Int)] := by
      show _ ++ str ((done ++ [p]).map hd) = (_ ++ str (done.map hd)) ++ _
      rw [List.map_append, str_appC, ← List.append_assoc]
      rfl
    rw [show ((hdC n m done).map D.int ++ [nt p.1, nt p.2.length]) = (hdC n m (done ++ [p])).map D.int by rw [e2, List.map_append]; rfl] at a1
    have s1 := VH.asg_go (i := 1) (set_val a1) (r2 := W5 n m b0 (hdC n m (done ++ [p])) (catC done) (some (nt p.1)) (some (BL false p.2))) rfl
    have a2 := addL_go (fa := cVar 2) (fb := cVar 4) (x := .loc 2) (y := .loc 4) (o := true) (o' := false) (xs := (VL.bi (catC done)).map .int) (ys := (VL.bi p.2).map .int) (xs' := (VL.bi (catC done)).map .int) (ys' := (VL.bi p.2).map .int) (r := W5 n m b0 (hdC n m (done ++ [p])) (catC done) (some (nt p.1)) (some (BL false p.2))) (VL.cvar_loc rfl rfl) (VL.cvar_loc rfl rfl) rfl rfl inferInstance inferInstance (by rw [List.length_map, List.length_map, Pk.bi_len, Pk.bi_len]; omega) (VH.touch_l (o := false) (k := .lst) (ys := (VL.bi p.2).map .int) rfl inferInstance) (VH.touch_l (o := true) (k := .lst) (ys := (VL.bi (catC done)).map .int) rfl inferInstance)
    rw [← List.map_append, ← Pk.bi_app, show catC done ++ p.2 = catC (done ++ [p]) by rw [catC_app, show catC [p] = p.2 from List.append_nil _]] at a2
    have s2 := VH.asg_go (i := 2) (set_val a2) (r2 := W5 n m b0 (hdC n m (done ++ [p])) (catC (done ++ [p])) (some (nt p.1)) (some (BL false p.2))) rfl
    exact ⟨w', b', forL_c rfl (seq_go s1 s2) e⟩
theorem written_ok {n m : Nat} {bl : List (Nat × List Bool)} (hn : n < 1000000000) (hm : m < 1000000000) (s : SmC bl) : F__law_written [CN false n m bl] = .ok (BL true (wrC n m bl)) := by
  have hw := wr_len (n := n) (m := m) s hn hm
  have hdl := hdC_len n m bl
  have h400 := s.1
  let E0 : Rho := [some (CN false n m bl), none, none, none, none]
  have i0 : cBin gIx (cVar 0) (cC (.int 0)) E0 = .ok (.val (nt n)) E0 := ixA_go (n := 0) (x := .loc 0) (k := .tup) (o := false) (xs := [nt n, nt m, BK false bl]) (VL.cvar_loc rfl rfl) rfl rfl rfl rfl rfl
  have i1 : cBin gIx (cVar 0) (cC (.int 1)) E0 = .ok (.val (nt m)) E0 := ixA_go (n := 1) (x := .loc 0) (k := .tup) (o := false) (xs := [nt n, nt m, BK false bl]) (VL.cvar_loc rfl rfl) rfl rfl rfl rfl rfl
  have l1 := VH.lst_ok (ds := [nt n, nt m]) (cons_ok (set_val i0) (cons_ok (set_val i1) (nil_ok _))) rfl (Nat.le_of_ble_eq_true rfl)
  have s1 := VH.asg_go (i := 1) (set_val l1) (r2 := [some (CN false n m bl), some (IL true (hdC n m [])), none, none, none]) rfl
  obtain ⟨w', b', e⟩ := wr_loop n m bl bl [] none none (by rw [List.nil_append]; exact s.1) (by rw [List.nil_append]; exact s.2.2)
  rw [List.nil_append] at e
  have i2 : cBin gIx (cVar 0) (cC (.int 2)) (W5 n m bl (hdC n m []) (catC []) none none) = .ok (.val (BK false bl)) (W5 n m bl (hdC n m []) (catC []) none none) := ixTup (i := 0) (n := n) (m := m) (d := BK false bl) rfl (fzBK bl) rfl
  have it : iLst (cBin gIx (cVar 0) (cC (.int 2))) (W5 n m bl (hdC n m []) (catC []) none none) = .ok (bl.map tb) (W5 n m bl (hdC n m []) (catC []) none none) := it_lstG (o := false) (k := .lst) (set_val i2) rfl
  have c6 := VH.call_go (F := F__law_row) (n := 1) (xs := [.loc 1]) (ds := [IL true (hdC n m bl)]) (ds' := [IL false (hdC n m bl)]) (r := W5 n m bl (hdC n m bl) (catC bl) w' b') (fs := cCons (cVar 1) cNil) (cons_ok (VL.cvar_loc rfl rfl) (nil_ok _)) rfl inferInstance rfl (lrow_k (hdC_bd s hn hm) (by omega)) inferInstance
  have q := addL_go (fb := cVar 2) (x := .val (BL true (rowB (hdC n m bl)))) (y := .loc 2) (o := true) (o' := true) (xs := (VL.bi (rowB (hdC n m bl))).map .int) (ys := (VL.bi (catC bl)).map .int) (xs' := (VL.bi (rowB (hdC n m bl))).map .int) (ys' := (VL.bi (catC bl)).map .int) c6 (VL.cvar_loc rfl rfl) rfl rfl inferInstance inferInstance (by
    rw [List.length_map, List.length_map, Pk.bi_len, Pk.bi_len]
    have := s.2.2
    omega) (VH.touch_l (o := true) (k := .lst) (ys := (VL.bi (catC bl)).map .int) rfl inferInstance) rfl
  rw [← List.map_append, ← Pk.bi_app] at q
  unfold F__law_written f__law_written
  exact runF_go (r := E0) (x := .val (BL true (wrC n m bl))) rfl (seq_go s1 (seq_go (r1 := W5 n m bl (hdC n m []) (catC []) none none) rfl (seq_go (for_go it e) (ret_go q)))) rfl

end K63.Lw

namespace K63.Lw
open VH K63
open K63.Pk
open K63.Ds (sd)
theorem dr {r : Rho} {i : Nat} {a : Int} {b : Bool} {c m : Int} {fm : Ev} (h : r[i]? = some (some (sd a b c))) (h2 : fm r = .ok (.val (.int m)) r) (hm : 0 < m) (hm2 : m < 1000000000) :
    ∃ (v : Nat) (a' c' : Int), cCallQ 0 1 F__law_draw (cCons (cVar i) (cCons (cSet fm) cNil)) r = .ok (.val (nt v)) (r.set i (some (sd a' b c'))) ∧ (v : Int) < m := by
  obtain ⟨v, a', c', e, h0, h1⟩ := Ds.dS h (set_val h2) h hm (Ds.log_small hm hm2)
  refine ⟨v.toNat, a', c', ?_, by omega⟩
  rw [show nt v.toNat = D.int v by show D.int ((v.toNat : Nat) : Int) = _; rw [Int.toNat_of_nonneg h0]]
  exact e
abbrev B3 (s : D) (w k : Option D) : Rho := [some s, w, k]
theorem lc_b {b : Bool} {w : Option D} {it : Iv} {n : Nat} {a c : Int} {r0 : Rho} (hit : it r0 = .ok (rngD 0 1 n) (B3 (sd a b c) w none)) (hn : n < 1000) :
    ∃ (B : List Bool) (a' c' : Int), cLc [2] (.nm 2) it none (cCallQ 0 1 F__law_draw (cCons (cVar 0) (cCons (cSet (cC (.int 2))) cNil))) r0 = .ok (.val (BL true B)) (B3 (sd a' b c') w none) ∧ B.length = n := by
  obtain ⟨⟨a', c'⟩, acc, h1, ⟨bs, h2⟩, h4⟩ := VL.lcL_all (α := Int × Int) (fe := cCallQ 0 1 F__law_draw (cCons (cVar 0) (cCons (cSet (cC (.int 2))) cNil))) (t := .nm 2) (vs := [2])
    (fun q => B3 (sd q.1 b q.2) w none) (fun _ acc => ∃ bs : List Bool, acc = (VL.bi bs).map .int) (rngD 0 1 n) (a, c) [] (by rw [VH.rng_nt, List.length_map, List.length_range, List.length_nil]; omega) ⟨[], rfl⟩ fun q acc d _ ⟨bs, e⟩ => by
      obtain ⟨v, a1, c1, e1, h1⟩ := dr (r := B3 (sd q.1 b q.2) w (some d)) (i := 0) (fm := cC (.int 2)) (m := 2) rfl rfl (by decide) (by decide)
      obtain ⟨x, hx⟩ : ∃ x : Bool, v = x.toNat := by
        rcases (by omega : v = 0 ∨ v = 1) with z | z
        · exact ⟨false, z⟩
        · exact ⟨true, z⟩
      subst hx
      exact ⟨B3 (sd q.1 b q.2) w (some d), B3 (sd a1 b c1) w (some d), nt x.toNat, (a1, c1), rfl, set_val e1, rfl, bs ++ [x], by rw [e, Pk.bi_app, List.map_append]; rfl⟩
  subst h2
  refine ⟨bs, a', c', ?_, by rw [List.length_map, Pk.bi_len, VH.rng_nt, List.length_map, List.length_range, List.length_nil] at h4; omega⟩
  rw [q_lc, hit]
  show (match lcL (.nm 2) none _ [2] (rngD 0 1 n) [] (B3 (sd a b c) w none) with | .ok acc r2 => EO.ok (.val (.node .lst true acc)) (backR (B3 (sd a b c) w none) r2 [2]) | .bad => .bad) = _
  have h1 : lcL (.nm 2) none (cCallQ 0 1 F__law_draw (cCons (cVar 0) (cCons (cSet (cC (.int 2))) cNil))) [2] (rngD 0 1 n) [] (B3 (sd a b c) w none) = .ok ((VL.bi bs).map .int) (B3 (sd a' b c') w none) := h1
  rw [h1]
  rfl
theorem block_ok (a : Int) (b : Bool) (c : Int) : ∃ (p : Nat × List Bool) (a' c' : Int), F__law_block (sd a b c) [] = .ok (to p) (sd a' b c') ∧ p.1 < 1000000 ∧ p.2.length ≤ 30 := by
  obtain ⟨v1, a1, c1, e1, h1⟩ := dr (r := B3 (sd a b c) none none) (i := 0) (fm := cC (.int 6)) (m := 6) rfl rfl (by decide) (by decide)
  have p6 : cBin gPow (cC (.int 10)) (cC (.int 6)) (B3 (sd a1 b c1) none none) = .ok (.val (.int 1000000)) (B3 (sd a1 b c1) none none) := pow_go (i := 10) (j := 6) rfl rfl (by decide +kernel) (by decide +kernel)
  obtain ⟨v2, a2, c2, e2, h2⟩ := dr (r := B3 (sd a1 b c1) none none) (i := 0) rfl p6 (by decide) (by decide)
  obtain ⟨v3, a3, c3, e3, h3⟩ := dr (r := B3 (sd a2 b c2) none none) (i := 0) (fm := cC (.int 2)) (m := 2) rfl rfl (by decide) (by decide)
  have l := VH.lst_ok (ds := [nt v1, nt v2]) (cons_ok (set_val e1) (cons_ok (set_val e2) (nil_ok _))) rfl (Nat.le_of_ble_eq_true rfl)
  obtain ⟨w, hw, g⟩ : ∃ w : Nat, w < 1000000 ∧ cBin gIx (cLst (cCons (cSet (cCallQ 0 1 F__law_draw (cCons (cVar 0) (cCons (cSet (cC (.int 6))) cNil)))) (cCons (cSet (cCallQ 0 1 F__law_draw (cCons (cVar 0) (cCons (cSet (cBin gPow (cC (.int 10)) (cC (.int 6)))) cNil)))) cNil))) (cCallQ 0 1 F__law_draw (cCons (cVar 0) (cCons (cSet (cC (.int 2))) cNil))) (B3 (sd a b c) none none) = .ok (.val (nt w)) (B3 (sd a3 b c3) none none) := by
    rcases (by omega : v3 = 0 ∨ v3 = 1) with z | z
    · subst z
      exact ⟨v1, by omega, ixA_go (n := 0) (k := .lst) (o := true) (xs := [nt v1, nt v2]) l e3 rfl rfl rfl rfl⟩
    · subst z
      exact ⟨v2, by omega, ixA_go (n := 1) (k := .lst) (o := true) (xs := [nt v1, nt v2]) l e3 rfl rfl rfl rfl⟩
  have s1 := VH.asg_go (i := 1) (set_val g) (r2 := B3 (sd a3 b c3) (some (nt w)) none) rfl
  obtain ⟨v4, a4, c4, e4, h4⟩ := dr (r := B3 (sd a3 b c3) (some (nt w)) none) (i := 0) (fm := cC (.int 31)) (m := 31) rfl rfl (by decide) (by decide)
  have it := it_rngI e4 (by unfold within; exact decide_eq_true (by omega))
  rw [Int.toNat_natCast] at it
  obtain ⟨B, a5, c5, e5, h5⟩ := lc_b (b := b) (a := a4) (c := c4) (w := some (nt w)) it (by omega)
  have tt := tup_ok (ds := [nt w, BL true B]) (cons_ok (set_val (cvar_at (i := 1) (d := nt w) (r := B3 (sd a3 b c3) (some (nt w)) none) rfl rfl)) (cons_ok (set_val e5) (nil_ok _))) rfl (Nat.le_of_ble_eq_true rfl)
  refine ⟨(w, B), a5, c5, ?_, hw, by show B.length ≤ 30; omega⟩
  have fin := seq_go s1 (ret_go tt)
  unfold F__law_block runQ f__law_block
  have e5 : startR 3 (putQ 0 (sd a b c) []) = B3 (sd a b c) none none := rfl
  rw [e5, fin]
  rfl
abbrev S6 (W : List Bool) (s : D) (at_ ki k bi : Option D) : Rho := [some (BL false W), some s, at_, ki, k, bi]
theorem lc_s {b : Bool} {W : List Bool} {at_ ki bi : Option D} {it : Iv} {n : Nat} {a c : Int} {r0 : Rho} (hit : it r0 = .ok (rngD 0 1 n) (S6 W (sd a b c) at_ ki none bi)) (hn : n < 1000) :
    ∃ (B : List Bool) (a' c' : Int), cLc [4] (.nm 4) it none (cCallQ 0 1 F__law_draw (cCons (cVar 1) (cCons (cSet (cC (.int 2))) cNil))) r0 = .ok (.val (BL true B)) (S6 W (sd a' b c') at_ ki none bi) ∧ B.length = n := by
  obtain ⟨⟨a', c'⟩, acc, h1, ⟨bs, h2⟩, h4⟩ := VL.lcL_all (α := Int × Int) (fe := cCallQ 0 1 F__law_draw (cCons (cVar 1) (cCons (cSet (cC (.int 2))) cNil))) (t := .nm 4) (vs := [4])
    (fun q => S6 W (sd q.1 b q.2) at_ ki none bi) (fun _ acc => ∃ bs : List Bool, acc = (VL.bi bs).map .int) (rngD 0 1 n) (a, c) [] (by rw [VH.rng_nt, List.length_map, List.length_range, List.length_nil]; omega) ⟨[], rfl⟩ fun q acc d _ ⟨bs, e⟩ => by
      obtain ⟨v, a1, c1, e1, h1⟩ := dr (r := S6 W (sd q.1 b q.2) at_ ki (some d) bi) (i := 1) (fm := cC (.int 2)) (m := 2) rfl rfl (by decide) (by decide)
      obtain ⟨x, hx⟩ : ∃ x : Bool, v = x.toNat := by
        rcases (by omega : v = 0 ∨ v = 1) with z | z
        · exact ⟨false, z⟩
        · exact ⟨true, z⟩
      subst hx
      exact ⟨S6 W (sd q.1 b q.2) at_ ki (some d) bi, S6 W (sd a1 b c1) at_ ki (some d) bi, nt x.toNat, (a1, c1), rfl, set_val e1, rfl, bs ++ [x], by rw [e, Pk.bi_app, List.map_append]; rfl⟩
  subst h2
  refine ⟨bs, a', c', ?_, by rw [List.length_map, Pk.bi_len, VH.rng_nt, List.length_map, List.length_range, List.length_nil] at h4; omega⟩
  rw [q_lc, hit]
  show (match lcL (.nm 4) none _ [4] (rngD 0 1 n) [] (S6 W (sd a b c) at_ ki none bi) with | .ok acc r2 => EO.ok (.val (.node .lst true acc)) (backR (S6 W (sd a b c) at_ ki none bi) r2 [4]) | .bad => .bad) = _
  have h1 : lcL (.nm 4) none (cCallQ 0 1 F__law_draw (cCons (cVar 1) (cCons (cSet (cC (.int 2))) cNil))) [4] (rngD 0 1 n) [] (S6 W (sd a b c) at_ ki none bi) = .ok ((VL.bi bs).map .int) (S6 W (sd a' b c') at_ ki none bi) := h1
  rw [h1]
  rfl
theorem sn_B {r r1 : Rho} {W : List Bool} {fl : Ev} {i : Nat} (h0 : r[0]? = some (some (BL false W))) (h : fl r = .ok (.val (nt i)) r1) (h1 : r1[0]? = some (some (BL false W))) : cSl (cVar 0) (some fl) none r = .ok (.val (BL true (W.drop i))) r1 := by
  rw [q_sl, VL.cvar_loc h0 rfl, bd_ok, VH.part_ok h, q_part0, q_gSl, VL.opd_loc' h1]
  show EO.ok (.val (.node .lst true (VL.cutD (frzs ((VL.bi W).map .int)) (some ((i : Nat) : Int)) none))) (touch r1 (.loc 0)) = _
  rw [frzs_ints, VH.cutD_sn _ (by omega), VH.touch_l (o := false) (k := .lst) (ys := (VL.bi W).map .int) h1 inferInstance, Int.toNat_natCast, show ((VL.bi W).map D.int).drop i = (VL.bi (W.drop i)).map D.int by unfold VL.bi; rw [List.map_drop, List.map_drop]]
theorem ns_B {r r1 : Rho} {W : List Bool} {fl : Ev} {i : Nat} (h0 : r[0]? = some (some (BL false W))) (h : fl r = .ok (.val (nt i)) r1) (h1 : r1[0]? = some (some (BL false W))) : cSl (cVar 0) none (some fl) r = .ok (.val (BL true (W.take i))) r1 := by
  rw [q_sl, VL.cvar_loc h0 rfl, bd_ok, q_part0, VH.part_ok h, q_gSl, VL.opd_loc' h1]
  show EO.ok (.val (.node .lst true (VL.cutD (frzs ((VL.bi W).map .int)) none (some ((i : Nat) : Int))))) (touch r1 (.loc 0)) = _
  rw [frzs_ints, VH.cutD_ns _ (by omega), VH.touch_l (o := false) (k := .lst) (ys := (VL.bi W).map .int) h1 inferInstance, Int.toNat_natCast, show ((VL.bi W).map D.int).take i = (VL.bi (W.take i)).map D.int by unfold VL.bi; rw [List.map_take, List.map_take]]
theorem ss_B {r : Rho} {W : List Bool} {fl fh : Ev} {i j : Nat} (h0 : r[0]? = some (some (BL false W))) (h : fl r = .ok (.val (nt i)) r) (h2 : fh r = .ok (.val (nt j)) r) : cSl (cVar 0) (some fl) (some fh) r = .ok (.val (BL true ((W.drop i).take (j - i)))) r := by
  have sl := sl_ss (fa := cVar 0) (fl := fl) (fh := fh) (i := ((i : Nat) : Int)) (j := ((j : Nat) : Int)) (x := .loc 0) (k := .lst) (o := false) (xs := (VL.bi W).map .int) (xs' := (VL.bi W).map .int) (r := r) (VL.cvar_loc h0 rfl) (VL.opd_loc' h0) rfl inferInstance h h2 (VH.touch_l (o := false) (k := .lst) (ys := (VL.bi W).map .int) h0 inferInstance) (by omega) (by omega)
  rw [sl, Int.toNat_natCast, Int.toNat_natCast, show (((VL.bi W).map D.int).drop i).take (j - i) = (VL.bi ((W.drop i).take (j - i))).map D.int by unfold VL.bi; rw [List.map_take, List.map_take, List.map_drop, List.map_drop]]
theorem ad_B {r r1 r2 : Rho} {fa fb : Ev} {A B : List Bool} (h1 : fa r = .ok (.val (BL true A)) r1) (h2 : fb r1 = .ok (.val (BL true B)) r2) (hl : A.length + B.length ≤ 100000) : cBin gAdd fa fb r = .ok (.val (BL true (A ++ B))) r2 := by
  have q := addL_go (x := .val (BL true A)) (y := .val (BL true B)) (o := true) (o' := true) (xs := (VL.bi A).map .int) (ys := (VL.bi B).map .int) (xs' := (VL.bi A).map .int) (ys' := (VL.bi B).map .int) h1 h2 rfl rfl inferInstance inferInstance (by rw [List.length_map, List.length_map, Pk.bi_len, Pk.bi_len]; omega) rfl rfl
  rw [← List.map_append, ← Pk.bi_app] at q
  exact q
theorem b01 {v : Nat} (h : v < 2) : ∃ x : Bool, v = x.toNat := by
  rcases (by omega : v = 0 ∨ v = 1) with z | z
  · exact ⟨false, z⟩
  · exact ⟨true, z⟩
theorem flip_it (W : List Bool) (s : D) (at_ ki k : Option D) (fi : Iv) (Y : List Bool) (hl : Y.length < 100000) (h : fi (S6 W s at_ ki k none) = .ok ((VL.bi Y).map .int) (S6 W s at_ ki k none)) : cLc [5] (.nm 5) fi none (cBin gSub (cC (.int 1)) (cVar 5)) (S6 W s at_ ki k none) = .ok (.val (BL true (Y.map not))) (S6 W s at_ ki k none) := by
  have e0 : (VL.bi Y).map D.int = Y.map fun b => D.int ((b.toNat : Nat) : Int) := by unfold VL.bi; rw [List.map_map]; rfl
  have e1 : (Y.map fun b => D.int (((not b).toNat : Nat) : Int)) = (VL.bi (Y.map not)).map D.int := by unfold VL.bi; rw [List.map_map, List.map_map]; rfl
  rw [e0] at h
  have z := lc_all (enc := fun b : Bool => D.int ((b.toNat : Nat) : Int)) (g := fun b : Bool => D.int (((not b).toNat : Nat) : Int)) (t := .nm 5) (fe := cBin gSub (cC (.int 1)) (cVar 5)) (vs := [5]) Y (r1 := S6 W s at_ ki k none) (r0 := S6 W s at_ ki k none) h rfl (by omega) fun x _ => ⟨S6 W s at_ ki k (some (.int ((x.toNat : Nat) : Int))), rfl, S6 W s at_ ki k (some (.int ((x.toNat : Nat) : Int))), by
      have q := sub_ok (fa := cC (.int 1)) (fb := cVar 5) (i := 1) (j := ((x.toNat : Nat) : Int)) (r := S6 W s at_ ki k (some (.int ((x.toNat : Nat) : Int)))) rfl rfl
      have e : (1 : Int) - ((x.toNat : Nat) : Int) = (((not x).toNat : Nat) : Int) := by cases x <;> rfl
      rw [e] at q
      exact set_val q, rfl⟩
  rw [e1] at z
  exact z
theorem spoilt_ok (W : List Bool) (hW : W.length ≤ 50000) (a : Int) (b : Bool) (c : Int) : ∃ (o : Bool) (Y : List Bool) (a' c' : Int), F__law_spoilt (sd a b c) [BL false W] = .ok (BL o Y) (sd a' b c') ∧ Y.length ≤ W.length + 60 := by
  have n1 : ∀ (s : D) (at_ ki k bi : Option D), cBin gAdd (cB (b1 lenD) (cCons (cVar 0) cNil)) (cC (.int 1)) (S6 W s at_ ki k bi) = .ok (.val (nt (W.length + 1))) (S6 W s at_ ki k bi) := fun s at_ ki k bi => by
    have q := add_ok (fb := cC (.int 1)) (j := 1) (len_B (B := W) (i := 0) (o := false) (r := S6 W s at_ ki k bi) rfl) rfl
    rw [show ((W.length : Nat) : Int) + 1 = ((W.length + 1 : Nat) : Int) by omega] at q
    exact q
  obtain ⟨at_, a1, c1, e1, h1⟩ := dr (r := S6 W (sd a b c) none none none none) (i := 1) rfl (n1 _ _ _ _ _) (by omega) (by omega)
  have s1 := VH.asg_go (i := 2) (set_val e1) (r2 := S6 W (sd a1 b c1) (some (nt at_)) none none none) rfl
  obtain ⟨ki, a2, c2, e2, h2⟩ := dr (r := S6 W (sd a1 b c1) (some (nt at_)) none none none) (i := 1) (fm := cC (.int 8)) (m := 8) rfl rfl (by decide) (by decide)
  have s2 := VH.asg_go (i := 3) (set_val e2) (r2 := S6 W (sd a2 b c2) (some (nt at_)) (some (nt ki)) none none) rfl
  let E := S6 W (sd a2 b c2) (some (nt at_)) (some (nt ki)) none none
  have t : ∀ i : Int, cBin gEq (cVar 3) (cC (.int i)) E = .ok (.val (.bl (decide (((ki : Nat) : Int) = i)))) E := fun i => eq_ok (fa := cVar 3) (fb := cC (.int i)) (i := ((ki : Nat) : Int)) (j := i) (r := E) rfl rfl
  have st : startR 6 (putQ 1 (sd a b c) [BL false W]) = S6 W (sd a b c) none none none none := rfl
  have fin : ∀ {Y : List Bool} {r : Rho} {a2 c2 : Int}, f__law_spoilt (S6 W (sd a b c) none none none none) = .rt (.val (BL true Y)) r → r[1]? = some (some (sd a2 b c2)) → F__law_spoilt (sd a b c) [BL false W] = .ok (BL true Y) (sd a2 b c2) := fun {Y r a2 c2} e e2 => by
    unfold F__law_spoilt runQ
    rw [st, e]
    show (match r[1]? with | some (some d0') => MO.ok (BL true Y) d0' | _ => .bad) = _
    rw [e2]
  have no : ∀ {i : Int} {f g : Sv} {o : SO}, ((ki : Nat) : Int) ≠ i → g E = o → cSeq (cIfS (cBin gEq (cVar 3) (cC (.int i))) f cSkip) g E = o := fun {i f g o} h hg => seq_go (VH.ifs_n (t i) (decide_eq_false h) rfl) hg
  have va : ∀ (s : D) (k bi : Option D), cVar 2 (S6 W s (some (nt at_)) (some (nt ki)) k bi) = .ok (.val (nt at_)) (S6 W s (some (nt at_)) (some (nt ki)) k bi) := fun _ _ _ => cvar_at rfl rfl
  have va1 : ∀ (s : D) (k bi : Option D), cBin gAdd (cVar 2) (cC (.int 1)) (S6 W s (some (nt at_)) (some (nt ki)) k bi) = .ok (.val (nt (at_ + 1))) (S6 W s (some (nt at_)) (some (nt ki)) k bi) := fun s k bi => add1 rfl
  have hd : ∀ {f : Sv} {i : Int} {g : Sv} {x : R} {r : Rho}, ((ki : Nat) : Int) = i → f E = .rt x r → cSeq (cIfS (cBin gEq (cVar 3) (cC (.int i))) f cSkip) g E = .rt x r := fun {f i g x r} h hf => VL.seq_rt (VH.ifs_y (t i) (decide_eq_true h) hf)
  unfold f__law_spoilt at fin
  have fin2 := fun {Y : List Bool} {r : Rho} {a2 c2 : Int} h => fin (Y := Y) (r := r) (a2 := a2) (c2 := c2) (seq_go s1 (seq_go s2 h))
  rcases (by omega : ki = 0 ∨ ki = 1 ∨ ki = 2 ∨ ki = 3 ∨ ki = 4 ∨ ki = 5 ∨ 6 ≤ ki) with z | z | z | z | z | z | z
  · have it : iLst (cSl (cVar 0) (some (cVar 2)) (some (cBin gAdd (cVar 2) (cC (.int 1))))) E = .ok ((VL.bi ((W.drop at_).take (at_ + 1 - at_))).map .int) E := it_lstG (k := .lst) (o := true) (set_val (ss_B rfl (va _ _ _) (va1 _ _ _))) rfl
    have f := flip_it W (sd a2 b c2) (some (nt at_)) (some (nt ki)) none _ _ (by rw [List.length_take, List.length_drop]; omega) it
    have q := ad_B (ad_B (ns_B (r := E) rfl (va _ _ _) rfl) f (by rw [List.length_take, List.length_map, List.length_take, List.length_drop]; omega)) (sn_B (r := E) rfl (va1 _ _ _) rfl) (by rw [List.length_append, List.length_take, List.length_map, List.length_take, List.length_drop, List.length_drop]; omega)
    exact ⟨true, _, a2, c2, fin2 (hd (by omega) (ret_go q)) rfl, by rw [List.length_append, List.length_append, List.length_take, List.length_map, List.length_take, List.length_drop, List.length_drop]; omega⟩
  · obtain ⟨v, a3, c3, e3, h3⟩ := dr (r := E) (i := 1) (fm := cC (.int 2)) (m := 2) rfl rfl (by decide) (by decide)
    have ad := add_ok (va1 (sd a2 b c2) none none) e3
    rw [show ((at_ + 1 : Nat) : Int) + ((v : Nat) : Int) = ((at_ + 1 + v : Nat) : Int) by omega] at ad
    have q := ad_B (ns_B (r := E) rfl (va _ _ _) rfl) (sn_B (r := E) rfl ad rfl) (by rw [List.length_take, List.length_drop]; omega)
    exact ⟨true, _, a3, c3, fin2 (no (by omega) (hd (by omega) (ret_go q))) rfl, by rw [List.length_append, List.length_take, List.length_drop]; omega⟩
  · obtain ⟨v, a3, c3, e3, h3⟩ := dr (r := E) (i := 1) (fm := cC (.int 9)) (m := 9) rfl rfl (by decide) (by decide)
    have ad := add_ok (fa := cC (.int 1)) (i := 1) (r := E) rfl e3
    have it := it_rngI ad (by unfold within; exact decide_eq_true (by omega))
    rw [show (1 + ((v : Nat) : Int)).toNat = 1 + v by omega] at it
    obtain ⟨B, a5, c5, e5, h5⟩ := lc_s (b := b) (a := a3) (c := c3) it (by omega)
    have q := addL_go (fa := cVar 0) (x := .loc 0) (o := false) (o' := true) (xs := (VL.bi W).map .int) (ys := (VL.bi B).map .int) (xs' := (VL.bi W).map .int) (ys' := (VL.bi B).map .int) (r := E) (VL.cvar_loc rfl rfl) e5 rfl rfl inferInstance inferInstance (by rw [List.length_map, List.length_map, Pk.bi_len, Pk.bi_len]; omega) rfl (VH.touch_l (o := false) (k := .lst) (ys := (VL.bi W).map .int) rfl inferInstance)
    rw [← List.map_append, ← Pk.bi_app] at q
    exact ⟨true, W ++ B, a5, c5, fin2 (no (by omega) (no (by omega) (hd (by omega) (ret_go q)))) rfl, by rw [List.length_append]; omega⟩
  · obtain ⟨v, a3, c3, e3, h3⟩ := dr (r := E) (i := 1) (fm := cC (.int 2)) (m := 2) rfl rfl (by decide) (by decide)
    obtain ⟨x, hx⟩ := b01 (by omega : v < 2)
    subst hx
    have l : cLst (cCons (cSet (cCallQ 0 1 F__law_draw (cCons (cVar 1) (cCons (cSet (cC (.int 2))) cNil)))) cNil) E = .ok (.val (BL true [x])) _ := VH.lst_ok (ds := [nt x.toNat]) (cons_ok (set_val e3) (nil_ok _)) rfl (Nat.le_of_ble_eq_true rfl)
    have q := ad_B (ad_B (ns_B (r := E) rfl (va _ _ _) rfl) l (by rw [List.length_take, List.length_singleton]; omega)) (sn_B (r := S6 W (sd a3 b c3) (some (nt at_)) (some (nt ki)) none none) rfl (va _ _ _) rfl) (by rw [List.length_append, List.length_take, List.length_singleton, List.length_drop]; omega)
    exact ⟨true, _, a3, c3, fin2 (no (by omega) (no (by omega) (no (by omega) (hd (by omega) (ret_go q))))) rfl, by rw [List.length_append, List.length_append, List.length_take, List.length_singleton, List.length_drop]; omega⟩
  · obtain ⟨v, a3, c3, e3, h3⟩ := dr (r := E) (i := 1) (fm := cC (.int 61)) (m := 61) rfl rfl (by decide) (by decide)
    have it := it_rngI e3 (by unfold within; exact decide_eq_true (by omega))
    rw [Int.toNat_natCast] at it
    obtain ⟨B, a5, c5, e5, h5⟩ := lc_s (b := b) (a := a3) (c := c3) it (by omega)
    exact ⟨true, B, a5, c5, fin2 (no (by omega) (no (by omega) (no (by omega) (no (by omega) (hd (by omega) (ret_go e5)))))) rfl, by omega⟩
  · obtain ⟨v, a3, c3, e3, h3⟩ := dr (r := E) (i := 1) (fm := cC (.int 9)) (m := 9) rfl rfl (by decide) (by decide)
    have ln := len_B (B := W) (i := 0) (o := false) (r := E) rfl
    have sb := sub_ok ln (VH.min_ok ln e3)
    obtain ⟨y, hy⟩ : ∃ y : Nat, ((W.length : Nat) : Int) - min ((W.length : Nat) : Int) ((v : Nat) : Int) = ((y : Nat) : Int) := ⟨_, (Int.toNat_of_nonneg (by omega)).symm⟩
    rw [hy] at sb
    exact ⟨true, _, a3, c3, fin2 (no (by omega) (no (by omega) (no (by omega) (no (by omega) (no (by omega) (hd (by omega) (ret_go (ns_B (r := E) rfl sb rfl)))))))) rfl, by rw [List.length_take]; omega⟩
  · refine ⟨false, W, a2, c2, ?_, by omega⟩
    unfold F__law_spoilt runQ
    rw [st]
    unfold f__law_spoilt
    rw [seq_go s1 (seq_go s2 (no (by omega) (no (by omega) (no (by omega) (no (by omega) (no (by omega) (no (by omega) (ret_go (VL.cvar_loc (r := E) rfl rfl)))))))))]
    rfl

end K63.Lw

namespace K63.Lw
open VH K63
open K63.Pk
abbrev hp (p : Nat × List Bool) : Nat × Nat := (p.1, p.2.length)
theorem str_flat : ∀ bl : List (Nat × List Bool), (str (bl.map hd)).map Int.toNat = flat (bl.map hp)
  | [] => rfl
  | p :: bl => by
    show Int.toNat ((p.1 : Nat) : Int) :: Int.toNat ((p.2.length : Nat) : Int) :: (str (bl.map hd)).map Int.toNat = p.1 :: p.2.length :: flat (bl.map hp)
    rw [str_flat bl]; rfl
theorem hdC_flat (n m : Nat) (bl : List (Nat × List Bool)) : (hdC n m bl).map Int.toNat = n :: m :: flat (bl.map hp) := by
  show Int.toNat ((n : Nat) : Int) :: Int.toNat ((m : Nat) : Int) :: (str (bl.map hd)).map Int.toNat = _
  rw [str_flat]; rfl
theorem unflat_flat : ∀ ps : List (Nat × Nat), unflat (flat ps) = ps
  | [] => rfl
  | p :: t => by
    show (p.1, p.2) :: unflat (flat t) = _
    rw [unflat_flat t]
theorem szs_cat : ∀ bl : List (Nat × List Bool), szs (bl.map hp) = (catC bl).length
  | [] => rfl
  | p :: bl => by
    show p.2.length + szs (bl.map hp) = (p.2 ++ catC bl).length
    rw [szs_cat bl, List.length_append]
theorem prt_cat : ∀ (bl : List (Nat × List Bool)) (pre : List Bool), prt (pre ++ catC bl) (bl.map hp) pre.length = bl
  | [], _ => rfl
  | p :: bl, pre => by
    have ih := prt_cat bl (pre ++ p.2)
    have e : pre ++ catC (p :: bl) = pre ++ p.2 ++ catC bl := by rw [List.append_assoc]; rfl
    show (p.1, ((pre ++ catC (p :: bl)).drop pre.length).take p.2.length) :: prt (pre ++ catC (p :: bl)) (bl.map hp) (pre.length + p.2.length) = _
    rw [List.length_append] at ih
    rw [List.drop_left, show catC (p :: bl) = p.2 ++ catC bl from rfl, List.take_left]
    rw [show pre ++ (p.2 ++ catC bl) = pre ++ p.2 ++ catC bl by rw [List.append_assoc], ih]
theorem wr_eq (n m : Nat) (bl : List (Nat × List Bool)) : wrC n m bl = Bt.encR (n :: m :: flat (bl.map hp)) ++ catC bl := by
  show Bt.encR ((hdC n m bl).map Int.toNat) ++ catC bl = _
  rw [hdC_flat]
theorem rdC_wr {n m : Nat} {bl : List (Nat × List Bool)} (hn : 1 ≤ n) (h64 : n ≤ 64) (hm : m ≤ 400) (hl : bl.length = ckn n m) : rdC (wrC n m bl) = some (n, m, bl) := by
  have e := Bt.rdR_read (n :: m :: flat (bl.map hp)) [] (catC bl)
  rw [List.nil_append, List.length_nil, Nat.zero_add] at e
  have p := prt_cat bl (Bt.encR (n :: m :: flat (bl.map hp)))
  unfold rdC
  rw [wr_eq, e]
  show (if _ then _ else none : Option (Nat × Nat × List (Nat × List Bool))) = _
  rw [if_pos ⟨by rw [flat_len]; omega, by rw [unflat_flat, szs_cat, List.length_append], hn, h64, hm, by rw [unflat_flat, List.length_map]; exact hl⟩, unflat_flat, p]
theorem enc_b {k m : Nat} (h : m < 2 ^ k) : (Bt.enc m).length ≤ 2 * k := by
  have := figs_len h
  unfold Bt.enc
  rw [List.length_append, List.length_replicate, List.length_reverse]
  omega
theorem encs_c (n : Nat) (l : List Nat) : (Bt.encs (n :: l)).length = (Bt.enc (n + 1)).length + (Bt.encs l).length := by
  show (Bt.enc (n + 1) ++ Bt.encs l).length = _
  rw [List.length_append]
theorem encs_b : ∀ bl : List (Nat × List Bool), (∀ p ∈ bl, p.1 < 1000000 ∧ p.2.length ≤ 30) → (Bt.encs (flat (bl.map hp))).length + (catC bl).length ≤ 80 * bl.length
  | [], _ => Nat.zero_le _
  | p :: bl, h => by
    have ih := encs_b bl fun q hq => h q (List.mem_cons_of_mem _ hq)
    have h0 := h p List.mem_cons_self
    have h1 := enc_b (k := 20) (m := p.1 + 1) (by have : (2 : Nat) ^ 20 = 1048576 := by decide
                                                  omega)
    have h2 := enc_b (k := 5) (m := p.2.length + 1) (by have : (2 : Nat) ^ 5 = 32 := by decide
                                                        omega)
    show (Bt.encs (p.1 :: p.2.length :: flat (bl.map hp))).length + (p.2 ++ catC bl).length ≤ _
    rw [encs_c, encs_c, List.length_append, List.length_cons]
    omega
theorem wr_b {n m : Nat} {bl : List (Nat × List Bool)} (h64 : n ≤ 64) (hm : m ≤ 400) (hl : bl.length ≤ 40) (h : ∀ p ∈ bl, p.1 < 1000000 ∧ p.2.length ≤ 30) : (wrC n m bl).length ≤ 3300 := by
  have h0 := encs_b bl h
  have h1 := enc_b (k := 7) (m := n + 1) (by have : (2 : Nat) ^ 7 = 128 := by decide
                                             omega)
  have h2 := enc_b (k := 9) (m := m + 1) (by have : (2 : Nat) ^ 9 = 512 := by decide
                                             omega)
  have h3 := enc_b (k := 7) (m := (n :: m :: flat (bl.map hp)).length + 1) (by
    rw [List.length_cons, List.length_cons, flat_len, List.length_map]
    have : (2 : Nat) ^ 7 = 128 := by decide
    omega)
  rw [wr_eq]
  unfold Bt.encR
  rw [List.length_append, List.length_append, encs_c, encs_c]
  omega
theorem cat_b : ∀ bl : List (Nat × List Bool), (∀ p ∈ bl, p.1 < 1000000 ∧ p.2.length ≤ 30) → (catC bl).length ≤ 30 * bl.length
  | [], _ => Nat.zero_le _
  | p :: bl, h => by
    have ih := cat_b bl fun q hq => h q (List.mem_cons_of_mem _ hq)
    have h0 := h p List.mem_cons_self
    show (p.2 ++ catC bl).length ≤ _
    rw [List.length_append, List.length_cons]
    omega
open K63.Ds (sd)
abbrev C8 (ns : List Int) (fi si t bk k w b : Option D) : Rho := [some (script ns), fi, si, t, bk, k, w, b]
noncomputable abbrev bkE : Ev := cCallQ 0 0 F__law_block (cCons (cCall 2 F__law_state (cCons (cVar 0) (cCons (cBin gAdd (cC (.int 2)) (cVar 5)) cNil))) cNil)
theorem bk_step (ns : List Int) (fi si t : Option D) (k : Nat) : ∃ p : Nat × List Bool, p.1 < 1000000 ∧ p.2.length ≤ 30 ∧ bkE (C8 ns fi si t none (some (nt k)) none none) = .ok (.val (to p)) (C8 ns fi si t none (some (nt k)) none none) := by
  obtain ⟨a, b, fst⟩ := Ds.state_ok ns (2 + k)
  obtain ⟨p, a', c', fb, h1, h2⟩ := block_ok a b ((2 + k : Nat) : Int)
  have ad := add_ok (fa := cC (.int 2)) (fb := cVar 5) (i := 2) (j := ((k : Nat) : Int)) (r := C8 ns fi si t none (some (nt k)) none none) rfl rfl
  rw [show (2 : Int) + ((k : Nat) : Int) = ((2 + k : Nat) : Int) by omega] at ad
  have cst := VH.call_go (F := F__law_state) (n := 2) (xs := [.loc 0, .val (nt (2 + k))]) (ds := [script ns, nt (2 + k)]) (ds' := [script ns, nt (2 + k)]) (cons_ok (VL.cvar_loc (i := 0) (d := script ns) rfl rfl) (cons_ok ad (nil_ok _))) rfl ⟨by show [frz (script ns), _] = _; rw [Ds.frz_sc]; rfl⟩ rfl fst ⟨rfl⟩
  exact ⟨p, h1, h2, callQ_val (d0 := sd a b ((2 + k : Nat) : Int)) (d0' := sd a' b c') (ds1 := []) (ds2 := []) (rest := []) (cons_ok cst (nil_ok _)) rfl rfl rfl rfl fb⟩
theorem bks_ok (ns : List Int) (fi si t : Option D) {it : Iv} {c : Nat} (hit : it (C8 ns fi si t none none none none) = .ok (rngD 0 1 c) (C8 ns fi si t none none none none)) (hc : c < 1000) : ∃ bl : List (Nat × List Bool), bl.length = c ∧ (∀ p ∈ bl, p.1 < 1000000 ∧ p.2.length ≤ 30) ∧ cLc [5] (.nm 5) it none bkE (C8 ns fi si t none none none none) = .ok (.val (.node .lst true (bl.map to))) (C8 ns fi si t none none none none) := by
  let r := C8 ns fi si t none none none none
  obtain ⟨_, acc, h1, ⟨bs, h2, h3⟩, h4⟩ := VL.lcL_all (α := Unit) (fe := bkE) (t := .nm 5) (vs := [5]) (fun _ => r) (fun _ acc => ∃ bs : List (Nat × List Bool), acc = bs.map to ∧ ∀ p ∈ bs, p.1 < 1000000 ∧ p.2.length ≤ 30) (rngD 0 1 c) () [] (by rw [VH.rng_nt, List.length_map, List.length_range, List.length_nil]; omega) ⟨[], rfl, fun _ h => by cases h⟩ fun _ acc d hd ⟨bs, e, hb⟩ => by
    rw [VH.rng_nt] at hd
    obtain ⟨k, _, rfl⟩ := List.mem_map.mp hd
    obtain ⟨p, p1, p2, e1⟩ := bk_step ns fi si t k
    refine ⟨C8 ns fi si t none (some (nt k)) none none, C8 ns fi si t none (some (nt k)) none none, to p, (), rfl, set_val e1, rfl, bs ++ [p], by rw [e, List.map_append]; rfl, fun q hq => ?_⟩
    rcases List.mem_append.mp hq with hq | hq
    · exact hb q hq
    · rw [List.mem_singleton.mp hq]; exact ⟨p1, p2⟩
  subst h2
  refine ⟨bs, by rw [List.length_map, VH.rng_nt, List.length_map, List.length_range, List.length_nil] at h4; omega, h3, ?_⟩
  rw [q_lc, hit]
  show (match lcL (.nm 5) none bkE [5] (rngD 0 1 c) [] r with | .ok acc r2 => EO.ok (.val (.node .lst true acc)) (backR r r2 [5]) | .bad => .bad) = _
  rw [h1]
  rfl
theorem first_loc {r : Rho} {p : Nat × List Bool} {bl : List (Nat × List Bool)} (h : r[4]? = some (some (BK false (p :: bl)))) : cB (gListOf) (cCons (cBin gIx (cBin gIx (cVar 4) (cC (.int 0))) (cC (.int 1))) cNil) r = .ok (.val (BL true p.2)) r := by
  have i0 : cBin gIx (cVar 4) (cC (.int 0)) r = .ok (.val (tb p)) r := ix_go (n := 0) (x := .loc 4) (k := .lst) (o := false) (xs := (p :: bl).map tb) (d := tb p) (VL.cvar_loc h rfl) rfl (VL.opd_loc' h) rfl (VH.at_enc (f := tb) (xs := p :: bl) (i := 0) (Nat.succ_pos _)) ⟨fz_TB p.1 false p.2⟩ (VH.touch_l (o := false) (k := .lst) (ys := (p :: bl).map tb) h ⟨frzs_tb (p :: bl)⟩) (fun h => by cases h)
  have i1 : cBin gIx (cBin gIx (cVar 4) (cC (.int 0))) (cC (.int 1)) r = .ok (.val (BL false p.2)) r := ix_go (n := 1) (x := .val (tb p)) (k := .tup) (o := false) (xs := [nt p.1, BL false p.2]) (d := BL false p.2) i0 rfl rfl rfl rfl ⟨fz_BL _ _⟩ rfl (fun h => by cases h)
  exact listOf_go (x := .val (BL false p.2)) (o := false) (k := .lst) (xs := (VL.bi p.2).map .int) (xs' := (VL.bi p.2).map .int) i1 rfl rfl inferInstance rfl
theorem container_ok (ns : List Int) : ∃ (n m : Nat) (bl : List (Nat × List Bool)), F__law_container [script ns] = .ok (CN false n m bl) ∧ 1 ≤ n ∧ n ≤ 64 ∧ m ≤ 400 ∧ bl.length = ckn n m ∧ bl.length ≤ 40 ∧ ∀ p ∈ bl, p.1 < 1000000 ∧ p.2.length ≤ 30 := by
  obtain ⟨v, fv⟩ := Ds.first_ex ns
  have fs := Ds.frz_sc ns
  have c1 := VH.call_go (F := F__law_first) (n := 1) (xs := [.loc 0]) (ds := [script ns]) (ds' := [script ns]) (r := C8 ns none none none none none none none) (fs := cCons (cVar 0) cNil) (cons_ok (VL.cvar_loc rfl rfl) (nil_ok _)) rfl ⟨by show [frz (script ns)] = _; rw [fs]⟩ rfl fv inferInstance
  let V : Option D := some (.int v)
  have s1 := VH.asg_go (i := 1) (set_val c1) (r2 := C8 ns V none none none none none none) rfl
  obtain ⟨n, hne, hn, h64⟩ : ∃ n : Nat, 1 + v % 64 = (n : Int) ∧ 1 ≤ n ∧ n ≤ 64 := ⟨(1 + v % 64).toNat, by omega, by omega, by omega⟩
  have d2 := add_ok (fa := cC (.int 1)) (i := 1) (r := C8 ns V none none none none none none) rfl (mod_ok (fa := cVar 1) (fb := cC (.int 64)) (i := v) (j := 64) rfl rfl (by decide))
  rw [hne] at d2
  let N : Option D := some (nt n)
  have s2 := VH.asg_go (i := 2) (set_val d2) (r2 := C8 ns V N none none none none none) rfl
  obtain ⟨m0, hme, hm0⟩ : ∃ m : Nat, v / 64 % 401 = (m : Int) ∧ m ≤ 400 := ⟨(v / 64 % 401).toNat, by omega, by omega⟩
  have d3 := mod_ok (fb := cC (.int 401)) (j := 401) (div_ok (fa := cVar 1) (fb := cC (.int 64)) (i := v) (j := 64) (r := C8 ns V N none none none none none) rfl rfl (by decide) (by decide)) rfl (by decide)
  rw [hme] at d3
  have s3 := VH.asg_go (i := 3) (set_val d3) (r2 := C8 ns V N (some (nt m0)) none none none none) rfl
  have d4 := VH.min_ok (fa := cVar 3) (i := ((m0 : Nat) : Int)) (r := C8 ns V N (some (nt m0)) none none none none) rfl (mul_ok (fa := cC (.int 40)) (fb := cVar 2) (i := 40) (j := ((n : Nat) : Int)) (r := C8 ns V N (some (nt m0)) none none none none) rfl rfl (VH.mulOk_l (by decide)))
  obtain ⟨m, hmm, hm1, hm2⟩ : ∃ m : Nat, min ((m0 : Nat) : Int) (40 * ((n : Nat) : Int)) = (m : Int) ∧ m ≤ 400 ∧ m ≤ 40 * n := ⟨(min ((m0 : Nat) : Int) (40 * ((n : Nat) : Int))).toNat, by omega, by omega, by omega⟩
  rw [hmm] at d4
  let M : Option D := some (nt m)
  have s4 := VH.asg_go (i := 3) (set_val d4) (r2 := C8 ns V N M none none none none) rfl
  have hck : ckn n m ≤ 40 := by
    unfold ckn
    rw [Nat.div_le_iff_le_mul_add_pred (by omega)]
    omega
  have d5 := div_ok (fb := cVar 2) (j := ((n : Nat) : Int)) (sub_ok (fb := cC (.int 1)) (j := 1) (add_ok (fa := cVar 3) (fb := cVar 2) (i := ((m : Nat) : Int)) (j := ((n : Nat) : Int)) (r := C8 ns V N M none none none none) rfl rfl) rfl) rfl (by omega) (by omega)
  rw [show (((m : Nat) : Int) + ((n : Nat) : Int) - 1) / ((n : Nat) : Int) = ((ckn n m : Nat) : Int) by
    unfold ckn
    rw [show ((m : Nat) : Int) + ((n : Nat) : Int) - 1 = ((m + n - 1 : Nat) : Int) by omega]
    rfl] at d5
  have it := it_rngI d5 (by unfold within; exact decide_eq_true (by omega))
  rw [Int.toNat_natCast] at it
  obtain ⟨b0, hb0, hs0, e5⟩ := bks_ok ns V N M it (by omega)
  have s5 := VH.asg_go (i := 4) (set_val e5) (r2 := C8 ns V N M (some (.node .lst true (b0.map to))) none none none) rfl
  have t6 := eq_ok (fb := cC (.int 1)) (j := 1) (mod_ok (fb := cC (.int 4)) (j := 4) (div_ok (fa := cVar 1) (fb := cC (.int 25664)) (i := v) (j := 25664) (r := C8 ns V N M (some (.node .lst true (b0.map to))) none none none) rfl rfl (by decide) (by decide)) rfl (by decide)) rfl
  have s6 : ∃ bl : List (Nat × List Bool), bl.length = b0.length ∧ (∀ p ∈ bl, p.1 < 1000000 ∧ p.2.length ≤ 30) ∧ cIfS (cBin gEq (cBin gMod (cBin gDiv (cVar 1) (cC (.int 25664))) (cC (.int 4))) (cC (.int 1))) (cAsg (.nm 4) (cLc [6, 7] (.tp [6, 7]) (iLst (cVar 4)) none (cTup (cCons (cSet (cVar 6)) (cCons (cSet (cB (gListOf) (cCons (cBin gIx (cBin gIx (cVar 4) (cC (.int 0))) (cC (.int 1))) cNil))) cNil))))) cSkip (C8 ns V N M (some (.node .lst true (b0.map to))) none none none) = .nx (C8 ns V N M (some (.node .lst true (bl.map to))) none none none) := by
    by_cases h : v / 25664 % 4 = 1
    · rw [decide_eq_true h] at t6
      let q := C8 ns V N M (some (BK false b0)) none none none
      have it : iLst (cVar 4) (C8 ns V N M (some (.node .lst true (b0.map to))) none none none) = .ok (b0.map tb) q := it_lstG (o := false) (k := .lst) (set_loc (i := 4) (d := .node .lst true (b0.map to)) (d' := BK false b0) rfl rfl ⟨fto b0⟩ rfl) rfl
      have key : ∃ y : List Bool, (∀ p ∈ b0, y.length ≤ 30) ∧ ∀ p ∈ b0, cTup (cCons (cSet (cVar 6)) (cCons (cSet (cB (gListOf) (cCons (cBin gIx (cBin gIx (cVar 4) (cC (.int 0))) (cC (.int 1))) cNil))) cNil)) (C8 ns V N M (some (BK false b0)) none (some (nt p.1)) (some (BL false p.2))) = .ok (.val (to (p.1, y))) (C8 ns V N M (some (BK false b0)) none (some (nt p.1)) (some (BL false p.2))) := by
        cases b0 with
        | nil => exact ⟨[], (fun _ h => by cases h), fun _ h => by cases h⟩
        | cons p0 b1 => exact ⟨p0.2, fun _ _ => (hs0 p0 List.mem_cons_self).2, fun p _ => tup_ok (ds := [nt p.1, BL true p0.2]) (cons_ok (set_val (cvar_at (i := 6) rfl rfl)) (cons_ok (set_val (first_loc rfl)) (nil_ok _))) rfl (Nat.le_of_ble_eq_true rfl)⟩
      obtain ⟨y, hy, hk⟩ := key
      have z := lc_all (enc := tb) (g := fun p => to (p.1, y)) (t := .tp [6, 7]) (fi := iLst (cVar 4)) (fe := cTup (cCons (cSet (cVar 6)) (cCons (cSet (cB (gListOf) (cCons (cBin gIx (cBin gIx (cVar 4) (cC (.int 0))) (cC (.int 1))) cNil))) cNil))) (vs := [6, 7]) b0 (r0 := q) it rfl (by omega) fun p hp => ⟨C8 ns V N M (some (BK false b0)) none (some (nt p.1)) (some (BL false p.2)), rfl, C8 ns V N M (some (BK false b0)) none (some (nt p.1)) (some (BL false p.2)), set_val (hk p hp), rfl⟩
      have e : b0.map (fun p => to (p.1, y)) = (b0.map fun p => (p.1, y)).map to := by rw [List.map_map]; rfl
      rw [e] at z
      refine ⟨b0.map fun p => (p.1, y), List.length_map .., fun p hp => ?_, VH.ifs_y t6 rfl (VH.asg_go (set_val z) rfl)⟩
      obtain ⟨x, hx, rfl⟩ := List.mem_map.mp hp
      exact ⟨(hs0 x hx).1, hy x hx⟩
    · rw [decide_eq_false h] at t6
      exact ⟨b0, rfl, hs0, VH.ifs_n t6 rfl rfl⟩
  obtain ⟨bl, hbl, hs, s6⟩ := s6
  let r := C8 ns V N M (some (.node .lst true (bl.map to))) none none none
  have tt := tup_ok (ds := [nt n, nt m, BK false bl]) (cons_ok (set_val (cvar_at (i := 2) (r := r) rfl rfl)) (cons_ok (set_val (cvar_at (i := 3) (r := r) rfl rfl)) (cons_ok (set_loc (i := 4) (d := .node .lst true (bl.map to)) (d' := BK false bl) (r := r) (r1 := C8 ns V N M (some (BK false bl)) none none none) rfl rfl ⟨fto bl⟩ rfl) (nil_ok _)))) rfl (Nat.le_of_ble_eq_true rfl)
  refine ⟨n, m, bl, ?_, hn, h64, hm1, by omega, by omega, hs⟩
  unfold F__law_container f__law_container
  exact runF_go (r := C8 ns none none none none none none none) rfl (seq_go s1 (seq_go s2 (seq_go s3 (seq_go s4 (seq_go s5 (seq_go s6 (ret_go tt))))))) rfl

end K63.Lw

namespace K63.Lw
open VH K63
open K63.Pk
open K63.Ds (sd)
abbrev Z (ns : List Int) (ct ha bi ke fo wa so st k x bt : Option D) : Rho := [some (script ns), ct, ha, bi, ke, fo, wa, so, st, k, x, bt]
theorem sl_tup {r : Rho} {i n m : Nat} {d : D} (h : r[i]? = some (some (.node .tup false [nt n, nt m, d]))) (hf : frz d = d) : cSl (cVar i) none (some (cC (.int 2))) r = .ok (.val (.node .tup false [nt n, nt m])) r := by
  rw [q_sl, VL.cvar_loc h rfl, bd_ok, q_part0, VH.part_ok (f := cC (.int 2)) (r := r) (r1 := r) (i := 2) rfl, q_gSl, VL.opd_loc' h]
  show EO.ok (.val (.node .tup false (VL.cutD (frzs [nt n, nt m, d]) none (some 2)))) (touch r (.loc i)) = _
  have e : frzs [nt n, nt m, d] = [nt n, nt m, d] := by show [nt n, nt m, frz d] = _; rw [hf]
  rw [e, VH.cutD_ns _ (by decide), VH.touch_l (o := false) (k := .tup) (ys := [nt n, nt m, d]) h ⟨e⟩]
  rfl
theorem bool_no (A : Rho → Option Nat) (i : Int) {r : Rho} {v : Nat} (h : r[v]? = some (some (.int i))) : cB (gIsi (etab tab)) (cCons (cVar v) (cCons (cC (.ty "bool")) cNil)) r = .ok (.val (.bl false)) r :=
  VH.isi_go (n := "bool") (E := etab tab) (b := false) (cvar_at h rfl) rfl rfl
theorem sp_loop (ns : List Int) (ct ha bi fo wa so x bt : Option D) (b : Bool) (W : List Bool) (hW : W.length ≤ 3400) : ∀ (ks : List D) (o : Bool) (a c : Int) (k : Option D), ∃ (o' : Bool) (a' c' : Int) (k' : Option D), forL (.nm 9) (cIfS (cNot (cCall 1 F__law_read (cCons (cCallQ 1 1 F__law_spoilt (cCons (cSet (cVar 4)) (cCons (cVar 8) cNil))) cNil))) (cRet (cC (.bl false))) cSkip) ks (Z ns ct ha bi (some (BL o W)) fo wa so (some (sd a b c)) k x bt) = .nx (Z ns ct ha bi (some (BL o' W)) fo wa so (some (sd a' b c')) k' x bt)
  | [], o, a, c, k => ⟨o, a, c, k, rfl⟩
  | d :: ks, o, a, c, k => by
    obtain ⟨q, Y, a1, c1, e1, hY⟩ := spoilt_ok W (by omega) a b c
    obtain ⟨o', a', c', k', e⟩ := sp_loop ns ct ha bi fo wa so x bt b W hW ks false a1 c1 (some d)
    have cq := callQ_loc (q := 1) (n := 1) (i := 8) (F := F__law_spoilt) (fs := cCons (cSet (cVar 4)) (cCons (cVar 8) cNil)) (xs := [.val (BL false W), .loc 8]) (rest := []) (ds1 := [BL false W]) (ds2 := []) (d0 := sd a b c) (d := BL q Y) (d0' := sd a1 b c1) (r1 := Z ns ct ha bi (some (BL false W)) fo wa so (some (sd a b c)) (some d) x bt) (cons_ok (set_loc (i := 4) (d := BL o W) (r := Z ns ct ha bi (some (BL o W)) fo wa so (some (sd a b c)) (some d) x bt) rfl rfl inferInstance rfl) (cons_ok (VL.cvar_loc rfl rfl) (nil_ok _))) rfl rfl rfl rfl rfl (by
      show F__law_spoilt (sd a b c) (frzs [BL false W]) = _
      rw [show frzs [BL false W] = [BL false W] by show [frz (BL false W)] = _; rw [fz_BL]]
      exact e1)
    have cr := VH.call_go (F := F__law_read) (n := 1) (xs := [.val (BL q Y)]) (ds := [BL q Y]) (ds' := [BL false Y]) (cons_ok cq (nil_ok _)) rfl ⟨by show [frz (BL q Y)] = _; rw [fz_BL]⟩ rfl (read_ok Y (by omega)) inferInstance
    exact ⟨o', a', c', k', forL_c (r1 := Z ns ct ha bi (some (BL o W)) fo wa so (some (sd a b c)) (some d) x bt) rfl (VH.ifs_n (VH.not_t cr) rfl rfl) e⟩
theorem law_plain0 (ns : List Int) (hl : ns.length ≤ 63) : F_law [script ns] = .ok (.bl true) := by
  have fs := Ds.frz_sc ns
  obtain ⟨n, m, bl, fc, hn, h64, hm, hbl, h40, hs⟩ := container_ok ns
  have hcb := cat_b bl hs
  have sm : SmC bl := ⟨by omega, fun p hp => by have := (hs p hp).1; omega, by omega⟩
  have fcb := bits_ok hn h64 hm hbl sm
  have fwr := written_ok (n := n) (m := m) (by omega) (by omega) sm
  have hW := wr_b (n := n) (m := m) h64 hm h40 hs
  have fr := readAny (wrC n m bl) (by omega)
  rw [rdC_wr hn h64 hm hbl] at fr
  have fr : F_read_container [BL false (wrC n m bl)] = .ok (CO false true n m bl) := fr
  generalize wrC n m bl = W at *
  let CT : Option D := some (CN false n m bl)
  let HA : Option D := some (CO false true n m bl)
  let BT : Option D := some (BL true W)
  have fzc : frz (CN false n m bl) = CN false n m bl := fz_CN false n m bl
  have c1 := VH.call_any (F := F__law_container) (n := 1) (xs := [.loc 0]) (ds := [script ns]) (ds' := [script ns]) (r := Z ns none none none none none none none none none none none) (fs := cCons (cVar 0) cNil) (cons_ok (VL.cvar_loc rfl rfl) (nil_ok _)) rfl ⟨by show [frz (script ns)] = _; rw [fs]⟩ rfl fc (by
    show [some (frz (script ns)), none, none, none, none, none, none, none, none, none, none, none] = _
    rw [fs])
  have s1 := VH.asg_go (i := 1) (set_val c1) (r2 := Z ns CT none none none none none none none none none none) rfl
  -- a copy
  let r1 := Z ns CT none none none none none none none none none none
  have i0 : cBin gIx (cVar 1) (cC (.int 0)) r1 = .ok (.val (nt n)) r1 := ixA_go (n := 0) (x := .loc 1) (k := .tup) (o := false) (xs := [nt n, nt m, BK false bl]) (VL.cvar_loc rfl rfl) rfl rfl rfl rfl rfl
  have i1 : cBin gIx (cVar 1) (cC (.int 1)) r1 = .ok (.val (nt m)) r1 := ixA_go (n := 1) (x := .loc 1) (k := .tup) (o := false) (xs := [nt n, nt m, BK false bl]) (VL.cvar_loc rfl rfl) rfl rfl rfl rfl rfl
  have it2 : iLst (cBin gIx (cVar 1) (cC (.int 2))) r1 = .ok (bl.map tb) r1 := it_lstG (o := false) (k := .lst) (set_val (ixTup (i := 1) (n := n) (m := m) (d := BK false bl) rfl (fzBK bl) rfl)) rfl
  have z2 := lc_all (enc := tb) (g := to) (t := .tp [6, 3]) (fe := cTup (cCons (cSet (cVar 6)) (cCons (cSet (cB (gListOf) (cCons (cVar 3) cNil))) cNil))) (vs := [6, 3]) bl (r0 := r1) it2 rfl (by omega) fun p hp => ⟨Z ns CT none (some (BL false p.2)) none none (some (nt p.1)) none none none none none, rfl, Z ns CT none (some (BL false p.2)) none none (some (nt p.1)) none none none none none, set_val (tup_ok (ds := [nt p.1, BL true p.2]) (cons_ok (set_val (cvar_at (i := 6) rfl rfl)) (cons_ok (set_val (listOf_BL (i := 3) (o := false) (W := p.2) rfl)) (nil_ok _))) rfl (Nat.le_of_ble_eq_true rfl)), rfl⟩
  have tt2 := tup_ok (ds := [nt n, nt m, .node .lst true (bl.map to)]) (cons_ok (set_val i0) (cons_ok (set_val i1) (cons_ok (set_val z2) (nil_ok _)))) rfl (Nat.le_of_ble_eq_true rfl)
  have s2 := VH.asg_go (i := 2) (set_val tt2) (r2 := Z ns CT HA none none none none none none none none none) rfl
  -- its bits
  have cbits : ∀ (bi ke fo wa so : Option D), cCall 1 F_container_bits (cCons (cVar 2) cNil) (Z ns CT HA bi ke fo wa so none none none none) = .ok (.val (BL true W)) (Z ns CT HA bi ke fo wa so none none none none) := fun bi ke fo wa so =>
    VH.call_go (xs := [.loc 2]) (ds := [CO false true n m bl]) (ds' := [CN false n m bl]) (cons_ok (VL.cvar_loc rfl rfl) (nil_ok _)) rfl ⟨by show [frz (CO false true n m bl)] = _; rw [fz_CO]⟩ rfl fcb inferInstance
  have s3 := VH.asg_go (i := 3) (set_val (cbits none none none none none)) (r2 := Z ns CT HA BT none none none none none none none none) rfl
  have hc : ∀ (bi ke fo wa so : Option D), cBin gNe (cVar 2) (cVar 1) (Z ns CT HA bi ke fo wa so none none none none) = .ok (.val (.bl false)) (Z ns CT HA bi ke fo wa so none none none none) := fun bi ke fo wa so => VH.neD_go (x := .loc 2) (y := .loc 1) (VL.cvar_loc rfl rfl) (VL.cvar_loc rfl rfl) rfl rfl (ne_co n m bl)
  let r3 := Z ns CT HA BT none none none none none none none none
  have a4 := VH.isi_go (fa := cVar 3) (x := .loc 3) (n := "list") (E := etab tab) (b := true) (r := r3) (VL.cvar_loc rfl rfl) rfl rfl
  have cw := VH.call_go (F := F__law_written) (n := 1) (xs := [.loc 1]) (ds := [CN false n m bl]) (ds' := [CN false n m bl]) (r := r3) (fs := cCons (cVar 1) cNil) (cons_ok (VL.cvar_loc rfl rfl) (nil_ok _)) rfl ⟨by show [frz (CN false n m bl)] = _; rw [fzc]⟩ rfl fwr inferInstance
  have b4 := VH.neD_go (fa := cVar 3) (x := .loc 3) (y := .val (BL true W)) (r := r3) (VL.cvar_loc rfl rfl) cw rfl rfl (ne_B true true W)
  have t4 := VH.or_go (VH.not_t a4) (VH.or_go b4 (hc _ _ _ _ _))
  have s5 := VH.asg_go (i := 4) (set_val (listOf_BL (i := 3) (o := true) (W := W) (r := r3) rfl)) (r2 := Z ns CT HA BT BT none none none none none none none) rfl
  -- read again
  have crd : ∀ (fo wa so : Option D), cCall 1 F_read_container (cCons (cVar 3) cNil) (Z ns CT HA BT BT fo wa so none none none none) = .ok (.val (CO false true n m bl)) (Z ns CT HA BT BT fo wa so none none none none) := fun fo wa so =>
    VH.call_go (xs := [.loc 3]) (ds := [BL true W]) (ds' := [BL false W]) (cons_ok (VL.cvar_loc rfl rfl) (nil_ok _)) rfl ⟨by show [frz (BL true W)] = _; rw [fz_BL]⟩ rfl fr inferInstance
  let r6 := Z ns CT HA BT BT HA none none none none none none
  have s6 := VH.asg_go (i := 5) (set_val (crd none none none)) (r2 := r6) rfl
  have hk : ∀ (fo wa so : Option D), cBin gNe (cVar 3) (cVar 4) (Z ns CT HA BT BT fo wa so none none none none) = .ok (.val (.bl false)) (Z ns CT HA BT BT fo wa so none none none none) := fun fo wa so => VH.neD_go (x := .loc 3) (y := .loc 4) (VL.cvar_loc rfl rfl) (VL.cvar_loc rfl rfl) rfl rfl (ne_B true true W)
  have a7 := VH.neD_go (fa := cVar 5) (fb := cVar 1) (x := .loc 5) (y := .loc 1) (r := r6) (VL.cvar_loc rfl rfl) (VL.cvar_loc rfl rfl) rfl rfl (ne_co n m bl)
  have l7 : cLcO 3 [11] (.nm 11) (some (cB (gIsi (etab tab)) (cCons (cVar 11) (cCons (cC (.ty "bool")) cNil)))) (cVar 11) r6 = .ok (.val (.node .lst true [])) r6 := by
    have q := VL.lcO_map (i := 3) (t := .nm 11) (fc := some (cB (gIsi (etab tab)) (cCons (cVar 11) (cCons (cC (.ty "bool")) cNil)))) (fe := cVar 11) (vs := [11]) (ds := (VL.bi W).map .int) (r := r6) (r0 := r6) (p := fun _ => false) (q := fun d => d) (by decide) rfl (frzs_ints _) rfl (by rw [List.length_map, Pk.bi_len]; omega) (fun d hd => by
      obtain ⟨i, _, rfl⟩ := List.mem_map.mp hd
      exact ⟨Z ns CT HA BT BT HA none none none none none (some (.int i)), rfl, Z ns CT HA BT BT HA none none none none none (some (.int i)), bool_no (fun _ => none) i rfl, rfl, fun h => by cases h⟩)
    rw [List.filter_eq_nil_iff.mpr (fun _ _ => by simp)] at q
    exact q
  have c7 := VH.neD_go (fb := cLst cNil) (y := .val (.node .lst true [])) l7 rfl rfl rfl (VL.ne_lints (o := true) (o' := true) [] [])
  rw [decide_eq_true rfl] at c7
  have t7 := VH.or_go a7 (VH.or_go (hk HA none none) c7)
  -- no truths in it
  let NG := fun (fo wa so x : Option D) => Z ns CT CT (some (BL false W)) (some (BL false W)) fo wa so none none x none
  have fzw : ∀ (fo fo' : Option D), fo.map frz = fo' → ∀ wa : Option D, wa.map frz = wa → frzR (Z ns CT HA BT BT fo wa wa none none none none) = NG fo' wa wa none := fun fo fo' h wa hw => by
    show [some (frz (script ns)), some (frz (CN false n m bl)), some (frz (CO false true n m bl)), some (frz (BL true W)), some (frz (BL true W)), fo.map frz, wa.map frz, wa.map frz, none, none, none, none] = _
    rw [fs, fzc, fz_CO, fz_BL, h, hw]
  have fzn : frzR (NG CT none none none) = NG CT none none none := by
    show [some (frz (script ns)), some (frz (CN false n m bl)), some (frz (CN false n m bl)), some (frz (BL false W)), some (frz (BL false W)), some (frz (CN false n m bl)), none, none, none, none, none, none] = _
    rw [fs, fzc, fz_BL]
  let N0 := NG CT none none none
  have f8 : frzR r6 = N0 := fzw HA CT (by show some (frz (CO false true n m bl)) = _; rw [fz_CO]) none rfl
  have p8 : cPure (cLc [6, 7] (.tp [6, 7]) (iLst (cBin gIx (cVar 5) (cC (.int 2)))) none (cVar 6)) N0 = .ok (.val (.node .lst true ((bl.map (·.1)).map nt))) N0 := by
    refine VL.pure_ok (r1 := N0) ?_ ?_
    · rw [fzn]
      have z := lc_all (enc := tb) (g := fun p => nt p.1) (t := .tp [6, 7]) (fi := iLst (cBin gIx (cVar 5) (cC (.int 2)))) (fe := cVar 6) (vs := [6, 7]) bl (r := N0) (r1 := N0) (r0 := N0) (it_lstG (o := false) (k := .lst) (set_val (ixTup (i := 5) (n := n) (m := m) (d := BK false bl) rfl (fzBK bl) rfl)) rfl) rfl (by omega) fun p hp => ⟨NG CT (some (nt p.1)) (some (BL false p.2)) none, rfl, NG CT (some (nt p.1)) (some (BL false p.2)) none, set_val (cvar_at (i := 6) rfl rfl), rfl⟩
      rw [show bl.map (fun p => nt p.1) = (bl.map (·.1)).map nt by rw [List.map_map]; rfl] at z
      exact z
    · rw [show (bl.map (·.1)).map nt = (Bt.nn (bl.map (·.1))).map D.int by unfold Bt.nn; rw [List.map_map, List.map_map, List.map_map]; rfl]
      exact noL_lints _
  have l8 := VH.listOf_go (x := .val (.node .tup false [nt n, nt m])) (o := false) (k := .tup) (xs := [nt n, nt m]) (xs' := [nt n, nt m]) (sl_tup (i := 5) (n := n) (m := m) (d := BK false bl) (r := N0) rfl (fzBK bl)) rfl rfl inferInstance rfl
  have a8 := addL_go (x := .val (.node .lst true [nt n, nt m])) (o := true) (o' := true) (xs := [nt n, nt m]) (ys := (bl.map (·.1)).map nt) (xs' := [nt n, nt m]) (ys' := (bl.map (·.1)).map nt) l8 p8 rfl rfl inferInstance ⟨by
    rw [show (bl.map (·.1)).map nt = (Bt.nn (bl.map (·.1))).map D.int by unfold Bt.nn; rw [List.map_map, List.map_map, List.map_map]; rfl]
    exact frzs_ints _⟩ (by rw [List.length_map, List.length_map]; show 2 + _ ≤ _; omega) rfl rfl
  have it8 := it_lstG (o := true) (k := .lst) (ds := [nt n, nt m] ++ (bl.map (·.1)).map nt) (set_val a8) rfl
  have q8 := VH.lc_filt (v := 10) (fc := cB (gIsi (etab tab)) (cCons (cVar 10) (cCons (cC (.ty "bool")) cNil))) (n :: m :: bl.map (·.1)) (fun _ => false) (r1 := N0) (r0 := N0) it8 rfl rfl (by rw [List.length_cons, List.length_cons, List.length_map]; omega) (fun k hk => bool_no (fun _ => none) ((k : Nat) : Int) rfl)
  have hf8 : (n :: m :: bl.map (·.1)).filter (fun _ => false) = [] := List.filter_eq_nil_iff.mpr (fun _ _ => by simp)
  rw [hf8] at q8
  have q8 : cLc [10] (.nm 10) (iLst (cBin gAdd (cB (gListOf) (cCons (cSl (cVar 5) none (some (cC (.int 2)))) cNil)) (cPure (cLc [6, 7] (.tp [6, 7]) (iLst (cBin gIx (cVar 5) (cC (.int 2)))) none (cVar 6))))) (some (cB (gIsi (etab tab)) (cCons (cVar 10) (cCons (cC (.ty "bool")) cNil)))) (cVar 10) N0 = .ok (.val (.node .lst true [])) N0 := q8
  have q8p := VL.pure_ok (r := N0) ((congrArg _ fzn).trans q8) rfl
  have n8 := VH.neD_go (fb := cLst cNil) (y := .val (.node .lst true [])) q8p rfl rfl rfl (VL.ne_lints (o := true) (o' := true) [] [])
  rw [decide_eq_true rfl] at n8
  have t8 := VL.pure_ok (r := r6) ((congrArg _ f8).trans n8) rfl
  -- each block's bits one longer
  let G : Option D := some (.node .tup false [nt n, nt m, .node .lst true (bl.map (t2 1))])
  have s9 : ∃ wa : Option D, cForApp 5 [2] 6 7 1 r6 = .nx (Z ns CT HA BT BT G wa wa none none none none) ∧ wa.map frz = wa := by
    have z := forApp2 (i := 5) (a := 6) (b := 7) (c := 1) (r := r6) rfl (by show 7 < 12; decide) fun p hp => by have := (hs p hp).2; omega
    by_cases h0 : bl = []
    · rw [if_pos h0] at z
      refine ⟨none, ?_, rfl⟩
      rw [z]
      show SO.nx (Z ns CT HA BT BT (some (CO false true n m bl)) _ _ _ _ _ _) = SO.nx (Z ns CT HA BT BT (some (.node .tup false [nt n, nt m, .node .lst true (bl.map (t2 1))])) _ _ _ _ _ _)
      rw [h0]
      rfl
    · rw [if_neg h0] at z
      exact ⟨some .any, z, rfl⟩
  obtain ⟨wa, s9, fzwa⟩ := s9
  have fz2 : frz (.node .lst true (bl.map (t2 1))) = .node .lst false (bl.map (t2f 1)) := by
    show D.node .lst false (frzs _) = _
    rw [frzs_t2]
  have fz2f : frz (.node .lst false (bl.map (t2f 1))) = .node .lst false (bl.map (t2f 1)) := by
    show D.node .lst false (frzs _) = _
    rw [frzs_t2f]
  let GN : Option D := some (.node .tup false [nt n, nt m, .node .lst false (bl.map (t2f 1))])
  have f10 : frzR (Z ns CT HA BT BT G wa wa none none none none) = NG GN wa wa none := fzw G GN (by show some (D.node .tup false [nt n, nt m, frz (.node .lst true (bl.map (t2 1)))]) = _; rw [fz2]) wa fzwa
  have i10 : cBin gIx (cVar 5) (cC (.int 2)) (NG GN wa wa none) = .ok (.val (.node .lst false (bl.map (t2f 1)))) (NG GN wa wa none) := ixTup (i := 5) (n := n) (m := m) rfl fz2f rfl
  have z10 := lc_all (enc := tb) (g := t2 1) (t := .tp [6, 7]) (fi := iLst (cBin gIx (cVar 1) (cC (.int 2)))) (r := NG GN wa wa none) (fe := cTup (cCons (cSet (cVar 6)) (cCons (cSet (cBin gAdd (cVar 7) (cLst (cCons (cSet (cC (.int 1))) cNil)))) cNil))) (vs := [6, 7]) bl (r1 := NG GN wa wa none) (r0 := NG GN none none none) (it_lstG (o := false) (k := .lst) (set_val (ixTup (i := 1) (n := n) (m := m) (d := BK false bl) rfl (fzBK bl) rfl)) rfl) rfl (by omega) fun p hp => ⟨NG GN (some (nt p.1)) (some (BL false p.2)) none, rfl, NG GN (some (nt p.1)) (some (BL false p.2)) none, set_val (tup_ok (ds := [nt p.1, .node .lst true ((VL.bi p.2).map .int ++ [.int 1])]) (cons_ok (set_val (cvar_at (i := 6) rfl rfl)) (cons_ok (set_val (addL_go (fa := cVar 7) (x := .loc 7) (o := false) (xs := (VL.bi p.2).map .int) (ys := [.int 1]) (xs' := (VL.bi p.2).map .int) (ys' := [.int 1]) (r := NG GN (some (nt p.1)) (some (BL false p.2)) none) (VL.cvar_loc rfl rfl) (VH.lst_ok (ds := [.int 1]) (cons_ok (set_val (cc_d (.int 1) _)) (nil_ok _)) rfl (Nat.le_of_ble_eq_true rfl)) rfl rfl inferInstance inferInstance (by rw [List.length_map, Pk.bi_len]; have := (hs p hp).2; show _ + 1 ≤ _; omega) rfl (VH.touch_l (o := false) (k := .lst) (ys := (VL.bi p.2).map .int) rfl inferInstance))) (nil_ok _))) rfl (Nat.le_of_ble_eq_true rfl)), rfl⟩
  have t10 := VL.pure_ok (fa := cBin gNe (cBin gIx (cVar 5) (cC (.int 2))) (cLc [6, 7] (.tp [6, 7]) (iLst (cBin gIx (cVar 1) (cC (.int 2)))) none (cTup (cCons (cSet (cVar 6)) (cCons (cSet (cBin gAdd (cVar 7) (cLst (cCons (cSet (cC (.int 1))) cNil)))) cNil))))) (r := Z ns CT HA BT BT G wa wa none none none none) (d := .bl false) (r1 := backR (NG GN wa wa none) (NG GN none none none) [6, 7]) (by
    rw [f10]
    exact VH.neD_go i10 z10 rfl rfl (ne_t2 bl)) rfl
  -- one block more
  let G2 : Option D := some (.node .tup false [nt n, nt m, D.node .lst true (bl.map (t2 1) ++ [(D.node .tup false [D.int 0, D.node .lst true []] : D)])])
  have s11 : cExpr (cAppP 5 (cC (.int 2)) (cTup (cCons (cSet (cC (.int 0))) (cCons (cSet (cLst cNil)) cNil)))) (Z ns CT HA BT BT G wa wa none none none none) = .nx (Z ns CT HA BT BT G2 wa wa none none none none) :=
    appP_ok (i := 5) (m := 2) (kk := 2) (k := .tup) (o := false) (ds := [nt n, nt m, .node .lst true (bl.map (t2 1))]) (acc := bl.map (t2 1)) (d := .node .tup false [.int 0, .node .lst true []]) rfl rfl rfl rfl rfl rfl (tup_ok (ds := [.int 0, .node .lst true []]) (cons_ok (set_val (cc_d (.int 0) _)) (cons_ok (set_val rfl) (nil_ok _))) rfl (Nat.le_of_ble_eq_true rfl)) (by rw [List.length_map]; omega)
  have a12 := VH.neD_go (fb := cVar 1) (x := .val (CO false true n m bl)) (y := .loc 1) (crd G2 wa wa) (VL.cvar_loc rfl rfl) rfl rfl (ne_co n m bl)
  have t12 := VH.or_go (hk G2 wa wa) a12
  -- the bits one longer
  let B2 : Option D := some (.node .lst true ((VL.bi W).map .int ++ [.int 1]))
  have s13 : cExpr (cApp 3 (cC (.int 1))) (Z ns CT HA BT BT G2 wa wa none none none none) = .nx (Z ns CT HA B2 BT G2 wa wa none none none none) :=
    VH.app_go (i := 3) (ds := (VL.bi W).map .int) rfl (set_val (cc_d (.int 1) _)) rfl (by rw [List.length_map, Pk.bi_len]; omega) rfl
  have a14 := VH.neD_go (fb := cVar 4) (x := .val (BL true W)) (y := .loc 4) (cbits B2 BT G2 wa wa) (VL.cvar_loc rfl rfl) rfl rfl (ne_B true true W)
  have t14 := VH.or_go (hc B2 BT G2 wa wa) a14
  -- bits spoilt
  obtain ⟨a, b, fst⟩ := Ds.state_ok ns 1
  have cst := VH.call_go (F := F__law_state) (n := 2) (xs := [.loc 0, .val (nt 1)]) (ds := [script ns, nt 1]) (ds' := [script ns, nt 1]) (fs := cCons (cVar 0) (cCons (cC (.int 1)) cNil)) (r := Z ns CT HA B2 BT G2 wa wa none none none none) (cons_ok (VL.cvar_loc rfl rfl) (cons_ok (cc_d _ _) (nil_ok _))) rfl ⟨by show [frz (script ns), _] = _; rw [fs]; rfl⟩ rfl fst ⟨rfl⟩
  have s15 := VH.asg_go (i := 8) (set_val cst) (r2 := Z ns CT HA B2 BT G2 wa wa (some (sd a b 1)) none none none) rfl
  obtain ⟨o', a', c', k', lp⟩ := sp_loop ns CT HA B2 G2 wa wa none none b W (by omega) (rngD 0 1 4) true a 1 none
  have it16 : iRng rngI1 (cCons (cC (.int 4)) cNil) (Z ns CT HA B2 BT G2 wa wa (some (sd a b 1)) none none none) = .ok (rngD 0 1 4) (Z ns CT HA B2 BT G2 wa wa (some (sd a b 1)) none none none) := it_rngI (n := 4) rfl (by decide +kernel)
  have s16 := for_go (t := .nm 9) it16 lp
  unfold F_law
  refine runF_go (r := Z ns none none none none none none none none none none none) (x := .val (.bl true)) (r1 := Z ns CT HA B2 (some (BL o' W)) G2 wa wa (some (sd a' b c')) k' none none) rfl ?_ rfl
  unfold f_law
  exact seq_go s1 (seq_go s2 (seq_go s3 (seq_go (VH.ifs_n t4 rfl rfl) (seq_go s5 (seq_go s6 (seq_go (VH.ifs_n t7 rfl rfl) (seq_go (VH.ifs_n t8 rfl rfl) (seq_go s9 (seq_go (VH.ifs_n t10 rfl rfl) (seq_go s11 (seq_go (VH.ifs_n t12 rfl rfl) (seq_go s13 (seq_go (VH.ifs_n t14 rfl rfl) (seq_go s15 (seq_go s16 (ret_go rfl))))))))))))))))

end K63.Lw
namespace K63
open VL
theorem law_plain (ns : List Int) (hl : ns.length ≤ 63) : F_law [script ns] = .ok (.bl true) := Lw.law_plain0 ns hl
end K63

namespace K63
local macro_rules | `(tactic| walk_at "S") => `(tactic| exact ⟨⟨rfl, rfl, rfl, by decide +kernel, rfl, by decide +kernel, by decide +kernel⟩, rfl, by decide +kernel, by decide +kernel, by decide +kernel⟩) -- own
def top (i : Nat) : Stmt := PySem.Challenge.pw_packhall_k63_bits_of_containers.main.body.getD i (.Pass ⟨0, 0, 0, 0⟩)
abbrev s__law_first : Stmt := top 26
def N__law_first : List Str := ["script"]
theorem sc__law_first : FnQ N__law_first N__law_first [] ["script"] (defScope s__law_first) := by walk_at "S"
abbrev s__law_draw : Stmt := top 25
def N__law_draw : List Str := ["state", "many", "found", "x"]
theorem sc__law_draw : FnQ N__law_draw N__law_draw [] ["state", "many"] (defScope s__law_draw) := by walk_at "S"
abbrev s__law_block : Stmt := top 31
def N__law_block : List Str := ["state", "way", "k"]
theorem sc__law_block : FnQ N__law_block ["state", "way"] ["_law_draw", "range"] ["state"] (defScope s__law_block) := by walk_at "S"
abbrev s__law_state : Stmt := top 24
def N__law_state : List Str := ["script", "k", "rest"]
theorem sc__law_state : FnQ N__law_state N__law_state ["len"] ["script", "k"] (defScope s__law_state) := by walk_at "S"
abbrev s__law_container : Stmt := top 32
def N__law_container : List Str := ["script", "first", "size", "total", "blocks", "k", "way", "bits"]
theorem sc__law_container : FnQ N__law_container ["script", "first", "size", "total", "blocks"] ["_law_first", "min", "range"] ["script"] (defScope s__law_container) := by walk_at "S"
abbrev s_blocks_for : Stmt := top 19
def N_blocks_for : List Str := ["size", "total"]
theorem sc_blocks_for : FnQ N_blocks_for N_blocks_for [] ["size", "total"] (defScope s_blocks_for) := by walk_at "S"
abbrev s_need_container : Stmt := top 20
def N_need_container : List Str := ["container", "size", "total", "blocks", "way", "bits"]
theorem sc_need_container : FnQ N_need_container N_need_container ["MOST_SIZE", "MOST_SIGNS", "Broken", "len", "blocks_for"] ["container"] (defScope s_need_container) := by walk_at "S"
abbrev s_figures_of : Stmt := top 10
def N_figures_of : List Str := ["n", "found"]
theorem sc_figures_of : FnQ N_figures_of N_figures_of [] ["n"] (defScope s_figures_of) := by walk_at "S"
abbrev s_ending_bits : Stmt := top 12
def N_ending_bits : List Str := ["n", "found"]
theorem sc_ending_bits : FnQ N_ending_bits N_ending_bits ["NoNumber", "figures_of", "len"] ["n"] (defScope s_ending_bits) := by walk_at "S"
abbrev s_row_bits : Stmt := top 14
def N_row_bits : List Str := ["numbers", "found", "number"]
theorem sc_row_bits : FnQ N_row_bits N_row_bits ["ending_bits", "len"] ["numbers"] (defScope s_row_bits) := by walk_at "S"
abbrev s_container_bits : Stmt := top 21
def N_container_bits : List Str := ["container", "size", "total", "blocks", "numbers", "behind", "way", "bits"]
theorem sc_container_bits : FnQ N_container_bits N_container_bits ["need_container", "len", "row_bits"] ["container"] (defScope s_container_bits) := by walk_at "S"
abbrev s_number_of : Stmt := top 11
def N_number_of : List Str := ["bits", "found", "bit"]
theorem sc_number_of : FnQ N_number_of N_number_of [] ["bits"] (defScope s_number_of) := by walk_at "S"
abbrev s_read_ending : Stmt := top 13
def N_read_ending : List Str := ["bits", "at", "first", "behind"]
theorem sc_read_ending : FnQ N_read_ending N_read_ending ["Broken", "len", "number_of"] ["bits", "at"] (defScope s_read_ending) := by walk_at "S"
abbrev s_read_row : Stmt := top 15
def N_read_row : List Str := ["bits", "at", "many", "place", "numbers", "number"]
theorem sc_read_row : FnQ N_read_row N_read_row ["read_ending", "len"] ["bits", "at"] (defScope s_read_row) := by walk_at "S"
abbrev s_read_container : Stmt := top 22
def N_read_container : List Str := ["bits", "numbers", "place", "blocks", "k", "container"]
theorem sc_read_container : FnQ N_read_container N_read_container ["read_row", "len", "Broken", "range", "need_container"] ["bits"] (defScope s_read_container) := by walk_at "S"
abbrev s__law_ending : Stmt := top 27
def N__law_ending : List Str := ["number", "bits"]
theorem sc__law_ending : FnQ N__law_ending N__law_ending ["len"] ["number"] (defScope s__law_ending) := by walk_at "S"
abbrev s__law_row : Stmt := top 28
def N__law_row : List Str := ["numbers", "bits", "number"]
theorem sc__law_row : FnQ N__law_row N__law_row ["_law_ending", "len"] ["numbers"] (defScope s__law_row) := by walk_at "S"
abbrev s__law_written : Stmt := top 33
def N__law_written : List Str := ["container", "numbers", "behind", "way", "bits"]
theorem sc__law_written : FnQ N__law_written N__law_written ["len", "_law_row"] ["container"] (defScope s__law_written) := by walk_at "S"
abbrev s__law_read_ending : Stmt := top 29
def N__law_read_ending : List Str := ["bits", "at", "noughts", "behind", "number", "bit"]
theorem sc__law_read_ending : FnQ N__law_read_ending N__law_read_ending ["len"] ["bits", "at"] (defScope s__law_read_ending) := by walk_at "S"
abbrev s__law_read_row : Stmt := top 30
def N__law_read_row : List Str := ["bits", "at", "many", "numbers", "place", "told"]
theorem sc__law_read_row : FnQ N__law_read_row N__law_read_row ["_law_read_ending", "len"] ["bits", "at"] (defScope s__law_read_row) := by walk_at "S"
abbrev s__law_due : Stmt := top 34
def N__law_due : List Str := ["bits", "told", "size", "total", "place", "blocks", "k"]
theorem sc__law_due : FnQ N__law_due N__law_due ["_law_read_row", "len", "range"] ["bits"] (defScope s__law_due) := by walk_at "S"
abbrev s__law_read : Stmt := top 36
def N__law_read : List Str := ["bits", "caught", "found", "handed", "e", "due", "others"]
theorem sc__law_read : FnQ N__law_read N__law_read ["list", "read_container", "_law_due", "isinstance", "tuple", "NoCode", "NoName", "NoNumber", "NoPlace", "NoRow", "NoText", "Broken", "ValueError"] ["bits"] (defScope s__law_read) := by walk_at "S"
abbrev s__law_spoilt : Stmt := top 35
def N__law_spoilt : List Str := ["bits", "state", "at", "kind", "k", "bit"]
theorem sc__law_spoilt : FnQ N__law_spoilt ["bits", "state", "at", "kind"] ["_law_draw", "len", "range", "min"] ["bits", "state"] (defScope s__law_spoilt) := by walk_at "S"
abbrev s_law : Stmt := top 37
def N_law : List Str := ["script", "container", "handed", "bits", "kept", "found", "way", "some", "state", "k", "x", "bit"]
theorem sc_law : FnQ N_law ["script", "container", "handed", "bits", "kept", "found", "way", "some", "state", "k"] ["_law_container", "list", "container_bits", "isinstance", "_law_written", "read_container", "_law_state", "range", "_law_read", "_law_spoilt"] ["script"] (defScope s_law) := by walk_at "S"
def S__law_block_1 : List (Str × NameKind) := [(".0", .local), ("k", .local), ("_law_draw", .globalImplicit), ("state", .free)]
def S__law_container_1 : List (Str × NameKind) := [(".0", .local), ("k", .local), ("_law_block", .globalImplicit), ("_law_state", .globalImplicit), ("script", .free)]
def S__law_container_2 : List (Str × NameKind) := [(".0", .local), ("way", .local), ("bits", .local), ("list", .globalImplicit), ("blocks", .free)]
def S__law_spoilt_1 : List (Str × NameKind) := [(".0", .local), ("bit", .local)]
def S__law_spoilt_2 : List (Str × NameKind) := [(".0", .local), ("k", .local), ("_law_draw", .globalImplicit), ("state", .free)]
def S__law_spoilt_3 : List (Str × NameKind) := [(".0", .local), ("k", .local), ("_law_draw", .globalImplicit), ("state", .free)]
def S_law_1 : List (Str × NameKind) := [(".0", .local), ("way", .local), ("bits", .local), ("list", .globalImplicit)]
def S_law_2 : List (Str × NameKind) := [(".0", .local), ("bit", .local), ("isinstance", .globalImplicit), ("bool", .globalImplicit)]
def S_law_3 : List (Str × NameKind) := [(".0", .local), ("way", .local), ("some", .local)]
def S_law_4 : List (Str × NameKind) := [(".0", .local), ("x", .local), ("isinstance", .globalImplicit), ("bool", .globalImplicit)]
def S_law_5 : List (Str × NameKind) := [(".0", .local), ("way", .local), ("some", .local)]
theorem d__law_draw : FDb "_law_draw" := by decide +kernel
theorem i__law_block_k : FNi N__law_block 2 "k" := rfl
theorem k__law_block_1_k : List.lookup ("k" : Str) S__law_block_1 = some .local := by decide +kernel
theorem k__law_block_1_state : List.lookup ("state" : Str) S__law_block_1 = some .free := by decide +kernel
theorem k__law_block_1__law_draw : List.lookup ("_law_draw" : Str) S__law_block_1 = some .globalImplicit := by decide +kernel
theorem v_min : bootBuiltins "min" = some (.builtin "min") := rfl
theorem nn_min : ("min" : Str) ≠ "__name__" := by decide +kernel
theorem i__law_container_k : FNi N__law_container 5 "k" := rfl
theorem k__law_container_1_k : List.lookup ("k" : Str) S__law_container_1 = some .local := by decide +kernel
theorem k__law_container_1_script : List.lookup ("script" : Str) S__law_container_1 = some .free := by decide +kernel
theorem k__law_container_1__law_state : List.lookup ("_law_state" : Str) S__law_container_1 = some .globalImplicit := by decide +kernel
theorem d__law_state : FDb "_law_state" := by decide +kernel
theorem k__law_container_1__law_block : List.lookup ("_law_block" : Str) S__law_container_1 = some .globalImplicit := by decide +kernel
theorem d__law_block : FDb "_law_block" := by decide +kernel
theorem i__law_container_bits : FNi N__law_container 7 "bits" := rfl
theorem k__law_container_2_bits : List.lookup ("bits" : Str) S__law_container_2 = some .local := by decide +kernel
theorem i__law_container_way : FNi N__law_container 6 "way" := rfl
theorem k__law_container_2_way : List.lookup ("way" : Str) S__law_container_2 = some .local := by decide +kernel
theorem k__law_container_2_blocks : List.lookup ("blocks" : Str) S__law_container_2 = some .free := by decide +kernel
theorem k__law_container_2_list : List.lookup ("list" : Str) S__law_container_2 = some .globalImplicit := by decide +kernel
theorem v_list : bootBuiltins "list" = some (.type "list") := rfl
theorem nn_list : ("list" : Str) ≠ "__name__" := by decide +kernel
theorem d_list : FDb "list" := by decide +kernel
theorem i__law_read_e : FNi N__law_read 4 "e" := rfl
theorem k__law_read_e : FKl "e" s__law_read := by decide +kernel
theorem k__law_read_PackError : FKg "PackError" s__law_read := by decide +kernel
theorem d_PackError : FDb "PackError" := by decide +kernel
theorem v_tuple : bootBuiltins "tuple" = some (.type "tuple") := rfl
theorem nn_tuple : ("tuple" : Str) ≠ "__name__" := by decide +kernel
theorem v_isinstance : bootBuiltins "isinstance" = some (.builtin "isinstance") := rfl
theorem nn_isinstance : ("isinstance" : Str) ≠ "__name__" := by decide +kernel
theorem v_ValueError : bootBuiltins "ValueError" = some (.type "ValueError") := rfl
theorem nn_ValueError : ("ValueError" : Str) ≠ "__name__" := by decide +kernel
theorem i__law_spoilt_bit : FNi N__law_spoilt 5 "bit" := rfl
theorem k__law_spoilt_1_bit : List.lookup ("bit" : Str) S__law_spoilt_1 = some .local := by decide +kernel
theorem i__law_spoilt_k : FNi N__law_spoilt 4 "k" := rfl
theorem k__law_spoilt_2_k : List.lookup ("k" : Str) S__law_spoilt_2 = some .local := by decide +kernel
theorem k__law_spoilt_2_state : List.lookup ("state" : Str) S__law_spoilt_2 = some .free := by decide +kernel
theorem k__law_spoilt_2__law_draw : List.lookup ("_law_draw" : Str) S__law_spoilt_2 = some .globalImplicit := by decide +kernel
theorem k__law_spoilt_3_k : List.lookup ("k" : Str) S__law_spoilt_3 = some .local := by decide +kernel
theorem k__law_spoilt_3_state : List.lookup ("state" : Str) S__law_spoilt_3 = some .free := by decide +kernel
theorem k__law_spoilt_3__law_draw : List.lookup ("_law_draw" : Str) S__law_spoilt_3 = some .globalImplicit := by decide +kernel
theorem k_law_1_bits : List.lookup ("bits" : Str) S_law_1 = some .local := by decide +kernel
theorem k_law_1_way : List.lookup ("way" : Str) S_law_1 = some .local := by decide +kernel
theorem k_law_1_list : List.lookup ("list" : Str) S_law_1 = some .globalImplicit := by decide +kernel
theorem i_law_bit : FNi N_law 11 "bit" := rfl
theorem k_law_2_bit : List.lookup ("bit" : Str) S_law_2 = some .local := by decide +kernel
theorem k_law_2_bool : List.lookup ("bool" : Str) S_law_2 = some .globalImplicit := by decide +kernel
theorem v_bool : bootBuiltins "bool" = some (.type "bool") := rfl
theorem nn_bool : ("bool" : Str) ≠ "__name__" := by decide +kernel
theorem d_bool : FDb "bool" := by decide +kernel
theorem k_law_2_isinstance : List.lookup ("isinstance" : Str) S_law_2 = some .globalImplicit := by decide +kernel
theorem k_law_3_some : List.lookup ("some" : Str) S_law_3 = some .local := by decide +kernel
theorem k_law_3_way : List.lookup ("way" : Str) S_law_3 = some .local := by decide +kernel
theorem i_law_x : FNi N_law 10 "x" := rfl
theorem k_law_4_x : List.lookup ("x" : Str) S_law_4 = some .local := by decide +kernel
theorem k_law_4_bool : List.lookup ("bool" : Str) S_law_4 = some .globalImplicit := by decide +kernel
theorem k_law_4_isinstance : List.lookup ("isinstance" : Str) S_law_4 = some .globalImplicit := by decide +kernel
theorem k_law_5_some : List.lookup ("some" : Str) S_law_5 = some .local := by decide +kernel
theorem k_law_5_way : List.lookup ("way" : Str) S_law_5 = some .local := by decide +kernel
theorem d__law_spoilt : FDb "_law_spoilt" := by decide +kernel
structure Txt (K : PySem.W.Frag) (mg : Str → Option Value) where
  C_PackError : Addr
  C_NoNumber : Addr
  C_NoCode : Addr
  C_NoPlace : Addr
  C_Broken : Addr
  C_NoText : Addr
  C_NoName : Addr
  C_NoRow : Addr
  cf_PackError : CF K mg "PackError" C_PackError
  cf_NoNumber : CF K mg "NoNumber" C_NoNumber
  cf_NoCode : CF K mg "NoCode" C_NoCode
  cf_NoPlace : CF K mg "NoPlace" C_NoPlace
  cf_Broken : CF K mg "Broken" C_Broken
  cf_NoText : CF K mg "NoText" C_NoText
  cf_NoName : CF K mg "NoName" C_NoName
  cf_NoRow : CF K mg "NoRow" C_NoRow
  rf_Broken : RF K C_Broken
  rf_NoNumber : RF K C_NoNumber
  ef : EF K
  su_0 : PySem.W.subIn K (.ref C_Broken) (.ref C_PackError) = some true
  su_1 : PySem.W.subIn K (.ref C_Broken) (.ref C_NoCode) = some false
  su_2 : PySem.W.subIn K (.ref C_Broken) (.ref C_NoName) = some false
  su_3 : PySem.W.subIn K (.ref C_Broken) (.ref C_NoNumber) = some false
  su_4 : PySem.W.subIn K (.ref C_Broken) (.ref C_NoPlace) = some false
  su_5 : PySem.W.subIn K (.ref C_Broken) (.ref C_NoRow) = some false
  su_6 : PySem.W.subIn K (.ref C_Broken) (.ref C_NoText) = some false
  su_7 : PySem.W.subIn K (.ref C_Broken) (.ref C_Broken) = some true
  su_8 : PySem.W.subIn K (.ref C_Broken) (.type "ValueError") = some true
  su_9 : PySem.W.subIn K (.ref C_NoNumber) (.ref C_PackError) = some true
  su_10 : PySem.W.subIn K (.ref C_NoNumber) (.ref C_NoCode) = some false
  su_11 : PySem.W.subIn K (.ref C_NoNumber) (.ref C_NoName) = some false
  su_12 : PySem.W.subIn K (.ref C_NoNumber) (.ref C_NoNumber) = some true
  su_13 : PySem.W.subIn K (.ref C_NoNumber) (.ref C_NoPlace) = some false
  su_14 : PySem.W.subIn K (.ref C_NoNumber) (.ref C_NoRow) = some false
  su_15 : PySem.W.subIn K (.ref C_NoNumber) (.ref C_NoText) = some false
  su_16 : PySem.W.subIn K (.ref C_NoNumber) (.ref C_Broken) = some false
  su_17 : PySem.W.subIn K (.ref C_NoNumber) (.type "ValueError") = some true
  n_range : mg "range" = none
  n_len : mg "len" = none
  n_min : mg "min" = none
  n_list : mg "list" = none
  n_isinstance : mg "isinstance" = none
  n_tuple : mg "tuple" = none
  n_ValueError : mg "ValueError" = none
  n_bool : mg "bool" = none
  g_MOST_SIZE : KI mg "MOST_SIZE" 64
  g_MOST_SIGNS : KI mg "MOST_SIGNS" 400
  d__law_first : DF K mg "_law_first" "_law_first" s__law_first ["script"]
  d__law_draw : DF K mg "_law_draw" "_law_draw" s__law_draw ["state", "many"]
  d__law_block : DF K mg "_law_block" "_law_block" s__law_block ["state"]
  d__law_state : DF K mg "_law_state" "_law_state" s__law_state ["script", "k"]
  d__law_container : DF K mg "_law_container" "_law_container" s__law_container ["script"]
  d_blocks_for : DF K mg "blocks_for" "blocks_for" s_blocks_for ["size", "total"]
  d_need_container : DF K mg "need_container" "need_container" s_need_container ["container"]
  d_figures_of : DF K mg "figures_of" "figures_of" s_figures_of ["n"]
  d_ending_bits : DF K mg "ending_bits" "ending_bits" s_ending_bits ["n"]
  d_row_bits : DF K mg "row_bits" "row_bits" s_row_bits ["numbers"]
  d_container_bits : DF K mg "container_bits" "container_bits" s_container_bits ["container"]
  d_number_of : DF K mg "number_of" "number_of" s_number_of ["bits"]
  d_read_ending : DF K mg "read_ending" "read_ending" s_read_ending ["bits", "at"]
  d_read_row : DF K mg "read_row" "read_row" s_read_row ["bits", "at"]
  d_read_container : DF K mg "read_container" "read_container" s_read_container ["bits"]
  d__law_ending : DF K mg "_law_ending" "_law_ending" s__law_ending ["number"]
  d__law_row : DF K mg "_law_row" "_law_row" s__law_row ["numbers"]
  d__law_written : DF K mg "_law_written" "_law_written" s__law_written ["container"]
  d__law_read_ending : DF K mg "_law_read_ending" "_law_read_ending" s__law_read_ending ["bits", "at"]
  d__law_read_row : DF K mg "_law_read_row" "_law_read_row" s__law_read_row ["bits", "at"]
  d__law_due : DF K mg "_law_due" "_law_due" s__law_due ["bits"]
  d__law_read : DF K mg "_law_read" "_law_read" s__law_read ["bits"]
  d__law_spoilt : DF K mg "_law_spoilt" "_law_spoilt" s__law_spoilt ["bits", "state"]
  d_law : DF K mg "law" "law" s_law ["script"]
section
variable {P : Program} {w : World} {K : PySem.W.Frag} {mg : Str → Option Value} {base : Heap} (T : Txt K mg)
abbrev Txt.G : GX := ⟨fun i => match i with | 0 => T.C_PackError | 1 => T.C_NoNumber | 2 => T.C_NoCode | 3 => T.C_NoPlace | 4 => T.C_Broken | 5 => T.C_NoText | 6 => T.C_NoName | 7 => T.C_NoRow | _ => T.C_PackError, K, []⟩
theorem Txt.tab : AllT K T.G tab := ⟨rowC T.cf_Broken T.rf_Broken T.ef T.cf_PackError T.su_0,
    ⟨rowC T.cf_Broken T.rf_Broken T.ef T.cf_NoCode T.su_1,
    ⟨rowC T.cf_Broken T.rf_Broken T.ef T.cf_NoName T.su_2,
    ⟨rowC T.cf_Broken T.rf_Broken T.ef T.cf_NoNumber T.su_3,
    ⟨rowC T.cf_Broken T.rf_Broken T.ef T.cf_NoPlace T.su_4,
    ⟨rowC T.cf_Broken T.rf_Broken T.ef T.cf_NoRow T.su_5,
    ⟨rowC T.cf_Broken T.rf_Broken T.ef T.cf_NoText T.su_6,
    ⟨rowC T.cf_Broken T.rf_Broken T.ef T.cf_Broken T.su_7,
    ⟨rowT T.cf_Broken T.rf_Broken T.ef T.su_8,
    ⟨rowC T.cf_NoNumber T.rf_NoNumber T.ef T.cf_PackError T.su_9,
    ⟨rowC T.cf_NoNumber T.rf_NoNumber T.ef T.cf_NoCode T.su_10,
    ⟨rowC T.cf_NoNumber T.rf_NoNumber T.ef T.cf_NoName T.su_11,
    ⟨rowC T.cf_NoNumber T.rf_NoNumber T.ef T.cf_NoNumber T.su_12,
    ⟨rowC T.cf_NoNumber T.rf_NoNumber T.ef T.cf_NoPlace T.su_13,
    ⟨rowC T.cf_NoNumber T.rf_NoNumber T.ef T.cf_NoRow T.su_14,
    ⟨rowC T.cf_NoNumber T.rf_NoNumber T.ef T.cf_NoText T.su_15,
    ⟨rowC T.cf_NoNumber T.rf_NoNumber T.ef T.cf_Broken T.su_16,
    ⟨rowT T.cf_NoNumber T.rf_NoNumber T.ef T.su_17,
    trivial⟩⟩⟩⟩⟩⟩⟩⟩⟩⟩⟩⟩⟩⟩⟩⟩⟩⟩
theorem ok__law_first : OkV P w base 1 T.d__law_first T.G 1 F__law_first :=
  fnV3 (N := N__law_first) (fb := f__law_first) sc__law_first fun cdv A outer s H E C hr hp q =>
  (vss_cons (vs_if (vt_eqR rfl hr.units (ve_v q) (ve_lst va_nil) (nomark _)) (vss_one (vs_ret ve_int)) vss_nil)
  (vss_one (vs_ret (ve_bin os_div (ve_ix rfl (ve_v q) ve_int (fun _ _ => rfl)) ve_int))))
theorem ok__law_draw : OkD P w base 1 T.d__law_draw (spQ T.G 0 1 F__law_draw) :=
  fnQ3 (N := N__law_draw) (fb := f__law_draw) sc__law_draw fun cdv A outer s H E C hr hp q =>
  (vss_cons (vs_if (vt_truth (ve_dget (units1 hr) (ve_v q) ve_str (fun _ _ => rfl)) (fun _ => rfl)) (vss_cons (vs_set q.nd (q.n 2) (q.l 2) (pinQ hp 2 (by decide)) (ve_bin os_mod (ve_dget (units1 hr) (ve_v q) ve_str (fun _ _ => rfl)) (ve_v q)))
  (vss_cons (vs_dput (units1 hr) (q.n 0) (q.v 0) (q.d 0) (q.c 0) ve_str (ve_bin os_div (ve_dget (units1 hr) (ve_v q) ve_str (fun _ _ => rfl)) (ve_v q)))
  (vss_one (vs_ret (ve_v q))))) vss_nil)
  (vss_cons (vs_dput (units1 hr) (q.n 0) (q.v 0) (q.d 0) (q.c 0) ve_str (ve_bin os_add (ve_dget (units1 hr) (ve_v q) ve_str (fun _ _ => rfl)) ve_int))
  (vss_cons (vs_set q.nd (q.n 3) (q.l 3) (pinQ hp 3 (by decide)) (ve_bin os_mod (ve_bin os_add (ve_bin os_mod (ve_dget (units1 hr) (ve_v q) ve_str (fun _ _ => rfl)) ve_int) (ve_bin os_mul ve_int (ve_dget (units1 hr) (ve_v q) ve_str (fun _ _ => rfl)))) ve_int))
  (vss_cons (vs_set q.nd (q.n 3) (q.l 3) (pinQ hp 3 (by decide)) (ve_bin os_mod (ve_bin os_mul (ve_v q) (ve_v q)) ve_int))
  (vss_cons (vs_set q.nd (q.n 3) (q.l 3) (pinQ hp 3 (by decide)) (ve_bin os_mod (ve_bin os_mul (ve_bin os_add (ve_v q) ve_int) (ve_v q)) ve_int))
  (vss_one (vs_ret (ve_bin os_mod (ve_bin os_div (ve_v q) ve_int) (ve_v q)))))))))
theorem ok__law_block : OkD P w base 2 T.d__law_block (spQ T.G 0 0 F__law_block) :=
  fnQ3 (N := N__law_block) (fb := f__law_block) sc__law_block fun cdv A outer s H E C hr hp q =>
  (vss_cons (vs_set q.nd (q.n 1) (q.l 1) (pinQ hp 1 (by decide)) (ve_ix rfl (ve_lst (va_cons (ve_set (ve_callQ (takes_of rfl rfl rfl rfl) (ok__law_draw T) (by decide) (hr.mono (by decide)) (q.g 0) T.d__law_draw.m T.d__law_draw.k T.d__law_draw.b (va_cons (ve_v q) (va_cons (ve_set ve_int) va_nil)) (q.h 0))) (va_cons (ve_set (ve_callQ (takes_of rfl rfl rfl rfl) (ok__law_draw T) (by decide) (hr.mono (by decide)) (q.g 0) T.d__law_draw.m T.d__law_draw.k T.d__law_draw.b (va_cons (ve_v q) (va_cons (ve_set (ve_bin os_pow ve_int ve_int)) va_nil)) (q.h 0))) va_nil))) (ve_callQ (takes_of rfl rfl rfl rfl) (ok__law_draw T) (by decide) (hr.mono (by decide)) (q.g 0) T.d__law_draw.m T.d__law_draw.k T.d__law_draw.b (va_cons (ve_v q) (va_cons (ve_set ve_int) va_nil)) (q.h 0)) (fun _ _ => rfl)))
  (vss_one (vs_ret (ve_tup (va_cons (ve_set (ve_v q)) (va_cons (ve_set (ve_lc rfl q.nd (own := [("k", 2)]) (vi_range1 (q.g 1) T.n_range (va_cons (ve_callQ (takes_of rfl rfl rfl rfl) (ok__law_draw T) (by decide) (hr.mono (by decide)) (q.g 0) T.d__law_draw.m T.d__law_draw.k T.d__law_draw.b (va_cons (ve_v q) (va_cons (ve_set ve_int) va_nil)) (q.h 0)) va_nil)) (show BlkOk N__law_block (defScope s__law_block) _ _ from blkOk_by (by decide +kernel)) (pinQo hp [2] (by decide)) (by decide) (fun _ _ _ _ _ => (vg_name q.nd i__law_block_k (.inl (cv_own k__law_block_1_k)) (pinQ hp 2 (by decide)))) (fun _ _ _ _ _ => vts_nil) (fun _ _ _ _ _ => (ve_callQ takes0 (ok__law_draw T) (by decide) (hr.mono (by decide)) (cv_gl k__law_block_1__law_draw) T.d__law_draw.m T.d__law_draw.k T.d__law_draw.b (va_cons (ve_var (q.n 0) (cv_free k__law_block_1_state) (q.d 0) (q.c 0)) (va_cons (ve_set ve_int) va_nil)) (q.h 0))))) va_nil))))))
theorem ok__law_state : OkV P w base 1 T.d__law_state T.G 2 F__law_state :=
  fnV3 (N := N__law_state) (fb := f__law_state) sc__law_state fun cdv A outer s H E C hr hp q =>
  (vss_cons (vs_s q hp ve_int)
  (vss_cons (vs_if (vt_cmp os_lt (ve_v q) (ve_len T.n_len (q.g 0) (ve_v q)) (nomark _)) (vss_one (vs_s q hp (ve_ix rfl (ve_v q) (ve_v q) (fun _ _ => rfl)))) vss_nil)
  (vss_one (vs_ret (ve_disp (ps := [((cC (.str "rest")), (cVar 2)), ((cC (.str "digits")), (cOr (cBin gEq (cSl (cVar 0) none (some (cC (.int 1)))) (cLst cNil)) (cBin gEq (cBin gMod (cBin gIx (cVar 0) (cC (.int 0))) (cC (.int 2))) (cC (.int 0))))), ((cC (.str "count")), (cVar 1))]) (pps_cons ve_str (ve_v q) (pps_cons ve_str (ve_or (ve_cmp (os_eq hr.units) (ve_slice rfl (ve_v q) vo_none (vo_some ve_int)) (ve_lst va_nil) (nomark _)) (ve_one (ve_cmp (os_eq hr.units) (ve_bin os_mod (ve_ix rfl (ve_v q) ve_int (fun _ _ => rfl)) ve_int) ve_int (nomark _)))) (pps_cons ve_str (ve_v q) pps_nil))))))))
theorem ok__law_container : OkV P w base 3 T.d__law_container T.G 1 F__law_container :=
  fnV3 (N := N__law_container) (fb := f__law_container) sc__law_container fun cdv A outer s H E C hr hp q =>
  (vss_cons (vs_s q hp (ve_f (ok__law_first T) hr q 0 (va_cons (ve_v q) va_nil)))
  (vss_cons (vs_s q hp (ve_bin os_add ve_int (ve_bin os_mod (ve_v q) ve_int)))
  (vss_cons (vs_s q hp (ve_bin os_mod (ve_bin os_div (ve_v q) ve_int) ve_int))
  (vss_cons (vs_s q hp (ve_callB rfl (cs_min2 rfl) (q.g 1) T.n_min v_min (va_cons (ve_v q) (va_cons (ve_bin os_mul ve_int (ve_v q)) va_nil)) nn_min (q.h 1)))
  (vss_cons (vs_s q hp (ve_lc rfl q.nd (own := [("k", 5)]) (vi_range1 (q.g 2) T.n_range (va_cons (ve_bin os_div (ve_bin os_sub (ve_bin os_add (ve_v q) (ve_v q)) ve_int) (ve_v q)) va_nil)) (show BlkOk N__law_container (defScope s__law_container) _ _ from blkOk_by (by decide +kernel)) (pinVo hp [5]) (by decide) (fun _ _ _ _ _ => (vg_name q.nd i__law_container_k (.inl (cv_own k__law_container_1_k)) (pinV hp 5))) (fun _ _ _ _ _ => vts_nil) (fun _ _ _ _ _ => (ve_callQ takes0 (ok__law_block T) (by decide) (hr.mono (by decide)) (cv_gl k__law_container_1__law_block) T.d__law_block.m T.d__law_block.k T.d__law_block.b (va_cons (ve_callD (ok__law_state T) hr (cv_gl k__law_container_1__law_state) d__law_state (va_cons (ve_var (q.n 0) (cv_free k__law_container_1_script) (q.d 0) (q.c 0)) (va_cons (ve_bin os_add ve_int (ve_var i__law_container_k (.inl (cv_own k__law_container_1_k)) (q.d 5) (q.c 5))) va_nil)) (tk := takes0)) va_nil) d__law_block))))
  (vss_cons (vs_if (vt_cmp (os_eq hr.units) (ve_bin os_mod (ve_bin os_div (ve_v q) ve_int) ve_int) ve_int (nomark _)) (vss_one (vs_s q hp (ve_lc rfl q.nd (own := [("way", 6), ("bits", 7)]) (vi_list rfl (ve_v q)) (show BlkOk N__law_container (defScope s__law_container) _ _ from blkOk_by (by decide +kernel)) (pinVo hp [6, 7]) (by decide) (fun _ _ _ _ _ => (vg_tup rfl (vgs_cons q.nd i__law_container_way (.inl (cv_own k__law_container_2_way)) (pinV hp 6) (vgs_cons q.nd i__law_container_bits (.inl (cv_own k__law_container_2_bits)) (pinV hp 7) vgs_nil)))) (fun _ _ _ _ _ => vts_nil) (fun _ _ _ _ _ => (ve_tup (va_cons (ve_set (ve_var i__law_container_way (.inl (cv_own k__law_container_2_way)) (q.d 6) (q.c 6))) (va_cons (ve_set (ve_callTy rfl cs_list (cv_gl k__law_container_2_list) T.n_list v_list (va_cons (ve_ix rfl (ve_ix rfl (ve_var (q.n 4) (cv_free k__law_container_2_blocks) (q.d 4) (q.c 4)) ve_int (fun _ _ => rfl)) ve_int (fun _ _ => rfl)) va_nil) nn_list d_list)) va_nil))))))) vss_nil)
  (vss_one (vs_ret (ve_tup (va_cons (ve_set (ve_v q)) (va_cons (ve_set (ve_v q)) (va_cons (ve_set (ve_v q)) va_nil))))))))))))
theorem ok_blocks_for : OkV P w base 1 T.d_blocks_for T.G 2 F_blocks_for :=
  fnV3 (N := N_blocks_for) (fb := f_blocks_for) sc_blocks_for fun cdv A outer s H E C hr hp q =>
  (vss_one (vs_ret (ve_bin os_div (ve_bin os_sub (ve_bin os_add (ve_v q) (ve_v q)) ve_int) (ve_v q))))
theorem ok_need_container : OkV P w base 2 T.d_need_container T.G 1 F_need_container :=
  fnV3 (N := N_need_container) (fb := f_need_container) sc_need_container fun cdv A outer s H E C hr hp q =>
  (vss_cons (vs_asg (ve_v q) (vg_tup rfl (vgs_c q hp (vgs_c q hp (vgs_c q hp vgs_nil)))))
  (vss_cons (vs_if (VW.pt (vw_or (vt_cmp os_lt (ve_v q) ve_int (nomark _)) (vw_or (vt_cmp os_gt (ve_v q) (ve_gint (q.g 0) T.g_MOST_SIZE.m (q.h 0)) (nomark _)) (vw_or (vt_cmp os_lt (ve_v q) ve_int (nomark _)) (vw_or1 (vt_cmp os_gt (ve_v q) (ve_gint (q.g 1) T.g_MOST_SIGNS.m (q.h 1)) (nomark _))))))) (vss_one (vs_raiseC (c := 4) T.cf_Broken T.rf_Broken (q.g 2) (q.h 2))) vss_nil)
  (vss_cons (vs_if (vt_cmp (os_ne hr.units) (ve_len T.n_len (q.g 3) (ve_v q)) (ve_f (ok_blocks_for T) hr q 4 (va_cons (ve_v q) (va_cons (ve_v q) va_nil))) (nomark _)) (vss_one (vs_raiseC (c := 4) T.cf_Broken T.rf_Broken (q.g 2) (q.h 2))) vss_nil)
  (vss_one (vs_f (vi_list rfl (ve_v q)) (vg_tup rfl (vgs_c q hp (vgs_c q hp vgs_nil))) (vss_one (vs_if (vt_cmp os_lt (ve_v q) ve_int (nomark _)) (vss_one (vs_raiseC (c := 4) T.cf_Broken T.rf_Broken (q.g 2) (q.h 2))) vss_nil)))))))
theorem ok_figures_of : OkV P w base 1 T.d_figures_of T.G 1 F_figures_of :=
  fnV3 (N := N_figures_of) (fb := f_figures_of) sc_figures_of fun cdv A outer s H E C hr hp q =>
  (vss_cons (vs_s q hp (ve_lst va_nil))
  (vss_cons (vs_while fuel (passes_of rfl) (vt_cmp os_gt (ve_v q) ve_int (nomark _)) (vss_cons (vs_expr (ve_app (q.n 1) (q.v 1) (q.d 1) (q.c 1) (ve_bin os_mod (ve_v q) ve_int)))
  (vss_one (vs_s q hp (ve_bin os_div (ve_v q) ve_int)))))
  (vss_one (vs_ret (ve_v q)))))
theorem ok_ending_bits : OkV P w base 2 T.d_ending_bits T.G 1 F_ending_bits :=
  fnV3 (N := N_ending_bits) (fb := f_ending_bits) sc_ending_bits fun cdv A outer s H E C hr hp q =>
  (vss_cons (vs_if (vt_cmp os_lt (ve_v q) ve_int (nomark _)) (vss_one (vs_raiseC (c := 1) T.cf_NoNumber T.rf_NoNumber (q.g 0) (q.h 0))) vss_nil)
  (vss_cons (vs_s q hp (ve_f (ok_figures_of T) hr q 1 (va_cons (ve_v q) va_nil)))
  (vss_one (vs_ret (ve_bin os_add (ve_bin os_mul (ve_lst (va_cons (ve_set ve_int) va_nil)) (ve_bin os_sub (ve_len T.n_len (q.g 2) (ve_v q)) ve_int)) (ve_rev rfl (ve_v q)))))))
theorem ok_row_bits : OkV P w base 3 T.d_row_bits T.G 1 F_row_bits :=
  fnV3 (N := N_row_bits) (fb := f_row_bits) sc_row_bits fun cdv A outer s H E C hr hp q =>
  (vss_cons (vs_s q hp (ve_f (ok_ending_bits T) hr q 0 (va_cons (ve_bin os_add (ve_len T.n_len (q.g 1) (ve_v q)) ve_int) va_nil)))
  (vss_cons (vs_f (vi_list rfl (ve_v q)) (vg_n q hp) (vss_one (vs_expr (ve_ext (q.n 1) (q.v 1) (q.d 1) (q.c 1) (ve_f (ok_ending_bits T) hr q 0 (va_cons (ve_bin os_add (ve_v q) ve_int) va_nil))))))
  (vss_one (vs_ret (ve_v q)))))
theorem ok_container_bits : OkV P w base 4 T.d_container_bits T.G 1 F_container_bits :=
  fnV3 (N := N_container_bits) (fb := f_container_bits) sc_container_bits fun cdv A outer s H E C hr hp q =>
  (vss_cons (vs_expr (ve_f (ok_need_container T) hr q 0 (va_cons (ve_v q) va_nil)))
  (vss_cons (vs_asg (ve_v q) (vg_tup rfl (vgs_c q hp (vgs_c q hp (vgs_c q hp vgs_nil)))))
  (vss_cons (vs_s q hp (ve_lst (va_cons (ve_set (ve_v q)) (va_cons (ve_set (ve_v q)) va_nil))))
  (vss_cons (vs_s q hp (ve_lst va_nil))
  (vss_cons (vs_f (vi_list rfl (ve_v q)) (vg_tup rfl (vgs_c q hp (vgs_c q hp vgs_nil))) (vss_cons (vs_expr (ve_ext (q.n 4) (q.v 4) (q.d 4) (q.c 4) (ve_lst (va_cons (ve_set (ve_v q)) (va_cons (ve_set (ve_len T.n_len (q.g 1) (ve_v q))) va_nil)))))
  (vss_one (vs_expr (ve_ext (q.n 5) (q.v 5) (q.d 5) (q.c 5) (ve_v q))))))
  (vss_one (vs_ret (ve_bin os_add (ve_f (ok_row_bits T) hr q 2 (va_cons (ve_v q) va_nil)) (ve_v q)))))))))
theorem ok_number_of : OkV P w base 1 T.d_number_of T.G 1 F_number_of :=
  fnV3 (N := N_number_of) (fb := f_number_of) sc_number_of fun cdv A outer s H E C hr hp q =>
  (vss_cons (vs_s q hp ve_int)
  (vss_cons (vs_f (vi_list rfl (ve_v q)) (vg_n q hp) (vss_one (vs_s q hp (ve_bin os_add (ve_bin os_mul ve_int (ve_v q)) (ve_v q)))))
  (vss_one (vs_ret (ve_v q)))))
theorem ok_read_ending : OkV P w base 2 T.d_read_ending T.G 2 F_read_ending :=
  fnV3 (N := N_read_ending) (fb := f_read_ending) sc_read_ending fun cdv A outer s H E C hr hp q =>
  (vss_cons (vs_if (vt_cmp os_lt (ve_v q) ve_int (nomark _)) (vss_one (vs_raiseC (c := 4) T.cf_Broken T.rf_Broken (q.g 0) (q.h 0))) vss_nil)
  (vss_cons (vs_s q hp (ve_v q))
  (vss_cons (vs_while fuel (passes_of rfl) (VW.pt (vw_and (vt_cmp os_lt (ve_v q) (ve_len T.n_len (q.g 1) (ve_v q)) (nomark _)) (vw_and1 (vt_cmp (os_eq hr.units) (ve_ix rfl (ve_v q) (ve_v q) (fun _ _ => rfl)) ve_int (nomark _))))) (vss_one (vs_a q hp os_iadd ve_int)))
  (vss_cons (vs_s q hp (ve_bin os_add (ve_bin os_sub (ve_bin os_mul ve_int (ve_v q)) (ve_v q)) ve_int))
  (vss_cons (vs_if (vt_cmp os_gt (ve_v q) (ve_len T.n_len (q.g 1) (ve_v q)) (nomark _)) (vss_one (vs_raiseC (c := 4) T.cf_Broken T.rf_Broken (q.g 0) (q.h 0))) vss_nil)
  (vss_one (vs_ret (ve_tup (va_cons (ve_set (ve_f (ok_number_of T) hr q 2 (va_cons (ve_slice rfl (ve_v q) (vo_some (ve_v q)) (vo_some (ve_v q))) va_nil))) (va_cons (ve_set (ve_v q)) va_nil))))))))))
theorem ok_read_row : OkV P w base 3 T.d_read_row T.G 2 F_read_row :=
  fnV3 (N := N_read_row) (fb := f_read_row) sc_read_row fun cdv A outer s H E C hr hp q =>
  (vss_cons (vs_asg (ve_f (ok_read_ending T) hr q 0 (va_cons (ve_v q) (va_cons (ve_v q) va_nil))) (vg_tup rfl (vgs_c q hp (vgs_c q hp vgs_nil))))
  (vss_cons (vs_s q hp (ve_lst va_nil))
  (vss_cons (vs_while fuel (passes_of rfl) (vt_cmp os_lt (ve_len T.n_len (q.g 1) (ve_v q)) (ve_bin os_sub (ve_v q) ve_int) (nomark _)) (vss_cons (vs_asg (ve_f (ok_read_ending T) hr q 0 (va_cons (ve_v q) (va_cons (ve_v q) va_nil))) (vg_tup rfl (vgs_c q hp (vgs_c q hp vgs_nil))))
  (vss_one (vs_expr (ve_app (q.n 4) (q.v 4) (q.d 4) (q.c 4) (ve_bin os_sub (ve_v q) ve_int))))))
  (vss_one (vs_ret (ve_tup (va_cons (ve_set (ve_v q)) (va_cons (ve_set (ve_v q)) va_nil))))))))
theorem ok_read_container : OkV P w base 4 T.d_read_container T.G 1 F_read_container :=
  fnV3 (N := N_read_container) (fb := f_read_container) sc_read_container fun cdv A outer s H E C hr hp q =>
  (vss_cons (vs_asg (ve_f (ok_read_row T) hr q 0 (va_cons (ve_v q) (va_cons ve_int va_nil))) (vg_tup rfl (vgs_c q hp (vgs_c q hp vgs_nil))))
  (vss_cons (vs_if (VW.pt (vw_or (vt_cmp os_lt (ve_len T.n_len (q.g 1) (ve_v q)) ve_int (nomark _)) (vw_or1 (vt_cmp (os_eq hr.units) (ve_bin os_mod (ve_len T.n_len (q.g 1) (ve_v q)) ve_int) ve_int (nomark _))))) (vss_one (vs_raiseC (c := 4) T.cf_Broken T.rf_Broken (q.g 2) (q.h 2))) vss_nil)
  (vss_cons (vs_s q hp (ve_lst va_nil))
  (vss_cons (vs_f (vi_range3 (q.g 3) T.n_range (va_cons ve_int (va_cons (ve_len T.n_len (q.g 1) (ve_v q)) (va_cons ve_int va_nil)))) (vg_n q hp) (vss_cons (vs_expr (ve_app (q.n 3) (q.v 3) (q.d 3) (q.c 3) (ve_tup (va_cons (ve_set (ve_ix rfl (ve_v q) (ve_v q) (fun _ _ => rfl))) (va_cons (ve_set (ve_slice rfl (ve_v q) (vo_some (ve_v q)) (vo_some (ve_bin os_add (ve_v q) (ve_ix rfl (ve_v q) (ve_bin os_add (ve_v q) ve_int) (fun _ _ => rfl)))))) va_nil)))))
  (vss_one (vs_a q hp os_iadd (ve_ix rfl (ve_v q) (ve_bin os_add (ve_v q) ve_int) (fun _ _ => rfl))))))
  (vss_cons (vs_if (vt_cmp (os_ne hr.units) (ve_v q) (ve_len T.n_len (q.g 1) (ve_v q)) (nomark _)) (vss_one (vs_raiseC (c := 4) T.cf_Broken T.rf_Broken (q.g 2) (q.h 2))) vss_nil)
  (vss_cons (vs_s q hp (ve_tup (va_cons (ve_set (ve_ix rfl (ve_v q) ve_int (fun _ _ => rfl))) (va_cons (ve_set (ve_ix rfl (ve_v q) ve_int (fun _ _ => rfl))) (va_cons (ve_take (q.n 3) (q.v 3) (q.d 3) (q.c 3)) va_nil)))))
  (vss_cons (vs_expr (ve_f (ok_need_container T) hr q 4 (va_cons (ve_v q) va_nil)))
  (vss_one (vs_ret (ve_v q))))))))))
theorem ok__law_ending : OkV P w base 1 T.d__law_ending T.G 1 F__law_ending :=
  fnV3 (N := N__law_ending) (fb := f__law_ending) sc__law_ending fun cdv A outer s H E C hr hp q =>
  (vss_cons (vs_s q hp (ve_lst va_nil))
  (vss_cons (vs_while fuel (passes_of rfl) (vt_cmp os_gt (ve_v q) ve_int (nomark _)) (vss_cons (vs_s q hp (ve_bin os_add (ve_lst (va_cons (ve_set (ve_bin os_mod (ve_v q) ve_int)) va_nil)) (ve_v q)))
  (vss_one (vs_s q hp (ve_bin os_div (ve_v q) ve_int)))))
  (vss_one (vs_ret (ve_bin os_add (ve_bin os_mul (ve_lst (va_cons (ve_set ve_int) va_nil)) (ve_bin os_sub (ve_len T.n_len (q.g 0) (ve_v q)) ve_int)) (ve_v q))))))
theorem ok__law_row : OkV P w base 2 T.d__law_row T.G 1 F__law_row :=
  fnV3 (N := N__law_row) (fb := f__law_row) sc__law_row fun cdv A outer s H E C hr hp q =>
  (vss_cons (vs_s q hp (ve_f (ok__law_ending T) hr q 0 (va_cons (ve_bin os_add (ve_len T.n_len (q.g 1) (ve_v q)) ve_int) va_nil)))
  (vss_cons (vs_f (vi_list rfl (ve_v q)) (vg_n q hp) (vss_one (vs_s q hp (ve_bin os_add (ve_v q) (ve_f (ok__law_ending T) hr q 0 (va_cons (ve_bin os_add (ve_v q) ve_int) va_nil))))))
  (vss_one (vs_ret (ve_v q)))))
theorem ok__law_written : OkV P w base 3 T.d__law_written T.G 1 F__law_written :=
  fnV3 (N := N__law_written) (fb := f__law_written) sc__law_written fun cdv A outer s H E C hr hp q =>
  (vss_cons (vs_s q hp (ve_lst (va_cons (ve_set (ve_ix rfl (ve_v q) ve_int (fun _ _ => rfl))) (va_cons (ve_set (ve_ix rfl (ve_v q) ve_int (fun _ _ => rfl))) va_nil))))
  (vss_cons (vs_s q hp (ve_lst va_nil))
  (vss_cons (vs_f (vi_list rfl (ve_ix rfl (ve_v q) ve_int (fun _ _ => rfl))) (vg_tup rfl (vgs_c q hp (vgs_c q hp vgs_nil))) (vss_cons (vs_s q hp (ve_bin os_add (ve_v q) (ve_lst (va_cons (ve_set (ve_v q)) (va_cons (ve_set (ve_len T.n_len (q.g 0) (ve_v q))) va_nil)))))
  (vss_one (vs_s q hp (ve_bin os_add (ve_v q) (ve_v q))))))
  (vss_one (vs_ret (ve_bin os_add (ve_f (ok__law_row T) hr q 1 (va_cons (ve_v q) va_nil)) (ve_v q)))))))
theorem ok__law_read_ending : OkV P w base 1 T.d__law_read_ending T.G 2 F__law_read_ending :=
  fnV3 (N := N__law_read_ending) (fb := f__law_read_ending) sc__law_read_ending fun cdv A outer s H E C hr hp q =>
  (vss_cons (vs_s q hp ve_int)
  (vss_cons (vs_while fuel (passes_of rfl) (VW.pt (vw_and (vt_cmp os_lt (ve_bin os_add (ve_v q) (ve_v q)) (ve_len T.n_len (q.g 0) (ve_v q)) (nomark _)) (vw_and1 (vt_cmp (os_eq hr.units) (ve_ix rfl (ve_v q) (ve_bin os_add (ve_v q) (ve_v q)) (fun _ _ => rfl)) ve_int (nomark _))))) (vss_one (vs_s q hp (ve_bin os_add (ve_v q) ve_int))))
  (vss_cons (vs_s q hp (ve_bin os_add (ve_bin os_add (ve_v q) (ve_bin os_mul ve_int (ve_v q))) ve_int))
  (vss_cons (vs_if (vt_cmp os_gt (ve_v q) (ve_len T.n_len (q.g 0) (ve_v q)) (nomark _)) (vss_one (vs_ret ve_non)) vss_nil)
  (vss_cons (vs_s q hp ve_int)
  (vss_cons (vs_f (vi_list rfl (ve_slice rfl (ve_v q) (vo_some (ve_bin os_add (ve_v q) (ve_v q))) (vo_some (ve_v q)))) (vg_n q hp) (vss_one (vs_s q hp (ve_bin os_add (ve_bin os_mul ve_int (ve_v q)) (ve_v q)))))
  (vss_one (vs_ret (ve_tup (va_cons (ve_set (ve_v q)) (va_cons (ve_set (ve_v q)) va_nil)))))))))))
theorem ok__law_read_row : OkV P w base 2 T.d__law_read_row T.G 2 F__law_read_row :=
  fnV3 (N := N__law_read_row) (fb := f__law_read_row) sc__law_read_row fun cdv A outer s H E C hr hp q =>
  (vss_cons (vs_s q hp (ve_f (ok__law_read_ending T) hr q 0 (va_cons (ve_v q) (va_cons (ve_v q) va_nil))))
  (vss_cons (vs_if (vt_cmp os_is (ve_v q) ve_non (nomark _)) (vss_one (vs_ret ve_non)) vss_nil)
  (vss_cons (vs_s q hp (ve_lst va_nil))
  (vss_cons (vs_s q hp (ve_ix rfl (ve_v q) ve_int (fun _ _ => rfl)))
  (vss_cons (vs_while fuel (passes_of rfl) (vt_cmp os_lt (ve_len T.n_len (q.g 1) (ve_v q)) (ve_bin os_sub (ve_ix rfl (ve_v q) ve_int (fun _ _ => rfl)) ve_int) (nomark _)) (vss_cons (vs_s q hp (ve_f (ok__law_read_ending T) hr q 0 (va_cons (ve_v q) (va_cons (ve_v q) va_nil))))
  (vss_cons (vs_if (vt_cmp os_is (ve_v q) ve_non (nomark _)) (vss_one (vs_ret ve_non)) vss_nil)
  (vss_cons (vs_expr (ve_app (q.n 3) (q.v 3) (q.d 3) (q.c 3) (ve_bin os_sub (ve_ix rfl (ve_v q) ve_int (fun _ _ => rfl)) ve_int)))
  (vss_one (vs_s q hp (ve_ix rfl (ve_v q) ve_int (fun _ _ => rfl))))))))
  (vss_one (vs_ret (ve_tup (va_cons (ve_set (ve_v q)) (va_cons (ve_set (ve_v q)) va_nil))))))))))
theorem ok__law_due : OkV P w base 3 T.d__law_due T.G 1 F__law_due :=
  fnV3 (N := N__law_due) (fb := f__law_due) sc__law_due fun cdv A outer s H E C hr hp q =>
  (vss_cons (vs_s q hp (ve_f (ok__law_read_row T) hr q 0 (va_cons (ve_v q) (va_cons ve_int va_nil))))
  (vss_cons (vs_if (VW.pt (vw_or (vt_cmp os_is (ve_v q) ve_non (nomark _)) (vw_or (vt_cmp os_lt (ve_len T.n_len (q.g 1) (ve_ix rfl (ve_v q) ve_int (fun _ _ => rfl))) ve_int (nomark _)) (vw_or1 (vt_cmp (os_eq hr.units) (ve_bin os_mod (ve_len T.n_len (q.g 1) (ve_ix rfl (ve_v q) ve_int (fun _ _ => rfl))) ve_int) ve_int (nomark _)))))) (vss_one (vs_ret ve_non)) vss_nil)
  (vss_cons (vs_asg (ve_slice rfl (ve_ix rfl (ve_v q) ve_int (fun _ _ => rfl)) vo_none (vo_some ve_int)) (vg_lst rfl (vgs_c q hp (vgs_c q hp vgs_nil))))
  (vss_cons (vs_s q hp (ve_ix rfl (ve_v q) ve_int (fun _ _ => rfl)))
  (vss_cons (vs_s q hp (ve_lst va_nil))
  (vss_cons (vs_f (vi_range3 (q.g 2) T.n_range (va_cons ve_int (va_cons (ve_len T.n_len (q.g 1) (ve_ix rfl (ve_v q) ve_int (fun _ _ => rfl))) (va_cons ve_int va_nil)))) (vg_n q hp) (vss_cons (vs_expr (ve_app (q.n 5) (q.v 5) (q.d 5) (q.c 5) (ve_tup (va_cons (ve_set (ve_ix rfl (ve_ix rfl (ve_v q) ve_int (fun _ _ => rfl)) (ve_v q) (fun _ _ => rfl))) (va_cons (ve_set (ve_slice rfl (ve_v q) (vo_some (ve_v q)) (vo_some (ve_bin os_add (ve_v q) (ve_ix rfl (ve_ix rfl (ve_v q) ve_int (fun _ _ => rfl)) (ve_bin os_add (ve_v q) ve_int) (fun _ _ => rfl)))))) va_nil)))))
  (vss_one (vs_s q hp (ve_bin os_add (ve_v q) (ve_ix rfl (ve_ix rfl (ve_v q) ve_int (fun _ _ => rfl)) (ve_bin os_add (ve_v q) ve_int) (fun _ _ => rfl)))))))
  (vss_cons (vs_if (VW.pt (vw_or (vt_cmp (os_ne hr.units) (ve_v q) (ve_len T.n_len (q.g 1) (ve_v q)) (nomark _)) (vw_or (vt_cmp os_lt (ve_v q) ve_int (nomark _)) (vw_or (vt_cmp os_gt (ve_v q) ve_int (nomark _)) (vw_or (vt_cmp os_gt (ve_v q) ve_int (nomark _)) (vw_or1 (vt_cmp (os_ne hr.units) (ve_len T.n_len (q.g 1) (ve_v q)) (ve_bin os_div (ve_bin os_sub (ve_bin os_add (ve_v q) (ve_v q)) ve_int) (ve_v q)) (nomark _)))))))) (vss_one (vs_ret ve_non)) vss_nil)
  (vss_one (vs_ret (ve_tup (va_cons (ve_set (ve_v q)) (va_cons (ve_set (ve_v q)) (va_cons (ve_set (ve_v q)) va_nil)))))))))))))
theorem ok__law_read : OkV P w base 5 T.d__law_read T.G 1 F__law_read :=
  fnV3 (N := N__law_read) (fb := f__law_read) sc__law_read fun cdv A outer s H E C hr hp q =>
  (vss_cons (vs_s q hp ve_non)
  (vss_cons (vs_s q hp ve_non)
  (vss_cons (vs_s q hp (ve_callTy rfl cs_list (q.g 0) T.n_list v_list (va_cons (ve_v q) va_nil) nn_list (q.h 0)))
  (vss_cons (vs_try rfl rfl rfl q.nd (.inr ⟨4, "e", rfl, rfl, i__law_read_e, k__law_read_e⟩) (fun j e => by cases e; exact (pinV hp 4)) ⟨k__law_read_PackError, d_PackError, .inl T.cf_PackError.m⟩ (takes_of rfl rfl rfl rfl) (T.tab.exm 0) (fun W1 pn1 xe1 tk1 pa1 => (vss_one (vs_s q hp (ve_f (ok_read_container T) hr q 1 (va_cons (ve_v q) va_nil) (tk := tk1))))) (fun _ _ => (vss_one (vs_s q hp (ve_v q)))))
  (vss_cons (vs_s q hp (ve_f (ok__law_due T) hr q 2 (va_cons (ve_v q) va_nil)))
  (vss_cons (vs_if (vt_cmp (os_ne hr.units) (ve_v q) (ve_v q) (nomark _)) (vss_one (vs_ret ve_bl)) vss_nil)
  (vss_cons (vs_if (vt_cmp os_isnot (ve_v q) ve_non (nomark _)) (vss_one (vs_ret (ve_and (ve_cmp os_is (ve_v q) ve_non (nomark _)) (ve_and (ve_isi T.tab.etab (q.g 3) T.n_isinstance v_isinstance (va_cons (ve_v q) (va_cons (ve_gty (q.g 4) T.n_tuple v_tuple nn_tuple (q.h 4)) va_nil)) nn_isinstance (q.h 3)) (ve_and (ve_cmp (os_eq hr.units) (ve_v q) (ve_v q) (nomark _)) (ve_one (ve_isi T.tab.etab (q.g 3) T.n_isinstance v_isinstance (va_cons (ve_ix rfl (ve_v q) ve_int (fun _ _ => rfl)) (va_cons (ve_gty (q.g 0) T.n_list v_list nn_list (q.h 0)) va_nil)) nn_isinstance (q.h 3)))))))) vss_nil)
  (vss_cons (vs_s q hp (ve_lst (va_cons (ve_set (ve_isi T.tab.etab (q.g 3) T.n_isinstance v_isinstance (va_cons (ve_v q) (va_cons (ve_gcls (c := 2) (q.g 5) T.cf_NoCode.m (q.h 5)) va_nil)) nn_isinstance (q.h 3))) (va_cons (ve_set (ve_isi T.tab.etab (q.g 3) T.n_isinstance v_isinstance (va_cons (ve_v q) (va_cons (ve_gcls (c := 6) (q.g 6) T.cf_NoName.m (q.h 6)) va_nil)) nn_isinstance (q.h 3))) (va_cons (ve_set (ve_isi T.tab.etab (q.g 3) T.n_isinstance v_isinstance (va_cons (ve_v q) (va_cons (ve_gcls (c := 1) (q.g 7) T.cf_NoNumber.m (q.h 7)) va_nil)) nn_isinstance (q.h 3))) va_nil)))))
  (vss_cons (vs_s q hp (ve_bin os_add (ve_v q) (ve_lst (va_cons (ve_set (ve_isi T.tab.etab (q.g 3) T.n_isinstance v_isinstance (va_cons (ve_v q) (va_cons (ve_gcls (c := 3) (q.g 8) T.cf_NoPlace.m (q.h 8)) va_nil)) nn_isinstance (q.h 3))) (va_cons (ve_set (ve_isi T.tab.etab (q.g 3) T.n_isinstance v_isinstance (va_cons (ve_v q) (va_cons (ve_gcls (c := 7) (q.g 9) T.cf_NoRow.m (q.h 9)) va_nil)) nn_isinstance (q.h 3))) (va_cons (ve_set (ve_isi T.tab.etab (q.g 3) T.n_isinstance v_isinstance (va_cons (ve_v q) (va_cons (ve_gcls (c := 5) (q.g 10) T.cf_NoText.m (q.h 10)) va_nil)) nn_isinstance (q.h 3))) va_nil))))))
  (vss_one (vs_ret (ve_and (ve_isi T.tab.etab (q.g 3) T.n_isinstance v_isinstance (va_cons (ve_v q) (va_cons (ve_gcls (c := 4) (q.g 11) T.cf_Broken.m (q.h 11)) va_nil)) nn_isinstance (q.h 3)) (ve_and (ve_isi T.tab.etab (q.g 3) T.n_isinstance v_isinstance (va_cons (ve_v q) (va_cons (ve_gty (q.g 12) T.n_ValueError v_ValueError nn_ValueError (q.h 12)) va_nil)) nn_isinstance (q.h 3)) (ve_one (ve_cmp (os_notin (units65 hr)) ve_bl (ve_v q) (by with_unfolding_all rfl))))))))))))))))
theorem ok__law_spoilt : OkD P w base 2 T.d__law_spoilt (spQ T.G 1 1 F__law_spoilt) :=
  fnQ3 (N := N__law_spoilt) (fb := f__law_spoilt) sc__law_spoilt fun cdv A outer s H E C hr hp q =>
  (vss_cons (vs_set q.nd (q.n 2) (q.l 2) (pinQ hp 2 (by decide)) (ve_callQ (takes_of rfl rfl rfl rfl) (ok__law_draw T) (by decide) (hr.mono (by decide)) (q.g 0) T.d__law_draw.m T.d__law_draw.k T.d__law_draw.b (va_cons (ve_v q) (va_cons (ve_set (ve_bin os_add (ve_len T.n_len (q.g 1) (ve_v q)) ve_int)) va_nil)) (q.h 0)))
  (vss_cons (vs_set q.nd (q.n 3) (q.l 3) (pinQ hp 3 (by decide)) (ve_callQ (takes_of rfl rfl rfl rfl) (ok__law_draw T) (by decide) (hr.mono (by decide)) (q.g 0) T.d__law_draw.m T.d__law_draw.k T.d__law_draw.b (va_cons (ve_v q) (va_cons (ve_set ve_int) va_nil)) (q.h 0)))
  (vss_cons (vs_if (vt_cmp (os_eq hr.units) (ve_v q) ve_int (nomark _)) (vss_one (vs_ret (ve_bin os_add (ve_bin os_add (ve_slice rfl (ve_v q) vo_none (vo_some (ve_v q))) (ve_lc rfl q.nd (own := [("bit", 5)]) (vi_list rfl (ve_slice rfl (ve_v q) (vo_some (ve_v q)) (vo_some (ve_bin os_add (ve_v q) ve_int)))) (show BlkOk N__law_spoilt (defScope s__law_spoilt) _ _ from blkOk_by (by decide +kernel)) (pinQo hp [5] (by decide)) (by decide) (fun _ _ _ _ _ => (vg_name q.nd i__law_spoilt_bit (.inl (cv_own k__law_spoilt_1_bit)) (pinQ hp 5 (by decide)))) (fun _ _ _ _ _ => vts_nil) (fun _ _ _ _ _ => (ve_bin os_sub ve_int (ve_var i__law_spoilt_bit (.inl (cv_own k__law_spoilt_1_bit)) (q.d 5) (q.c 5)))))) (ve_slice rfl (ve_v q) (vo_some (ve_bin os_add (ve_v q) ve_int)) vo_none)))) vss_nil)
  (vss_cons (vs_if (vt_cmp (os_eq hr.units) (ve_v q) ve_int (nomark _)) (vss_one (vs_ret (ve_bin os_add (ve_slice rfl (ve_v q) vo_none (vo_some (ve_v q))) (ve_slice rfl (ve_v q) (vo_some (ve_bin os_add (ve_bin os_add (ve_v q) ve_int) (ve_callQ (takes_of rfl rfl rfl rfl) (ok__law_draw T) (by decide) (hr.mono (by decide)) (q.g 0) T.d__law_draw.m T.d__law_draw.k T.d__law_draw.b (va_cons (ve_v q) (va_cons (ve_set ve_int) va_nil)) (q.h 0)))) vo_none)))) vss_nil)
  (vss_cons (vs_if (vt_cmp (os_eq hr.units) (ve_v q) ve_int (nomark _)) (vss_one (vs_ret (ve_bin os_add (ve_v q) (ve_lc rfl q.nd (own := [("k", 4)]) (vi_range1 (q.g 2) T.n_range (va_cons (ve_bin os_add ve_int (ve_callQ (takes_of rfl rfl rfl rfl) (ok__law_draw T) (by decide) (hr.mono (by decide)) (q.g 0) T.d__law_draw.m T.d__law_draw.k T.d__law_draw.b (va_cons (ve_v q) (va_cons (ve_set ve_int) va_nil)) (q.h 0))) va_nil)) (show BlkOk N__law_spoilt (defScope s__law_spoilt) _ _ from blkOk_by (by decide +kernel)) (pinQo hp [4] (by decide)) (by decide) (fun _ _ _ _ _ => (vg_name q.nd i__law_spoilt_k (.inl (cv_own k__law_spoilt_2_k)) (pinQ hp 4 (by decide)))) (fun _ _ _ _ _ => vts_nil) (fun _ _ _ _ _ => (ve_callQ takes0 (ok__law_draw T) (by decide) (hr.mono (by decide)) (cv_gl k__law_spoilt_2__law_draw) T.d__law_draw.m T.d__law_draw.k T.d__law_draw.b (va_cons (ve_var (q.n 1) (cv_free k__law_spoilt_2_state) (q.d 1) (q.c 1)) (va_cons (ve_set ve_int) va_nil)) (q.h 0))))))) vss_nil)
  (vss_cons (vs_if (vt_cmp (os_eq hr.units) (ve_v q) ve_int (nomark _)) (vss_one (vs_ret (ve_bin os_add (ve_bin os_add (ve_slice rfl (ve_v q) vo_none (vo_some (ve_v q))) (ve_lst (va_cons (ve_set (ve_callQ (takes_of rfl rfl rfl rfl) (ok__law_draw T) (by decide) (hr.mono (by decide)) (q.g 0) T.d__law_draw.m T.d__law_draw.k T.d__law_draw.b (va_cons (ve_v q) (va_cons (ve_set ve_int) va_nil)) (q.h 0))) va_nil))) (ve_slice rfl (ve_v q) (vo_some (ve_v q)) vo_none)))) vss_nil)
  (vss_cons (vs_if (vt_cmp (os_eq hr.units) (ve_v q) ve_int (nomark _)) (vss_one (vs_ret (ve_lc rfl q.nd (own := [("k", 4)]) (vi_range1 (q.g 2) T.n_range (va_cons (ve_callQ (takes_of rfl rfl rfl rfl) (ok__law_draw T) (by decide) (hr.mono (by decide)) (q.g 0) T.d__law_draw.m T.d__law_draw.k T.d__law_draw.b (va_cons (ve_v q) (va_cons (ve_set ve_int) va_nil)) (q.h 0)) va_nil)) (show BlkOk N__law_spoilt (defScope s__law_spoilt) _ _ from blkOk_by (by decide +kernel)) (pinQo hp [4] (by decide)) (by decide) (fun _ _ _ _ _ => (vg_name q.nd i__law_spoilt_k (.inl (cv_own k__law_spoilt_3_k)) (pinQ hp 4 (by decide)))) (fun _ _ _ _ _ => vts_nil) (fun _ _ _ _ _ => (ve_callQ takes0 (ok__law_draw T) (by decide) (hr.mono (by decide)) (cv_gl k__law_spoilt_3__law_draw) T.d__law_draw.m T.d__law_draw.k T.d__law_draw.b (va_cons (ve_var (q.n 1) (cv_free k__law_spoilt_3_state) (q.d 1) (q.c 1)) (va_cons (ve_set ve_int) va_nil)) (q.h 0)))))) vss_nil)
  (vss_cons (vs_if (vt_cmp (os_eq hr.units) (ve_v q) ve_int (nomark _)) (vss_one (vs_ret (ve_slice rfl (ve_v q) vo_none (vo_some (ve_bin os_sub (ve_len T.n_len (q.g 1) (ve_v q)) (ve_callB rfl (cs_min2 rfl) (q.g 3) T.n_min v_min (va_cons (ve_len T.n_len (q.g 1) (ve_v q)) (va_cons (ve_callQ (takes_of rfl rfl rfl rfl) (ok__law_draw T) (by decide) (hr.mono (by decide)) (q.g 0) T.d__law_draw.m T.d__law_draw.k T.d__law_draw.b (va_cons (ve_v q) (va_cons (ve_set ve_int) va_nil)) (q.h 0)) va_nil)) nn_min (q.h 3))))))) vss_nil)
  (vss_one (vs_ret (ve_v q)))))))))))
theorem ok_law : OkV P w base 6 T.d_law T.G 1 F_law :=
  fnV3 (N := N_law) (fb := f_law) sc_law fun cdv A outer s H E C hr hp q =>
  (vss_cons (vs_s q hp (ve_f (ok__law_container T) hr q 0 (va_cons (ve_v q) va_nil)))
  (vss_cons (vs_s q hp (ve_tup (va_cons (ve_set (ve_ix rfl (ve_v q) ve_int (fun _ _ => rfl))) (va_cons (ve_set (ve_ix rfl (ve_v q) ve_int (fun _ _ => rfl))) (va_cons (ve_set (ve_lc rfl q.nd (own := [("way", 6), ("bits", 3)]) (vi_list rfl (ve_ix rfl (ve_v q) ve_int (fun _ _ => rfl))) (show BlkOk N_law (defScope s_law) _ _ from blkOk_by (by decide +kernel)) (pinVo hp [6, 3]) (by decide) (fun _ _ _ _ _ => (vg_tup rfl (vgs_cons q.nd (q.n 6) (.inl (cv_own k_law_1_way)) (pinV hp 6) (vgs_cons q.nd (q.n 3) (.inl (cv_own k_law_1_bits)) (pinV hp 3) vgs_nil)))) (fun _ _ _ _ _ => vts_nil) (fun _ _ _ _ _ => (ve_tup (va_cons (ve_set (ve_var (q.n 6) (.inl (cv_own k_law_1_way)) (q.d 6) (q.c 6))) (va_cons (ve_set (ve_callTy rfl cs_list (cv_gl k_law_1_list) T.n_list v_list (va_cons (ve_var (q.n 3) (.inl (cv_own k_law_1_bits)) (q.d 3) (q.c 3)) va_nil) nn_list (q.h 1))) va_nil)))))) va_nil)))))
  (vss_cons (vs_s q hp (ve_f (ok_container_bits T) hr q 2 (va_cons (ve_v q) va_nil)))
  (vss_cons (vs_if (VW.pt (vw_or (vt_not (vt_val (ve_isi T.tab.etab (q.g 3) T.n_isinstance v_isinstance (va_cons (ve_v q) (va_cons (ve_gty (q.g 1) T.n_list v_list nn_list (q.h 1)) va_nil)) nn_isinstance (q.h 3)) (fun _ => rfl))) (vw_or (vt_cmp (os_ne hr.units) (ve_v q) (ve_f (ok__law_written T) hr q 4 (va_cons (ve_v q) va_nil)) (nomark _)) (vw_or1 (vt_cmp (os_ne hr.units) (ve_v q) (ve_v q) (nomark _)))))) (vss_one (vs_ret ve_bl)) vss_nil)
  (vss_cons (vs_s q hp (ve_callTy rfl cs_list (q.g 1) T.n_list v_list (va_cons (ve_v q) va_nil) nn_list (q.h 1)))
  (vss_cons (vs_s q hp (ve_f (ok_read_container T) hr q 5 (va_cons (ve_v q) va_nil)))
  (vss_cons (vs_if (VW.pt (vw_or (vt_cmp (os_ne hr.units) (ve_v q) (ve_v q) (nomark _)) (vw_or (vt_cmp (os_ne hr.units) (ve_v q) (ve_v q) (nomark _)) (vw_or1 (vt_cmp (os_ne hr.units) (ve_lcO rfl q.nd (own := [("bit", 11)]) (q.n 3) (q.v 3) (q.d 3) (q.c 3) (show BlkOk N_law (defScope s_law) _ _ from blkOk_by (by decide +kernel)) (pinVo hp [11]) (by decide) (fun _ _ _ _ _ _ => (vg_name q.nd i_law_bit (.inl (cv_own k_law_2_bit)) (pinC (pinV hp 11) (by decide)))) (fun _ _ _ _ _ _ => (vts_one (vt_val (ve_isi T.tab.etab (cv_gl k_law_2_isinstance) T.n_isinstance v_isinstance (va_cons (ve_var i_law_bit (.inl (cv_own k_law_2_bit)) (q.d 11) (q.c 11)) (va_cons (ve_gty (cv_gl k_law_2_bool) T.n_bool v_bool nn_bool d_bool) va_nil)) nn_isinstance (q.h 3)) (fun _ => rfl)))) (fun _ _ _ _ _ _ => (ve_var i_law_bit (.inl (cv_own k_law_2_bit)) (q.d 11) (q.c 11)))) (ve_lst va_nil) (nomark _)))))) (vss_one (vs_ret ve_bl)) vss_nil)
  (vss_cons (vs_if (vt_pure (fun _ eC1 => vt_cmp (os_ne hr.units) (ve_pure (fun _ eC2 => ve_lc rfl q.nd (own := [("x", 10)]) (vi_list rfl (ve_bin os_add (ve_callTy rfl cs_list (q.g 1) T.n_list v_list (va_cons (ve_slice rfl (ve_v q) vo_none (vo_some ve_int)) va_nil) nn_list (q.h 1)) (ve_pure (fun _ eC3 => ve_lc rfl q.nd (own := [("way", 6), ("some", 7)]) (vi_list rfl (ve_ix rfl (ve_v q) ve_int (fun _ _ => rfl))) (show BlkOk N_law (defScope s_law) _ _ from blkOk_by (by decide +kernel)) (pinPo (pinPo (pinPo (pinVo hp [6, 7]) eC1) eC2) eC3) (by decide) (fun _ _ _ _ _ => (vg_tup rfl (vgs_cons q.nd (q.n 6) (.inl (cv_own k_law_3_way)) (pinP (pinP (pinP (pinV hp 6) eC1) eC2) eC3) (vgs_cons q.nd (q.n 7) (.inl (cv_own k_law_3_some)) (pinP (pinP (pinP (pinV hp 7) eC1) eC2) eC3) vgs_nil)))) (fun _ _ _ _ _ => vts_nil) (fun _ _ _ _ _ => (ve_var (q.n 6) (.inl (cv_own k_law_3_way)) (q.d 6) (q.c 6))))))) (show BlkOk N_law (defScope s_law) _ _ from blkOk_by (by decide +kernel)) (pinPo (pinPo (pinVo hp [10]) eC1) eC2) (by decide) (fun _ _ _ _ _ => (vg_name q.nd i_law_x (.inl (cv_own k_law_4_x)) (pinP (pinP (pinV hp 10) eC1) eC2))) (fun _ _ _ _ _ => (vts_one (vt_val (ve_isi T.tab.etab (cv_gl k_law_4_isinstance) T.n_isinstance v_isinstance (va_cons (ve_var i_law_x (.inl (cv_own k_law_4_x)) (q.d 10) (q.c 10)) (va_cons (ve_gty (cv_gl k_law_4_bool) T.n_bool v_bool nn_bool d_bool) va_nil)) nn_isinstance (q.h 3)) (fun _ => rfl)))) (fun _ _ _ _ _ => (ve_var i_law_x (.inl (cv_own k_law_4_x)) (q.d 10) (q.c 10))))) (ve_lst va_nil) (nomark _))) (vss_one (vs_ret ve_bl)) vss_nil)
  (vss_cons (vs_forApp (passes_of rfl) rfl (pp_ix (p := []) (m := 2) (pp_var (q.n 5) (q.v 5) (q.d 5) (q.c 5))) q.nd (by decide) (by decide) (by decide) (q.n 6) (q.l 6) (q.n 7) (q.l 7) (pinV hp 6) (pinV hp 7) (q.d 7) (q.c 7))
  (vss_cons (vs_if (vt_pure (fun _ eC4 => vt_cmp (os_ne hr.units) (ve_ix rfl (ve_v q) ve_int (fun _ _ => rfl)) (ve_lc rfl q.nd (own := [("way", 6), ("some", 7)]) (vi_list rfl (ve_ix rfl (ve_v q) ve_int (fun _ _ => rfl))) (show BlkOk N_law (defScope s_law) _ _ from blkOk_by (by decide +kernel)) (pinPo (pinVo hp [6, 7]) eC4) (by decide) (fun _ _ _ _ _ => (vg_tup rfl (vgs_cons q.nd (q.n 6) (.inl (cv_own k_law_5_way)) (pinP (pinV hp 6) eC4) (vgs_cons q.nd (q.n 7) (.inl (cv_own k_law_5_some)) (pinP (pinV hp 7) eC4) vgs_nil)))) (fun _ _ _ _ _ => vts_nil) (fun _ _ _ _ _ => (ve_tup (va_cons (ve_set (ve_var (q.n 6) (.inl (cv_own k_law_5_way)) (q.d 6) (q.c 6))) (va_cons (ve_set (ve_bin os_add (ve_var (q.n 7) (.inl (cv_own k_law_5_some)) (q.d 7) (q.c 7)) (ve_lst (va_cons (ve_set ve_int) va_nil)))) va_nil))))) (nomark _))) (vss_one (vs_ret ve_bl)) vss_nil)
  (vss_cons (vs_expr (ve_appP (q.n 5) (q.v 5) (q.d 5) (q.c 5) ve_int (fun _ _ => rfl) (fun _ eC5 => (ve_tup (va_cons (ve_set ve_int) (va_cons (ve_set (ve_lst va_nil)) va_nil))))))
  (vss_cons (vs_if (VW.pt (vw_or (vt_cmp (os_ne hr.units) (ve_v q) (ve_v q) (nomark _)) (vw_or1 (vt_cmp (os_ne hr.units) (ve_f (ok_read_container T) hr q 5 (va_cons (ve_v q) va_nil)) (ve_v q) (nomark _))))) (vss_one (vs_ret ve_bl)) vss_nil)
  (vss_cons (vs_expr (ve_app (q.n 3) (q.v 3) (q.d 3) (q.c 3) ve_int))
  (vss_cons (vs_if (VW.pt (vw_or (vt_cmp (os_ne hr.units) (ve_v q) (ve_v q) (nomark _)) (vw_or1 (vt_cmp (os_ne hr.units) (ve_f (ok_container_bits T) hr q 2 (va_cons (ve_v q) va_nil)) (ve_v q) (nomark _))))) (vss_one (vs_ret ve_bl)) vss_nil)
  (vss_cons (vs_s q hp (ve_f (ok__law_state T) hr q 6 (va_cons (ve_v q) (va_cons ve_int va_nil))))
  (vss_cons (vs_f (vi_range1 (q.g 7) T.n_range (va_cons ve_int va_nil)) (vg_n q hp) (vss_one (vs_if (vt_not (vt_val (ve_f (ok__law_read T) hr q 8 (va_cons (ve_callQ (takes_of rfl rfl rfl rfl) (ok__law_spoilt T) (by decide) (hr.mono (by decide)) (q.g 9) T.d__law_spoilt.m T.d__law_spoilt.k T.d__law_spoilt.b (va_cons (ve_set (ve_v q)) (va_cons (ve_v q) va_nil)) (q.h 9)) va_nil)) (fun _ => rfl))) (vss_one (vs_ret ve_bl)) vss_nil)))
  (vss_one (vs_ret ve_bl))))))))))))))))))
end
end K63

namespace K63
theorem all_mk {P : Program} {w : World} {K : PySem.W.Frag} {mg : Str → Option Value} {fa : Addr} (hfa : mg "law" = some (.ref fa)) (T : Txt K mg) : ∃ fd : FuncData, (∀ (s : Shared) (u : Value), BindsTo s fd ⟨[u], []⟩ [("script", u)]) ∧ ∀ base : Heap, K.In base → base.Ns mainGlobals mg → FnOk P w K mg base (L2.CX P w) 6 fa fd ["script"] (spLaw K) := by
  have e := hfa.symm.trans T.d_law.m
  cases e
  exact ⟨T.d_law.fd, fun s u => .of_eq (T.d_law.bs [u] rfl), fun base _ _ => (ok_law T).imp fun vs H Q E q => law_imp (G := T.G) rfl rfl law_plain q⟩
end K63
open PySem PySem.W PyProof.Rows
local macro_rules | `(tactic| walk_at "d") => `(tactic| (refine' VL.DF.of (by assumption) (by assumption) ?n ?l ?c ?k ?b; (case n => k_is); (case l => k_is); (case c => k_is); (case k => k_is); (case b => first | (exact fun _ _ _ _ _ _ us hl => match us, hl with | [_], _ => rfl) | (exact fun _ _ _ _ _ _ us hl => match us, hl with | [_, _], _ => rfl)))) -- own
local macro_rules | `(tactic| walk_at "c") => `(tactic| (refine' VL.CF.of (by assumption) (by assumption) ?n ?i ?t ?b; (case n => k_is); (case i => k_is); (case t => k_is); (case b => k_is))) -- own
local macro_rules | `(tactic| walk_at "r") => `(tactic| (refine' ⟨?x, ?kc, ?hg, ?hk, ?hd, ?ha, ?hm, ?se⟩; (case x => k_exc); (case kc => k_is); (case hg => k_is); (case hk => k_is); (case hd => k_is); (case ha => k_is); (case hm => k_is); (case se => first | rfl | k_is))) -- own
local macro_rules | `(tactic| walk_at "e") => `(tactic| (refine' ⟨?n, ?t⟩; (case n => k_is); (case t => k_is))) -- own
local macro_rules | `(tactic| walk_at "su") => `(tactic| (first | rfl | k_is)) -- own
local macro_rules | `(tactic| walk_at "k") => `(tactic| (k_is)) -- own
local macro_rules | `(tactic| walk_at "n") => `(tactic| (refine' PySem.W.mg_none_of (by assumption) (by assumption) ?z; (case z => k_is))) -- own
local macro_rules | `(tactic| walk_at "g") => `(tactic| (refine' VL.KI.of (by assumption) (by assumption) ?z; (case z => k_is))) -- own
local macro_rules | `(tactic| walk_at "gs") => `(tactic| (refine' VL.KS.of (by assumption) (by assumption) ?z; (case z => k_is))) -- own
theorem PySem.Challenge.cw_packhall_k63_bits_of_containers_holds : PySem.Challenge.rw_packhall_k63_bits_of_containers.Holds := by
  w_on; o_law; k_head; (case hw => w_witness2)
  k_fill
  refine VL.walk_lawV (k := 6) (l := PySem.Challenge.rw_packhall_k63_bits_of_containers) rfl rfl ⟨rfl, by decide, by decide⟩ (fun w h Y => PySem.W.kIn_of Y) ?F
  case F =>
    intro w mg fa h KX G hmg
    refine' K63.all_mk hmg ⟨_, _, _, _, _, _, _, _, ?cf_PackError, ?cf_NoNumber, ?cf_NoCode, ?cf_NoPlace, ?cf_Broken, ?cf_NoText, ?cf_NoName, ?cf_NoRow, ?rf_Broken, ?rf_NoNumber, ?ef, ?su_0, ?su_1, ?su_2, ?su_3, ?su_4, ?su_5, ?su_6, ?su_7, ?su_8, ?su_9, ?su_10, ?su_11, ?su_12, ?su_13, ?su_14, ?su_15, ?su_16, ?su_17, ?n_range, ?n_len, ?n_min, ?n_list, ?n_isinstance, ?n_tuple, ?n_ValueError, ?n_bool, ?g_MOST_SIZE, ?g_MOST_SIGNS, ?d__law_first, ?d__law_draw, ?d__law_block, ?d__law_state, ?d__law_container, ?d_blocks_for, ?d_need_container, ?d_figures_of, ?d_ending_bits, ?d_row_bits, ?d_container_bits, ?d_number_of, ?d_read_ending, ?d_read_row, ?d_read_container, ?d__law_ending, ?d__law_row, ?d__law_written, ?d__law_read_ending, ?d__law_read_row, ?d__law_due, ?d__law_read, ?d__law_spoilt, ?d_law⟩
    (case cf_PackError | cf_NoNumber | cf_NoCode | cf_NoPlace | cf_Broken | cf_NoText | cf_NoName | cf_NoRow => walk_at "c")
    (case rf_Broken | rf_NoNumber => walk_at "r")
    (case ef => walk_at "e")
    (case su_0 | su_1 | su_2 | su_3 | su_4 | su_5 | su_6 | su_7 | su_9 | su_10 | su_11 | su_12 | su_13 | su_14 | su_15 | su_16 => walk_at "su")
    (case su_8 | su_17 => walk_at "k")
    (case n_range | n_len | n_min | n_list | n_isinstance | n_tuple | n_ValueError | n_bool => walk_at "n")
    (case g_MOST_SIZE | g_MOST_SIGNS => walk_at "g")
    (case d__law_first | d__law_draw | d__law_block | d__law_state | d__law_container | d_blocks_for | d_need_container | d_figures_of | d_ending_bits | d_row_bits | d_container_bits | d_number_of | d_read_ending | d_read_row | d_read_container | d__law_ending | d__law_row | d__law_written | d__law_read_ending | d__law_read_row | d__law_due | d__law_read | d__law_spoilt | d_law => walk_at "d")
#print axioms PySem.Challenge.cw_packhall_k63_bits_of_containers_holds

