import PyProof.Rows.All
import Wide.All
import OpenK.AllK
import Wide.FinOn
import HandS.ForMost
import HandS.ForExc
import HandS.ExcIs
import HandS.Lambda
import HandS.EndTab
import HandS.Wide
import HandS.WideBits
import HandS.Deep
import HandS.TupAny
import HandS.IsInst
import HandS.Ends
import HandS.Style
import HandS.EndBits
import HandS.Conv
import HandS.SetFor
import HandS.SortInts
import HandS.More
import HandS.NoneIn
import HandS.DictTup
import HandS.SortRule
import HandS.NamedTupSort
import KE.LtSeq
import HandS.Rev
import HandS.Strs
import HandS.ExcOwn
import HandS.SortKw
import KE.SortKeyHeap
import HandS.Dict
import HandS.TupLe
import HandS.Sort
import KE.KDictZip
import HandS.Zip
import KE.KTryMore
import KE.DatumOrd
import PySem.Challenge.RW_packhall_k81_whole_lost_blocks_back
set_option Elab.async false
set_option linter.all false
set_option maxRecDepth 100000
set_option maxHeartbeats 4000000
namespace VL
end VL
open PySem PySem.Spec PyProof.Rows L2 VL
namespace VL
open PySem PySem.Spec PyProof.Rows L2

inductive Kd where
  | lst | tup | rd | dK (ks : List Key) | dT (ks : List (List Key)) | ins (c : Nat) (fs : List Str)
def isR : Kd → Bool
  | .rd => true
  | _ => false
inductive D where
  | any | non | bl (b : Bool) | int (i : Int) | str (s : Str) | exc (c : Nat) | ty (n : String) | cls (c : Nat)
  | node (k : Kd) (o : Bool) (xs : List D)

inductive Bs where
  | sl (i : Nat) | tm (j : Nat) | fo
  deriving DecidableEq
structure Loc where
  b : Bs
  p : List Nat
  deriving DecidableEq
def Loc.sub (l : Loc) (i : Nat) : Loc := ⟨l.b, l.p ++ [i]⟩
def Loc.app (l : Loc) (q : List Nat) : Loc := ⟨l.b, l.p ++ q⟩
theorem Loc.sub_app (l : Loc) (i : Nat) (q : List Nat) : (l.sub i).app q = l.app (i :: q) := by
  unfold Loc.sub Loc.app; simp
theorem Loc.app_nil (l : Loc) : l.app [] = l := by
  unfold Loc.app; simp
abbrev Ow := Addr → Option Loc

def ExT (cls : Value) (a : Addr) : HO := .ext fun h => ∃ (oe : Obj) (vs : Array Value), h.get? a = some oe ∧ Zc cls none oe ∧ oe.data = .fields vs
def isTbl : HO → Bool
  | .tbl _ => true
  | _ => false
def Kt (x : Option HO) (o : HO) : Prop := x = some o ∨ (isTbl o = true ∧ ∃ ps, x = some (.tbl ps))
instance {x : Option HO} {o : HO} : Coe (x = some o) (Kt x o) := ⟨.inl⟩
theorem Kt.get {x : Option HO} {o : HO} (h : Kt x o) (n : isTbl o = false) : x = some o := h.elim id fun z => by rw [n] at z; cases z.1
theorem Kt.bind {x y : Option HO} {o : HO} (h : Kt x o) (f : ∀ u, x = some u → Kt y u) : Kt y o := by
  rcases h with h | ⟨h1, ps, h2⟩
  · exact f o h
  · rcases f _ h2 with z | ⟨_, z⟩
    · exact .inr ⟨h1, _, z⟩
    · exact .inr ⟨h1, z⟩
theorem Kt.no {o : HO} (h : Kt none o) : False := by
  rcases h with h | ⟨_, _, h⟩ <;> cases h
theorem Kt.on {x : Option HO} {o : HO} (h : Kt x o) (e : x = none) : False := by rw [e] at h; exact h.no
def OwnO : Option HO → Prop
  | some (.lst _) => True
  | some (.dK _) => True
  | some (.dT _) => True
  | some (.ins _ _ _) => True
  | _ => False
theorem OwnO.nt {o : HO} (h : OwnO (some o)) : isTbl o = false := by
  cases o <;> first | rfl | exact h.elim
def OwnAt (k : Kd) (o : Bool) (l : Loc) (x : Option Loc) : Prop := match k with
  | .rd => True
  | _ => x = if o = true then some l else none
theorem OwnAt.ofR {k : Kd} {o : Bool} {l : Loc} {x : Option Loc} (h : isR k = true) : OwnAt k o l x := by
  cases k <;> first | exact trivial | cases h
theorem OwnAt.cases {k : Kd} {o : Bool} {l : Loc} {x : Option Loc} (h : OwnAt k o l x) : isR k = true ∨ x = if o = true then some l else none := by
  cases k <;> first | exact .inl rfl | exact .inr h
theorem OwnAt.mk {k : Kd} {o : Bool} {l : Loc} {x : Option Loc} (h : x = if o = true then some l else none) : OwnAt k o l x := by
  cases k <;> first | exact h | exact trivial
structure GX where
  ad : Nat → Addr
  K : PySem.W.Frag
  T : List (Addr × Str)
instance : CoeFun GX (fun _ => Nat → Addr) := ⟨GX.ad⟩
def Holds (G : GX) (H : Hp) (a : Addr) : Kd → List V → Prop
  | .lst, vs => H a = some (.lst vs)
  | .tup, vs => H a = some (.tup vs)
  | .rd, vs => (∃ o, H a = some (.frz o (.lst vs))) ∨ ∃ (o : Obj) (its : Array Value) (n : Nat), G.K.lookup a = some o ∧ o.cls = .type "list" ∧ o.dict = none ∧ o.data = .seq its n ∧ its.size ≤ sizeLine ∧ Vals vs its.toList
  | .dK ks, vs => H a = some (.dK (ks.zip vs)) ∧ ks.length = vs.length
  | .dT ks, vs => H a = some (.dT (ks.zip vs)) ∧ ks.length = vs.length
  | .ins c fs, vs => (∃ dx, H a = some (.ins (G c) dx (fs.zip vs))) ∧ fs.length = vs.length
theorem Holds.there {G : GX} {H : Hp} {a : Addr} {k : Kd} {vs : List V} (h : Holds G H a k vs) (n : isR k ≠ true) : ∃ o, H a = some o ∧ isTbl o = false := by
  cases k with
  | lst => exact ⟨_, h, rfl⟩
  | tup => exact ⟨_, h, rfl⟩
  | dK ks => exact ⟨_, h.1, rfl⟩
  | dT ks => exact ⟨_, h.1, rfl⟩
  | ins c fs => obtain ⟨⟨dx, h⟩, _⟩ := h; exact ⟨_, h, rfl⟩
  | _ => exact absurd rfl n
theorem Holds.seq {G : GX} {H : Hp} {a : Addr} {vs : List V} (h : Holds G H a .rd vs) : SqL G.K H a vs := by
  rcases h with ⟨o, h⟩ | h
  · exact .inl (.inr ⟨o, h⟩)
  · exact .inr h
theorem Holds.keep {G : GX} {H H' : Hp} {a : Addr} {k : Kd} {vs : List V} (h : Holds G H a k vs) (e : ∀ o, H a = some o → Kt (H' a) o) : Holds G H' a k vs := by
  cases k with
  | lst => exact (e _ h).get rfl
  | tup => exact (e _ h).get rfl
  | rd =>
    rcases h with ⟨o, h⟩ | h
    · exact .inl ⟨o, (e _ h).get rfl⟩
    · exact .inr h
  | dK ks => exact ⟨(e _ h.1).get rfl, h.2⟩
  | dT ks => exact ⟨(e _ h.1).get rfl, h.2⟩
  | ins c fs => obtain ⟨⟨dx, h⟩, z⟩ := h; exact ⟨⟨dx, (e _ h).get rfl⟩, z⟩
theorem Holds.keepR {G : GX} {H H' : Hp} {a : Addr} {k : Kd} {vs : List V} (hk : isR k = true) (h : Holds G H a k vs) (e : ∀ a o, H a = some o → ¬ OwnO (some o) → Kt (H' a) o) : Holds G H' a k vs := by
  cases k with
  | rd =>
    rcases h with ⟨o, h⟩ | h
    · exact .inl ⟨o, (e _ _ h (fun z => z)).get rfl⟩
    · exact .inr h
  | _ => cases hk
mutual
def Rep (G : GX) (ow : Ow) (H : Hp) : D → Loc → V → Prop
  | .any, _, _ => True
  | .non, _, v => v = .non
  | .bl b, _, v => v = .bl b
  | .int i, _, v => v = .int i
  | .str s, _, v => v = .str s
  | .exc c, _, v => ∃ a, v = .ref a ∧ H a = some (ExT (.ref (G c)) a)
  | .ty n, _, v => v = .ty n
  | .cls c, _, v => v = .ref (G c)
  | .node k o xs, l, v => ∃ a vs, v = .ref a ∧ Holds G H a k vs ∧ OwnAt k o l (ow a) ∧ Reps G ow H xs l 0 vs
def Reps (G : GX) (ow : Ow) (H : Hp) : List D → Loc → Nat → List V → Prop
  | [], _, _, vs => vs = []
  | d :: ds, l, i, vs => ∃ v ws, vs = v :: ws ∧ Rep G ow H d (l.sub i) v ∧ Reps G ow H ds l (i + 1) ws
end

mutual
def frz : D → D
  | .any => .any
  | .non => .non
  | .bl b => .bl b
  | .int i => .int i
  | .str s => .str s
  | .exc c => .exc c
  | .ty n => .ty n
  | .cls c => .cls c
  | .node k _ xs => .node k false (frzs xs)
def frzs : List D → List D
  | [] => []
  | d :: ds => frz d :: frzs ds
end
theorem frzs_map : ∀ xs : List D, frzs xs = xs.map frz
  | [] => by simp [frzs]
  | d :: ds => by simp [frzs, frzs_map ds]
mutual
theorem frz_frz : ∀ d : D, frz (frz d) = frz d
  | .any => rfl
  | .non => rfl
  | .bl _ => rfl
  | .int _ => rfl
  | .str _ => rfl
  | .exc _ => rfl
  | .ty _ => rfl
  | .cls _ => rfl
  | .node k o xs => by simp only [frz, frzs_frzs xs]
theorem frzs_frzs : ∀ ds : List D, frzs (frzs ds) = frzs ds
  | [] => by simp only [frzs]
  | d :: ds => by simp only [frzs, frz_frz d, frzs_frzs ds]
end
def frzB : D → D
  | .node k o xs => .node k o (frzs xs)
  | d => d

section
variable {G : GX} {ow ow' : Ow} {H H' : Hp}
mutual
/-- the one rule of change: objects that the tree leans on stay, and who owns them is told anew -/
theorem Rep.mono : ∀ (d : D) {l l' : Loc} {v : V}, (∀ a o, H a = some o → (ow a = none ∨ ∃ q, ow a = some (l.app q)) → Kt (H' a) o) → (∀ a o, H a = some o → ¬ OwnO (some o) → Kt (H' a) o) → (∀ a o, H a = some o → ow a = none → ow' a = none) →
    (∀ a o q, H a = some o → ow a = some (l.app q) → ow' a = some (l'.app q)) → Rep G ow H d l v → Rep G ow' H' d l' v
  | .any, _, _, _, _, _, _, _, _ => trivial
  | .non, _, _, _, _, _, _, _, h => h
  | .bl _, _, _, _, _, _, _, _, h => h
  | .int _, _, _, _, _, _, _, _, h => h
  | .str _, _, _, _, _, _, _, _, h => h
  | .ty _, _, _, _, _, _, _, _, h => h
  | .cls _, _, _, _, _, _, _, _, h => h
  | .exc _, _, _, _, _, hE, _, _, h => by
    obtain ⟨a, e, h⟩ := h
    exact ⟨a, e, (hE a _ h (fun z => z)).get rfl⟩
  | .node k o xs, l, l', v, hA, hE, hB, hC, h => by
    obtain ⟨a, vs, e, h1, h2, h3⟩ := h
    by_cases hk : isR k = true
    · exact ⟨a, vs, e, h1.keepR hk hE, .ofR hk, Reps.mono xs hA hE hB hC h3⟩
    have h2 := h2.cases.resolve_left hk
    obtain ⟨ob, hob, _⟩ := h1.there hk
    refine ⟨a, vs, e, h1.keep fun o' z => hA a o' z ?_, .mk ?_, Reps.mono xs hA hE hB hC h3⟩
    · cases o with
      | true => exact .inr ⟨[], by rw [Loc.app_nil]; simpa using h2⟩
      | false => exact .inl (by simpa using h2)
    · cases o with
      | true =>
        have z := hC a ob [] hob (by rw [Loc.app_nil]; simpa using h2)
        rw [Loc.app_nil] at z
        simpa using z
      | false => simpa using hB a ob hob (by simpa using h2)
theorem Reps.mono : ∀ (ds : List D) {l l' : Loc} {i : Nat} {vs : List V}, (∀ a o, H a = some o → (ow a = none ∨ ∃ q, ow a = some (l.app q)) → Kt (H' a) o) → (∀ a o, H a = some o → ¬ OwnO (some o) → Kt (H' a) o) → (∀ a o, H a = some o → ow a = none → ow' a = none) →
    (∀ a o q, H a = some o → ow a = some (l.app q) → ow' a = some (l'.app q)) → Reps G ow H ds l i vs → Reps G ow' H' ds l' i vs
  | [], _, _, _, _, _, _, _, _, h => h
  | d :: ds, l, l', i, vs, hA, hE, hB, hC, h => by
    obtain ⟨v, ws, e, h1, h2⟩ := h
    refine ⟨v, ws, e, Rep.mono d (fun a o z q => hA a o z ?_) hE hB (fun a o q z r => ?_) h1, Reps.mono ds hA hE hB hC h2⟩
    · rcases q with q | ⟨q, r⟩
      · exact .inl q
      · exact .inr ⟨i :: q, by rw [r, Loc.sub_app]⟩
    · rw [Loc.sub_app] at r ⊢
      exact hC a o (i :: q) z r
end
mutual
/-- frozen: all that it owned is nobody's -/
theorem Rep.frz : ∀ (d : D) {l l' : Loc} {v : V}, (∀ a o, H a = some o → (ow a = none ∨ ∃ q, ow a = some (l.app q)) → Kt (H' a) o ∧ ow' a = none) → (∀ a o, H a = some o → ¬ OwnO (some o) → Kt (H' a) o) →
    Rep G ow H d l v → Rep G ow' H' (VL.frz d) l' v
  | .any, _, _, _, _, _, _ => trivial
  | .non, _, _, _, _, _, h => h
  | .bl _, _, _, _, _, _, h => h
  | .int _, _, _, _, _, _, h => h
  | .str _, _, _, _, _, _, h => h
  | .ty _, _, _, _, _, _, h => h
  | .cls _, _, _, _, _, _, h => h
  | .exc _, _, _, _, _, hE, h => by
    obtain ⟨a, e, h⟩ := h
    exact ⟨a, e, (hE a _ h (fun z => z)).get rfl⟩
  | .node k o xs, l, l', v, hA, hE, h => by
    obtain ⟨a, vs, e, h1, h2, h3⟩ := h
    by_cases hk : isR k = true
    · exact ⟨a, vs, e, h1.keepR hk hE, .ofR hk, Reps.frz xs hA hE h3⟩
    have h2 := h2.cases.resolve_left hk
    obtain ⟨ob, hob, _⟩ := h1.there hk
    have own : ow a = none ∨ ∃ q, ow a = some (l.app q) := by
      cases o with
      | true => exact .inr ⟨[], by rw [Loc.app_nil]; simpa using h2⟩
      | false => exact .inl (by simpa using h2)
    show ∃ a vs, v = .ref a ∧ Holds G H' a k vs ∧ OwnAt k false l' (ow' a) ∧ Reps G ow' H' (VL.frzs xs) l' 0 vs
    exact ⟨a, vs, e, h1.keep fun o' z => (hA a o' z own).1, .mk (by simpa using (hA a ob hob own).2), Reps.frz xs hA hE h3⟩
theorem Reps.frz : ∀ (ds : List D) {l l' : Loc} {i j : Nat} {vs : List V}, (∀ a o, H a = some o → (ow a = none ∨ ∃ q, ow a = some (l.app q)) → Kt (H' a) o ∧ ow' a = none) → (∀ a o, H a = some o → ¬ OwnO (some o) → Kt (H' a) o) →
    Reps G ow H ds l i vs → Reps G ow' H' (VL.frzs ds) l' j vs
  | [], _, _, _, _, _, _, _, h => h
  | d :: ds, l, l', i, j, vs, hA, hE, h => by
    obtain ⟨v, ws, e, h1, h2⟩ := h
    show ∃ v ws, vs = v :: ws ∧ Rep G ow' H' (VL.frz d) (l'.sub j) v ∧ Reps G ow' H' (VL.frzs ds) l' (j + 1) ws
    refine ⟨v, ws, e, Rep.frz d (fun a o z q => hA a o z ?_) hE h1, Reps.frz ds hA hE h2⟩
    rcases q with q | ⟨q, r⟩
    · exact .inl q
    · exact .inr ⟨i :: q, by rw [r, Loc.sub_app]⟩
end
end

theorem Reps.length {G : GX} {ow : Ow} {H : Hp} : ∀ {ds : List D} {l : Loc} {i : Nat} {vs : List V}, Reps G ow H ds l i vs → ds.length = vs.length
  | [], _, _, _, h => by
    have e : _ = [] := h
    subst e; rfl
  | d :: ds, l, i, vs, h => by
    obtain ⟨v, ws, e, _, h2⟩ := h
    subst e
    simp [Reps.length h2]
theorem Reps.get {G : GX} {ow : Ow} {H : Hp} : ∀ {ds : List D} {l : Loc} {i : Nat} {vs : List V}, Reps G ow H ds l i vs → ∀ (j : Nat) (d : D), ds[j]? = some d → ∃ v, vs[j]? = some v ∧ Rep G ow H d (l.sub (i + j)) v
  | [], _, _, _, _, j, d, e => by simp at e
  | d :: ds, l, i, vs, h, 0, d', e => by
    obtain ⟨v, ws, ev, h1, _⟩ := h
    subst ev
    simp at e; subst e
    exact ⟨v, rfl, h1⟩
  | d :: ds, l, i, vs, h, j + 1, d', e => by
    obtain ⟨v, ws, ev, _, h2⟩ := h
    subst ev
    obtain ⟨u, e1, e2⟩ := Reps.get h2 j d' (by simpa using e)
    refine ⟨u, by simpa using e1, ?_⟩
    rw [show i + (j + 1) = i + 1 + j by omega]
    exact e2
theorem Reps.of_get {G : GX} {ow : Ow} {H : Hp} : ∀ {ds : List D} {l : Loc} {i : Nat} {vs : List V}, ds.length = vs.length → (∀ (j : Nat) (d : D) (v : V), ds[j]? = some d → vs[j]? = some v → Rep G ow H d (l.sub (i + j)) v) → Reps G ow H ds l i vs
  | [], _, _, vs, hl, _ => by
    have : vs = [] := by simpa using hl.symm
    exact this
  | d :: ds, l, i, [], hl, _ => by simp at hl
  | d :: ds, l, i, v :: vs, hl, h => by
    refine ⟨v, vs, rfl, h 0 d v rfl rfl, Reps.of_get (by simpa using hl) fun j d' v' e1 e2 => ?_⟩
    have z := h (j + 1) d' v' (by simpa using e1) (by simpa using e2)
    rw [show i + 1 + j = i + (j + 1) by omega]
    exact z
end VL

namespace VL
open PySem PySem.Spec PyProof.Rows L2

structure Fc where
  H0 : Hp
  io : Addr → Prop
  fo : Addr → Prop
  pin : List (Nat × V)
abbrev Rho := List (Option D)
theorem tabs_upd {T : List (Addr × Str)} {H : Hp} {a : Addr} {ho : HO} (t : LamX.Tabs T H) (h : H a = none ∨ OwnO (H a)) : LamX.Tabs T (upd H a ho) := fun p hp => by
  have ne : ∀ (b : Addr) (o : HO), H b = some o → ¬ OwnO (some o) → upd H a ho b = some o := fun b o e n => by
    rw [upd_ne]
    · exact e
    · intro z
      subst z
      rcases h with h | h
      · rw [h] at e; cases e
      · rw [e] at h; exact n h
  obtain ⟨ps, h1, h2, h3⟩ := t p hp
  refine ⟨ps, ne _ _ h1 (fun z => z), h2, fun pos cv hc => ?_⟩
  obtain ⟨c, e1, e2⟩ := h3 pos cv hc
  exact ⟨c, e1, ne _ _ e2 (fun z => z)⟩
theorem tabs_none {T : List (Addr × Str)} {H : Hp} {a : Addr} {ho : HO} (t : LamX.Tabs T H) (h : H a = none) : LamX.Tabs T (upd H a ho) := tabs_upd t (.inl h)
theorem tabs_own {T : List (Addr × Str)} {H : Hp} {a : Addr} {ho o : HO} (t : LamX.Tabs T H) (h : H a = some o) (n : OwnO (some o)) : LamX.Tabs T (upd H a ho) := tabs_upd t (.inr (by rw [h]; exact n))
structure StW (G : GX) (C : Fc) (ow : Ow) (r : Rho) (T : List (D × V)) (s : L2.St) (H : Hp) : Prop where
  len : r.length = s.length
  sl : ∀ (i : Nat) (d : D), r[i]? = some (some d) → ∃ v, s[i]? = some (some v) ∧ Rep G ow H d ⟨.sl i, []⟩ v
  tm : ∀ (j : Nat) (d : D) (v : V), T[j]? = some (d, v) → Rep G ow H d ⟨.tm j, []⟩ v
  old : ∀ a o, ¬ C.io a → C.H0 a = some o → Kt (H a) o
  own : ∀ a l, ow a = some l → l.b = .fo ∨ C.H0 a = none ∨ C.io a
  fo : ∀ a, C.fo a → ow a = some ⟨.fo, []⟩
  mu : ∀ a l, ow a = some l → OwnO (H a)
  pin : ∀ p ∈ C.pin, s[p.1]? = some (some p.2)
  tabs : LamX.Tabs G.T H
def StOk (G : GX) (C : Fc) (r : Rho) (T : List (D × V)) (s : L2.St) (H : Hp) : Prop := ∃ ow, StW G C ow r T s H
def Ext (H H' : Hp) : Prop := ∀ a o, H a = some o → Kt (H' a) o
theorem Ext.new {H : Hp} {p : Addr} {o : HO} (h : H p = none) : Ext H (upd H p o) := fun a u e => by
  rw [upd_ne (ne_of_none e h)]; exact .inl e

def atom : D → Bool
  | .node _ _ _ => false
  | _ => true
theorem frz_atom {d : D} (h : atom d = true) : frz d = d := by
  cases d with
  | node k o xs => cases h
  | _ => rfl

section
variable {G : GX} {C : Fc} {ow ow' : Ow} {r : Rho} {T T1 T2 : List (D × V)} {s : L2.St} {H H' : Hp}
mutual
/-- .. the tree frozen: only unowned cells count -/
theorem Rep.moveF : ∀ (d : D) {l l' : Loc} {v : V}, VL.frz d = d → (∀ a o, H a = some o → ow a = none → Kt (H' a) o ∧ ow' a = none) → (∀ a o, H a = some o → ¬ OwnO (some o) → Kt (H' a) o) → Rep G ow H d l v → Rep G ow' H' d l' v
  | .any, _, _, _, _, _, _, _ => trivial
  | .non, _, _, _, _, _, _, h => h
  | .bl _, _, _, _, _, _, _, h => h
  | .int _, _, _, _, _, _, _, h => h
  | .str _, _, _, _, _, _, _, h => h
  | .ty _, _, _, _, _, _, _, h => h
  | .cls _, _, _, _, _, _, _, h => h
  | .exc _, _, _, _, _, _, hE, h => by
    obtain ⟨a, e, h⟩ := h
    exact ⟨a, e, (hE a _ h (fun z => z)).get rfl⟩
  | .node k o xs, l, l', v, e, hA, hE, h => by
    have e' : D.node k false (VL.frzs xs) = .node k o xs := e
    injection e' with _ e1 e2
    subst e1
    obtain ⟨a, vs, ev, h1, h2, h3⟩ := h
    by_cases hk : isR k = true
    · exact ⟨a, vs, ev, h1.keepR hk hE, .ofR hk, Reps.moveF xs e2 hA hE h3⟩
    have h2 := h2.cases.resolve_left hk
    obtain ⟨ob, hob, _⟩ := h1.there hk
    have n : ow a = none := by simpa using h2
    exact ⟨a, vs, ev, h1.keep fun o' z => (hA a o' z n).1, .mk (by simpa using (hA a ob hob n).2), Reps.moveF xs e2 hA hE h3⟩
theorem Reps.moveF : ∀ (ds : List D) {l l' : Loc} {i j : Nat} {vs : List V}, VL.frzs ds = ds → (∀ a o, H a = some o → ow a = none → Kt (H' a) o ∧ ow' a = none) → (∀ a o, H a = some o → ¬ OwnO (some o) → Kt (H' a) o) → Reps G ow H ds l i vs → Reps G ow' H' ds l' j vs
  | [], _, _, _, _, _, _, _, _, h => h
  | d :: ds, l, l', i, j, vs, e, hA, hE, h => by
    have e' : VL.frz d :: VL.frzs ds = d :: ds := e
    injection e' with e1 e2
    obtain ⟨v, ws, ev, h1, h2⟩ := h
    exact ⟨v, ws, ev, Rep.moveF d e1 hA hE h1, Reps.moveF ds e2 hA hE h2⟩
end

theorem StW.ext (S : StW G C ow r T s H) (e : Ext H H') (et : LamX.Tabs G.T H') : StW G C ow r T s H' where
  len := S.len
  sl := fun i d q => by
    obtain ⟨v, h1, h2⟩ := S.sl i d q
    exact ⟨v, h1, h2.mono d (fun a o z _ => e a o z) (fun a o z _ => e a o z) (fun _ _ _ z => z) fun _ _ _ _ z => z⟩
  tm := fun j d v q => (S.tm j d v q).mono d (fun a o z _ => e a o z) (fun a o z _ => e a o z) (fun _ _ _ z => z) fun _ _ _ _ z => z
  old := fun a o n q => (S.old a o n q).bind fun u q => e a u q
  own := S.own
  fo := S.fo
  mu := fun a l q => by
    have m := S.mu a l q
    cases z : H a with
    | none => rw [z] at m; exact m.elim
    | some o => rw [z] at m; rw [(e a o z).get m.nt]; exact m
  pin := S.pin
  tabs := et
theorem StOk.ext (S : StOk G C r T s H) (e : Ext H H') (et : LamX.Tabs G.T H') : StOk G C r T s H' := let ⟨ow, W⟩ := S; ⟨ow, W.ext e et⟩
theorem StW.drop (S : StW G C ow r (T ++ T2) s H) : StW G C ow r T s H :=
  ⟨S.len, S.sl, fun j d v q => S.tm j d v (by
    have hj : j < T.length := (List.getElem?_eq_some_iff.mp q).1
    rw [List.getElem?_append_left hj]; exact q), S.old, S.own, S.fo, S.mu, S.pin, S.tabs⟩
theorem StOk.drop (S : StOk G C r (T ++ T2) s H) : StOk G C r T s H := let ⟨ow, W⟩ := S; ⟨ow, W.drop⟩
theorem StW.last {d : D} {v : V} (S : StW G C ow r (T ++ [(d, v)]) s H) : Rep G ow H d ⟨.tm T.length, []⟩ v := S.tm T.length d v (by simp)
theorem StW.push {d : D} {v : V} (S : StW G C ow r T s H) (h : Rep G ow H d ⟨.tm T.length, []⟩ v) : StW G C ow r (T ++ [(d, v)]) s H :=
  ⟨S.len, S.sl, fun j d' v' q => by
    by_cases hj : j < T.length
    · rw [List.getElem?_append_left hj] at q
      exact S.tm j d' v' q
    · rw [List.getElem?_append_right (by omega)] at q
      have e : j = T.length := by
        have := (List.getElem?_eq_some_iff.mp q).1
        simp at this; omega
      subst e
      simp at q
      obtain ⟨e1, e2⟩ := q
      subst e1; subst e2
      exact h, S.old, S.own, S.fo, S.mu, S.pin, S.tabs⟩
theorem Rep.of_atom {d : D} {l l' : Loc} {v : V} (a : atom d = true) (h : Rep G ow H d l v) : Rep G ow' H d l' v := by
  cases d with
  | node k o xs => cases a
  | _ => exact h
theorem StOk.pushA {d : D} {v : V} (S : StOk G C r T s H) (a : atom d = true) (h : ∀ ow l, Rep G ow H d l v) : StOk G C r (T ++ [(d, v)]) s H := let ⟨ow, W⟩ := S; ⟨ow, W.push (h _ _)⟩
theorem StOk.pushI (i : Int) (S : StOk G C r T s H) : StOk G C r (T ++ [(.int i, .int i)]) s H := S.pushA rfl fun _ _ => rfl
theorem StOk.pushB (b : Bool) (S : StOk G C r T s H) : StOk G C r (T ++ [(.bl b, .bl b)]) s H := S.pushA rfl fun _ _ => rfl
theorem StOk.pushN (S : StOk G C r T s H) : StOk G C r (T ++ [(.non, .non)]) s H := S.pushA rfl fun _ _ => rfl
def free (ow : Ow) (b : Bs) : Ow := fun a => match ow a with
  | some l => if l.b = b then none else some l
  | none => none
theorem free_none {b : Bs} {a : Addr} (h : ow a = none) : free ow b a = none := by unfold free; rw [h]
theorem free_at {b : Bs} {a : Addr} {l : Loc} (h : ow a = some l) (e : l.b = b) : free ow b a = none := by unfold free; rw [h]; simp [e]
theorem free_else {b : Bs} {a : Addr} {l : Loc} (h : ow a = some l) (e : l.b ≠ b) : free ow b a = some l := by unfold free; rw [h]; simp [e]
theorem of_free {b : Bs} {a : Addr} {l : Loc} (h : free ow b a = some l) : ow a = some l ∧ l.b ≠ b := by
  unfold free at h
  split at h
  · rename_i l' e
    split at h
    · cases h
    · rename_i n
      cases h
      exact ⟨e, n⟩
  · cases h
theorem app_b (l : Loc) (q : List Nat) : (l.app q).b = l.b := rfl
theorem Rep.free {d : D} {l : Loc} {v : V} {b : Bs} (h : Rep G ow H d l v) (n : l.b ≠ b) : Rep G (VL.free ow b) H d l v :=
  h.mono d (fun _ _ z _ => z) (fun _ _ z _ => z) (fun _ _ _ z => free_none z) fun a o q _ z => free_else z (by rw [app_b]; exact n)
theorem Rep.freeze {d : D} {l l' : Loc} {v : V} (h : Rep G ow H d l v) : Rep G (VL.free ow l.b) H (VL.frz d) l' v :=
  Rep.frz d (fun a o z q => ⟨z, by
    rcases q with q | ⟨q, e⟩
    · exact free_none q
    · exact free_at e (app_b l q)⟩) (fun _ _ z _ => z) h
theorem StW.frzSl {j : Nat} {d : D} (S : StW G C ow r T s H) (e : r[j]? = some (some d)) : StW G C (free ow (.sl j)) (r.set j (some (frz d))) T s H where
  len := by simpa using S.len
  sl := fun i d' q => by
    by_cases hi : i = j
    · subst hi
      have hlt : i < r.length := (List.getElem?_eq_some_iff.mp e).1
      rw [List.getElem?_set_self hlt] at q
      cases q
      obtain ⟨v, h1, h2⟩ := S.sl i d e
      exact ⟨v, h1, h2.freeze⟩
    · rw [List.getElem?_set_ne (Ne.symm hi)] at q
      obtain ⟨v, h1, h2⟩ := S.sl i d' q
      exact ⟨v, h1, h2.free (fun z => hi (by injection z))⟩
  tm := fun k d' v q => (S.tm k d' v q).free (fun z => nomatch z)
  old := S.old
  own := fun a l q => S.own a l (of_free q).1
  fo := fun a q => free_else (S.fo a q) (fun z => nomatch z)
  mu := fun a l q => S.mu a l (of_free q).1
  pin := S.pin
  tabs := S.tabs
theorem StW.copy {j : Nat} {d : D} {v : V} (S : StW G C ow r T s H) (e : r[j]? = some (some d)) (f : frz d = d) (hv : s[j]? = some (some v)) : StW G C ow r (T ++ [(d, v)]) s H := by
  obtain ⟨v', h1, h2⟩ := S.sl j d e
  rw [hv] at h1
  cases h1
  exact S.push (Rep.moveF d f (fun a o z q => ⟨z, q⟩) (fun _ _ z _ => z) h2)
theorem StW.frzTm {d : D} {v : V} (S : StW G C ow r (T1 ++ (d, v) :: T2) s H) : StW G C (VL.free ow (.tm T1.length)) r (T1 ++ (frz d, v) :: T2) s H where
  len := S.len
  sl := fun i d' q => by
    obtain ⟨v', h1, h2⟩ := S.sl i d' q
    exact ⟨v', h1, h2.free (fun z => nomatch z)⟩
  tm := fun k d' v' q => by
    by_cases hk : k = T1.length
    · subst hk
      have z : (T1 ++ (frz d, v) :: T2)[T1.length]? = some (frz d, v) := by simp
      rw [z] at q
      cases q
      exact Rep.freeze (l := ⟨.tm T1.length, []⟩) (S.tm T1.length d v (by simp))
    · refine (S.tm k d' v' ?_).free (fun z => hk (by injection z))
      by_cases hlt : k < T1.length
      · rw [List.getElem?_append_left hlt] at q ⊢; exact q
      · rw [List.getElem?_append_right (by omega)] at q ⊢
        obtain ⟨m, hm⟩ : ∃ m, k - T1.length = m + 1 := ⟨k - T1.length - 1, by omega⟩
        rw [hm] at q ⊢
        simpa using q
  old := S.old
  own := fun a l q => S.own a l (of_free q).1
  fo := fun a q => free_else (S.fo a q) (fun z => nomatch z)
  mu := fun a l q => S.mu a l (of_free q).1
  pin := S.pin
  tabs := S.tabs

def moved (ow : Ow) (b : Bs) (l : Loc) : Ow := fun a => match ow a with
  | some m => if m.b = b then some (l.app m.p) else some m
  | none => none
theorem moved_none {b : Bs} {l : Loc} {a : Addr} (h : ow a = none) : moved ow b l a = none := by unfold moved; rw [h]
theorem moved_at {b : Bs} {l m : Loc} {a : Addr} (h : ow a = some m) (e : m.b = b) : moved ow b l a = some (l.app m.p) := by unfold moved; rw [h]; simp [e]
theorem moved_else {b : Bs} {l m : Loc} {a : Addr} (h : ow a = some m) (e : m.b ≠ b) : moved ow b l a = some m := by unfold moved; rw [h]; simp [e]
theorem moved_some {b : Bs} {l m : Loc} {a : Addr} (h : moved ow b l a = some m) : ∃ m', ow a = some m' ∧ (m.b = l.b ∨ m.b = m'.b) := by
  unfold moved at h
  split at h
  · rename_i m' e
    refine ⟨m', e, ?_⟩
    split at h
    · cases h; exact .inl rfl
    · cases h; exact .inr rfl
  · cases h
theorem Rep.moved {d : D} {b : Bs} {l : Loc} {v : V} (h : Rep G ow H d ⟨b, []⟩ v) : Rep G (VL.moved ow b l) H d l v :=
  h.mono d (fun _ _ z _ => z) (fun _ _ z _ => z) (fun _ _ _ z => moved_none z) fun a o q _ z => by
    refine (moved_at z rfl).trans ?_
    simp [Loc.app]
theorem Rep.unmoved {d : D} {b : Bs} {l m : Loc} {v : V} (h : Rep G ow H d m v) (n : m.b ≠ b) : Rep G (VL.moved ow b l) H d m v :=
  h.mono d (fun _ _ z _ => z) (fun _ _ z _ => z) (fun _ _ _ z => moved_none z) fun a o q _ z => moved_else z (by rw [app_b]; exact n)
theorem StW.set {i : Nat} {d : D} {v : V} (S : StW G C ow r (T ++ [(d, v)]) s H) (hp : ∀ p ∈ C.pin, p.1 ≠ i) : StW G C (VL.moved (free ow (.sl i)) (.tm T.length) ⟨.sl i, []⟩) (r.set i (some d)) T (s.set i (some v)) H where
  len := by simpa using S.len
  sl := fun j d' q => by
    by_cases hj : j = i
    · subst hj
      have hlt : j < r.length := by
        have := (List.getElem?_eq_some_iff.mp q).1
        simpa using this
      rw [List.getElem?_set_self hlt] at q
      cases q
      refine ⟨v, by rw [List.getElem?_set_self (by rw [← S.len]; exact hlt)], ?_⟩
      exact Rep.moved (Rep.free (b := .sl j) S.last (fun z => nomatch z))
    · rw [List.getElem?_set_ne (Ne.symm hj)] at q
      obtain ⟨v', h1, h2⟩ := S.sl j d' q
      refine ⟨v', by rw [List.getElem?_set_ne (Ne.symm hj)]; exact h1, ?_⟩
      exact Rep.unmoved (Rep.free (b := .sl i) h2 (fun z => hj (by injection z))) (fun z => nomatch z)
  tm := fun k d' v' q => by
    have hk : k < T.length := (List.getElem?_eq_some_iff.mp q).1
    have z := S.tm k d' v' (by rw [List.getElem?_append_left hk]; exact q)
    exact Rep.unmoved (b := .tm T.length) (Rep.free (b := .sl i) z (fun z => nomatch z)) (fun z => by injection z with z; omega)
  old := S.old
  own := fun a l q => by
    obtain ⟨m, z, e⟩ := moved_some q
    rcases S.own a m (of_free z).1 with h | h
    · unfold VL.moved at q
      rw [z] at q
      have n : m.b ≠ .tm T.length := by rw [h]; exact fun z => nomatch z
      simp only [if_neg n] at q
      cases q
      exact .inl h
    · exact .inr h
  fo := fun a q => moved_else (free_else (S.fo a q) (fun z => nomatch z)) (fun z => nomatch z)
  mu := fun a l q => by
    obtain ⟨m, z, _⟩ := moved_some q
    exact S.mu a m (of_free z).1
  pin := fun p hm => by
    rw [List.getElem?_set_ne (Ne.symm (hp p hm))]
    exact S.pin p hm
  tabs := S.tabs
theorem StOk.set {i : Nat} {d : D} {v : V} (S : StOk G C r (T ++ [(d, v)]) s H) (hp : ∀ p ∈ C.pin, p.1 ≠ i) : StOk G C (r.set i (some d)) T (s.set i (some v)) H := let ⟨ow, W⟩ := S; ⟨_, W.set hp⟩
def laid (ow : Ow) (n : Nat) (a : Addr) (o : Bool) : Ow := fun b => if b = a then (if o = true then some ⟨.tm n, []⟩ else none) else match ow b with
  | some ⟨.tm j, p⟩ => if n ≤ j then some ⟨.tm n, (j - n) :: p⟩ else some ⟨.tm j, p⟩
  | x => x
theorem laid_none {n : Nat} {a b : Addr} {o : Bool} (h : ow b = none) (e : b ≠ a) : laid ow n a o b = none := by unfold laid; rw [if_neg e, h]
theorem laid_sl {n i : Nat} {a b : Addr} {o : Bool} {p : List Nat} (h : ow b = some ⟨.sl i, p⟩) (e : b ≠ a) : laid ow n a o b = some ⟨.sl i, p⟩ := by unfold laid; rw [if_neg e, h]
theorem laid_lo {n j : Nat} {a b : Addr} {o : Bool} {p : List Nat} (h : ow b = some ⟨.tm j, p⟩) (e : b ≠ a) (l : j < n) : laid ow n a o b = some ⟨.tm j, p⟩ := by
  unfold laid; rw [if_neg e, h]; exact if_neg (by omega)
theorem laid_hi {n j : Nat} {a b : Addr} {o : Bool} {p : List Nat} (h : ow b = some ⟨.tm j, p⟩) (e : b ≠ a) (l : n ≤ j) : laid ow n a o b = some ⟨.tm n, (j - n) :: p⟩ := by
  unfold laid; rw [if_neg e, h]; exact if_pos l
theorem StW.alloc {k : Kd} {o : Bool} {ho : HO} {ds : List D} {vs : List V} {a : Addr} (S : StW G C ow r (T ++ ds.zip vs) s H) (hl : ds.length = vs.length) (hn : H a = none) (hh : Holds G (upd H a ho) a k vs) (hm : o = true → OwnO (some ho)) :
    StW G C (laid ow T.length a o) r (T ++ [(.node k o ds, .ref a)]) s (upd H a ho) where
  len := S.len
  sl := fun i d q => by
    obtain ⟨v, h1, h2⟩ := S.sl i d q
    refine ⟨v, h1, Rep.mono (l := ⟨.sl i, []⟩) d (fun b o z _ => Ext.new hn b o z) (fun b o z _ => Ext.new hn b o z) (fun b o z e => laid_none e (ne_of_none z hn)) (fun b o q z e => laid_sl (p := [] ++ q) e (ne_of_none z hn)) h2⟩
  tm := fun j d v q => by
    by_cases hj : j < T.length
    · rw [List.getElem?_append_left hj] at q
      have z := S.tm j d v (by rw [List.getElem?_append_left hj]; exact q)
      exact Rep.mono (l := ⟨.tm j, []⟩) d (fun b o z _ => Ext.new hn b o z) (fun b o z _ => Ext.new hn b o z) (fun b o z e => laid_none e (ne_of_none z hn)) (fun b o q z e => laid_lo (p := [] ++ q) e (ne_of_none z hn) hj) z
    · rw [List.getElem?_append_right (by omega)] at q
      have e : j = T.length := by
        have := (List.getElem?_eq_some_iff.mp q).1
        simp at this; omega
      subst e
      simp at q
      obtain ⟨e1, e2⟩ := q
      subst e1; subst e2
      refine ⟨a, vs, rfl, hh, .mk ?_, Reps.of_get hl fun i d v e1 e2 => ?_⟩
      · unfold laid; rw [if_pos rfl]
      · have z := S.tm (T.length + i) d v (by
          rw [List.getElem?_append_right (by omega), Nat.add_sub_cancel_left]
          exact List.getElem?_zip_eq_some.mpr ⟨e1, e2⟩)
        refine Rep.mono (l := ⟨.tm (T.length + i), []⟩) d (fun b o z _ => Ext.new hn b o z) (fun b o z _ => Ext.new hn b o z) (fun b o z e => laid_none e (ne_of_none z hn)) (fun b o q z e => ?_) z
        rw [laid_hi (p := q) (by simpa [Loc.app] using e) (ne_of_none z hn) (by omega)]
        simp [Loc.app, Loc.sub]
  old := fun b u n q => (S.old b u n q).bind fun u q => Ext.new hn b u q
  own := fun b l q => by
    by_cases hb : b = a
    · subst hb
      cases e : C.H0 b with
      | none => exact .inr (.inl rfl)
      | some u =>
        by_cases hi : C.io b
        · exact .inr (.inr hi)
        · exact ((S.old b u hi e).on hn).elim
    · cases e : ow b with
      | none => rw [laid_none e hb] at q; cases q
      | some m =>
        obtain ⟨mb, mp⟩ := m
        cases mb with
        | fo =>
          unfold laid at q
          rw [if_neg hb, e] at q
          cases q
          exact .inl rfl
        | sl i => exact (S.own b _ e).elim (fun z => nomatch z) .inr
        | tm i => exact (S.own b _ e).elim (fun z => nomatch z) .inr
  fo := fun b q => by
    have z := S.fo b q
    have hb : b ≠ a := fun x => by
      have m := S.mu b _ z
      rw [x, hn] at m
      exact m
    unfold laid
    rw [if_neg hb, z]
  mu := fun b l q => by
    by_cases hb : b = a
    · subst hb
      rw [upd_same]
      apply hm
      unfold laid at q
      rw [if_pos rfl] at q
      cases o with
      | true => rfl
      | false => cases q
    · rw [upd_ne hb]
      cases e : ow b with
      | none => rw [laid_none e hb] at q; cases q
      | some m => exact S.mu b m e
  pin := S.pin
  tabs := tabs_none S.tabs hn
theorem StOk.alloc {k : Kd} {ho : HO} {ds : List D} {vs : List V} {a : Addr} (o : Bool) (S : StOk G C r (T ++ ds.zip vs) s H) (hl : ds.length = vs.length) (hn : H a = none) (hh : Holds G (upd H a ho) a k vs) (hm : o = true → OwnO (some ho)) :
    StOk G C r (T ++ [(.node k o ds, .ref a)]) s (upd H a ho) := let ⟨ow, W⟩ := S; ⟨_, W.alloc hl hn hh hm⟩
theorem holds_lst {a : Addr} {vs : List V} : Holds G (upd H a (.lst vs)) a .lst vs := upd_same
theorem holds_tup {a : Addr} {vs : List V} : Holds G (upd H a (.tup vs)) a .tup vs := upd_same
end
end VL

namespace VL
open PySem PySem.Spec PyProof.Rows L2

inductive R where
  | val (d : D) | loc (i : Nat)
inductive EO where
  | ok (x : R) (r : Rho) | exc (c : Nat) (r : Rho) | bad
abbrev Ev := Rho → EO
def opd (r : Rho) : R → Option D
  | .val d => some d
  | .loc i => match r[i]? with
    | some (some d) => some d
    | _ => none
def touch (r : Rho) : R → Rho
  | .val _ => r
  | .loc i => match r[i]? with
    | some (some d) => r.set i (some (frzB d))
    | _ => r
def settle (r : Rho) : R → Rho
  | .val _ => r
  | .loc i => match r[i]? with
    | some (some d) => r.set i (some (frz d))
    | _ => r
def pushR : R → V → List (D × V)
  | .val d, v => [(d, v)]
  | .loc _, _ => []
def LocOk (s : L2.St) (v : V) : R → Prop
  | .val _ => True
  | .loc i => s[i]? = some (some v)
def Post (G : GX) (C : Fc) (r : Rho) (T : List (D × V)) (s : L2.St) (H : Hp) (x : R) (v : V) : Prop := StOk G C r (T ++ pushR x v) s H ∧ LocOk s v x
def tV (G : GX) (C : Fc) (W : WX) (f : Ev) : TE := fun s H Q => ∃ r T, StOk G C r T s H ∧ match f r with
  | .ok x r' => ∀ v H', Post G C r' T s H' x v → Q v H'
  | .exc c r' => ∀ H', StOk G C r' T s H' → W (.ref (G c)) none s H'
  | .bad => False
abbrev VE (X : Cx) (G : GX) (C : Fc) (W : WX) (e : Expr) (f : Ev) : Prop := PE X e (tV G C W f)
theorem PE.imp {X : Cx} {e : Expr} {t t' : TE} (h : PE X e t) (i : ∀ s H Q, t' s H Q → t s H Q) : PE X e t' := ⟨fun pins s σ H Q I w => h.run pins s σ H Q I (i _ _ _ w)⟩

section
variable {G : GX} {C : Fc} {ow ow' : Ow} {r : Rho} {T T1 T2 : List (D × V)} {s : L2.St} {H H' : Hp}
theorem Post.any {x : R} {v : V} (P : Post G C r T s H x v) : StOk G C r T s H := P.1.drop
theorem opd_loc {i : Nat} {d : D} (e : opd r (.loc i) = some d) : r[i]? = some (some d) := by
  have e' : (match r[i]? with | some (some d) => some d | _ => none) = some d := e
  cases q : r[i]? with
  | none => rw [q] at e'; cases e'
  | some x =>
    cases x with
    | none => rw [q] at e'; cases e'
    | some d' => rw [q] at e'; cases e'; rfl
theorem touch_loc {i : Nat} {d : D} (q : r[i]? = some (some d)) : touch r (.loc i) = r.set i (some (frzB d)) := by
  show (match r[i]? with | some (some d) => r.set i (some (frzB d)) | _ => r) = _
  rw [q]
theorem settle_loc {i : Nat} {d : D} (q : r[i]? = some (some d)) : settle r (.loc i) = r.set i (some (frz d)) := by
  show (match r[i]? with | some (some d) => r.set i (some (frz d)) | _ => r) = _
  rw [q]
def base (n : Nat) : R → Loc
  | .val _ => ⟨.tm n, []⟩
  | .loc i => ⟨.sl i, []⟩
theorem opd_rep {x : R} {v : V} {d : D} (S : StW G C ow r (T ++ (pushR x v ++ T2)) s H) (h : LocOk s v x) (e : opd r x = some d) : Rep G ow H d (base T.length x) v := by
  cases x with
  | val d' =>
    cases e
    exact S.tm T.length d v (by simp [pushR])
  | loc i =>
    obtain ⟨v', h1, h2⟩ := S.sl i d (opd_loc e)
    have h' : s[i]? = some (some v) := h
    rw [h'] at h1
    cases h1
    exact h2

def freeU (ow : Ow) (b : Bs) : Ow := fun a => match ow a with
  | some l => if l.b = b ∧ l.p ≠ [] then none else some l
  | none => none
theorem freeU_none {b : Bs} {a : Addr} (h : ow a = none) : freeU ow b a = none := by unfold freeU; rw [h]
theorem freeU_at {b : Bs} {a : Addr} {l : Loc} (h : ow a = some l) (e : l.b = b) (p : l.p ≠ []) : freeU ow b a = none := by unfold freeU; rw [h]; simp [e, p]
theorem freeU_top {b : Bs} {a : Addr} (h : ow a = some ⟨b, []⟩) : freeU ow b a = some ⟨b, []⟩ := by unfold freeU; rw [h]; simp
theorem freeU_else {b : Bs} {a : Addr} {l : Loc} (h : ow a = some l) (e : l.b ≠ b) : freeU ow b a = some l := by unfold freeU; rw [h]; simp [e]
theorem of_freeU {b : Bs} {a : Addr} {l : Loc} (h : freeU ow b a = some l) : ow a = some l := by
  unfold freeU at h
  split at h
  · rename_i l' e
    split at h
    · cases h
    · cases h
      exact e
  · cases h
theorem Rep.freeU {d : D} {l : Loc} {v : V} {b : Bs} (h : Rep G ow H d l v) (n : l.b ≠ b) : Rep G (VL.freeU ow b) H d l v :=
  h.mono d (fun _ _ z _ => z) (fun _ _ z _ => z) (fun _ _ _ z => freeU_none z) fun a o q _ z => freeU_else z (by rw [app_b]; exact n)
theorem Reps.under {xs : List D} {b : Bs} {i j : Nat} {l' : Loc} {vs : List V} (h : Reps G ow H xs ⟨b, []⟩ i vs) : Reps G (VL.freeU ow b) H (VL.frzs xs) l' j vs := by
  have go : ∀ (xs : List D) (i j : Nat) (vs : List V), Reps G ow H xs ⟨b, []⟩ i vs → Reps G (VL.freeU ow b) H (VL.frzs xs) l' j vs := by
    intro xs
    induction xs with
    | nil => intro i j vs h; exact h
    | cons d ds ih =>
      intro i j vs h
      obtain ⟨v, ws, e, h1, h2⟩ := h
      refine ⟨v, ws, e, ?_, ih (i + 1) (j + 1) ws h2⟩
      refine Rep.frz (l := Loc.sub ⟨b, []⟩ i) d (fun a o z q => ⟨z, ?_⟩) (fun _ _ z _ => z) h1
      rcases q with q | ⟨q, e⟩
      · exact freeU_none q
      · exact freeU_at e rfl (by simp [Loc.sub, Loc.app])
  exact go xs i j vs h
theorem StW.under {i : Nat} {k : Kd} {o : Bool} {xs : List D} (S : StW G C ow r T s H) (e : r[i]? = some (some (.node k o xs))) : StW G C (VL.freeU ow (.sl i)) (r.set i (some (.node k o (frzs xs)))) T s H where
  len := by simpa using S.len
  sl := fun j d' q => by
    by_cases hi : j = i
    · subst hi
      have hlt : j < r.length := (List.getElem?_eq_some_iff.mp e).1
      rw [List.getElem?_set_self hlt] at q
      cases q
      obtain ⟨v, h1, a, vs, ev, h2, h3, h4⟩ := S.sl j _ e
      refine ⟨v, h1, a, vs, ev, h2, ?_, h4.under⟩
      rcases h3.cases with hk | h3
      · exact .ofR hk
      refine .mk ?_
      cases o with
      | true => exact freeU_top (by simpa using h3)
      | false => exact freeU_none (by simpa using h3)
    · rw [List.getElem?_set_ne (Ne.symm hi)] at q
      obtain ⟨v, h1, h2⟩ := S.sl j d' q
      exact ⟨v, h1, h2.freeU (fun z => hi (by injection z))⟩
  tm := fun k d' v q => (S.tm k d' v q).freeU (fun z => nomatch z)
  old := S.old
  own := fun a l q => S.own a l (of_freeU q)
  fo := fun a q => freeU_else (S.fo a q) (fun z => nomatch z)
  mu := fun a l q => S.mu a l (of_freeU q)
  pin := S.pin
  tabs := S.tabs
theorem StW.pushFs : ∀ {ds : List D} {T : List (D × V)} {l : Loc} {i : Nat} {vs : List V}, StW G C ow r T s H → frzs ds = ds → Reps G ow H ds l i vs → StW G C ow r (T ++ ds.zip vs) s H
  | [], T, _, _, _, S, _, _ => by simpa using S
  | d :: ds, T, l, i, vs, S, e, h => by
    obtain ⟨v, ws, ev, h1, h2⟩ := h
    have e' : frz d :: frzs ds = d :: ds := e
    injection e' with e1 e2
    subst ev
    have S1 := S.push (d := d) (v := v) (Rep.moveF d e1 (fun a o z q => ⟨z, q⟩) (fun _ _ z _ => z) h1)
    have S2 := StW.pushFs S1 e2 h2
    simpa using S2
theorem Reps.app {ds es : List D} {l : Loc} {vs ws : List V} (e1 : VL.frzs ds = ds) (e2 : VL.frzs es = es) (h1 : Reps G ow H ds l 0 vs) (h2 : Reps G ow H es l 0 ws) : Reps G ow H (ds ++ es) l 0 (vs ++ ws) := by
  refine Reps.of_get (by rw [List.length_append, List.length_append, h1.length, h2.length]) fun j d v q1 q2 => ?_
  by_cases hj : j < ds.length
  · rw [List.getElem?_append_left hj] at q1
    rw [List.getElem?_append_left (by rw [← h1.length]; exact hj)] at q2
    obtain ⟨v', z1, z2⟩ := h1.get j d q1
    rw [q2] at z1; cases z1
    exact z2
  · rw [List.getElem?_append_right (by omega)] at q1
    rw [List.getElem?_append_right (by rw [← h1.length]; omega)] at q2
    rw [← h1.length] at q2
    obtain ⟨v', z1, z2⟩ := h2.get (j - ds.length) d q1
    rw [q2] at z1; cases z1
    have f : VL.frz d = d := by
      have := congrArg (·[j - ds.length]?) e2
      simp only [frzs_map, List.getElem?_map, q1, Option.map_some] at this
      exact Option.some.inj this
    exact Rep.moveF d f (fun a o z q => ⟨z, q⟩) (fun _ _ z _ => z) z2
theorem StW.parts {x : R} {v : V} {k : Kd} {o : Bool} {xs : List D} (S : StW G C ow r (T ++ pushR x v) s H) (hl : LocOk s v x) (e : opd r x = some (.node k o xs)) :
    ∃ ow' a vs, StW G C ow' (touch r x) T s H ∧ v = .ref a ∧ Holds G H a k vs ∧ (∀ l, Reps G ow' H (frzs xs) l 0 vs) ∧ (∀ b, ow b = none → ow' b = none) := by
  cases x with
  | val d' =>
    cases e
    obtain ⟨a, vs, ev, h1, h2, h3⟩ := S.last
    have S' := (show StW G C ow r (T ++ (D.node k o xs, v) :: []) s H from S).frzTm
    refine ⟨_, a, vs, S'.drop, ev, h1, fun l => ?_, fun b z => free_none z⟩
    exact Reps.frz (l := ⟨.tm T.length, []⟩) xs (fun b u z q => ⟨z, by
      rcases q with q | ⟨q, e⟩
      · exact free_none q
      · exact free_at e rfl⟩) (fun _ _ z _ => z) h3
  | loc i =>
    have q := opd_loc e
    obtain ⟨v', h1, a, vs, ev, h2, h3, h4⟩ := S.sl i _ q
    have h' : s[i]? = some (some v) := hl
    rw [h'] at h1
    cases h1
    have S' := S.under q
    refine ⟨_, a, vs, ?_, ev, h2, fun l => h4.under, fun b z => freeU_none z⟩
    rw [touch_loc q]
    exact S'.drop
end
end VL

namespace VL
open PySem PySem.Spec PyProof.Rows L2

def EO.bd (x : EO) (k : R → Rho → EO) : EO := match x with
  | .ok y r => k y r
  | .exc c r => .exc c r
  | .bad => .bad
@[simp] theorem bd_ok (y : R) (r : Rho) (k : R → Rho → EO) : (EO.ok y r).bd k = k y r := rfl
@[simp] theorem bd_exc (c : Nat) (r : Rho) (k : R → Rho → EO) : (EO.exc c r).bd k = .exc c r := rfl
@[simp] theorem bd_bad (k : R → Rho → EO) : EO.bad.bd k = .bad := rfl
def Goes (G : GX) (C : Fc) (W : WX) (T : List (D × V)) (s : L2.St) (Q : VK) (o : EO) : Prop := match o with
  | .ok x r' => ∀ v H', Post G C r' T s H' x v → Q v H'
  | .exc c r' => ∀ H', StOk G C r' T s H' → W (.ref (G c)) none s H'
  | .bad => False
section
variable {X : Cx} {G : GX} {C : Fc} {W : WX} {ow ow' : Ow} {r : Rho} {T T1 T2 : List (D × V)} {s : L2.St} {H H' : Hp} {fa fb fc : Ev}
theorem one {k : R → Rho → EO} {Q : VK} {K : V → Hp → Prop} (S : StOk G C r T s H) (h : Goes G C W T s Q ((fa r).bd k))
    (hk : ∀ x v r1 H1, Post G C r1 T s H1 x v → Goes G C W T s Q (k x r1) → K v H1) : tV G C W fa s H K := by
  refine ⟨r, T, S, ?_⟩
  cases e : fa r with
  | ok x r1 =>
    rw [e] at h
    exact fun v H1 P => hk x v r1 H1 P h
  | exc c r1 => rw [e] at h; exact h
  | bad => rw [e] at h; exact h
theorem two {k : R → R → Rho → EO} {Q : VK} {K : V → V → Hp → Prop} (S : StOk G C r T s H) (h : Goes G C W T s Q ((fa r).bd fun x r1 => (fb r1).bd (k x)))
    (hk : ∀ x y v u r2 H2, StOk G C r2 (T ++ (pushR x v ++ pushR y u)) s H2 → LocOk s v x → LocOk s u y → Goes G C W T s Q (k x y r2) → K v u H2) :
    tV G C W fa s H fun v H1 => tV G C W fb s H1 fun u H2 => K v u H2 := by
  refine one S h fun x v r1 H1 P h1 => ?_
  refine ⟨r1, T ++ pushR x v, P.1, ?_⟩
  cases e : fb r1 with
  | ok y r2 =>
    rw [e] at h1
    exact fun u H2 P2 => hk x y v u r2 H2 (by rw [← List.append_assoc]; exact P2.1) P.2 P2.2 h1
  | exc c r2 => rw [e] at h1; exact fun H' S' => h1 H' S'.drop
  | bad => rw [e] at h1; exact h1

def cVar (i : Nat) : Ev := fun r => match r[i]? with
  | some (some d) => if atom d = true then .ok (.val d) r else .ok (.loc i) r
  | _ => .bad
theorem ve_var {i : Nat} {x : Str} {pos : Pos} (hN : X.N[i]? = some x) (hv : Vis X.env.scope x) (hd : (x == ("__debug__" : Str)) = false := by decide) (hcd : (x == ("__classdict__" : Str)) = false := by decide) : VE X G C W (.Name x pos) (cVar i) := by
  refine PE.imp (pe_var hN hv hd hcd) fun s H Q h => ?_
  obtain ⟨r, T, S, g⟩ := h
  unfold cVar at g
  cases q : r[i]? with
  | none => rw [q] at g; exact g.elim
  | some o =>
    cases o with
    | none => rw [q] at g; exact g.elim
    | some d =>
      rw [q] at g
      obtain ⟨ow, S⟩ := S
      obtain ⟨v, h1, h2⟩ := S.sl i d q
      refine ⟨v, h1, ?_⟩
      by_cases a : atom d = true
      · simp only [a, if_true] at g
        exact g v H ⟨⟨ow, S.push (h2.of_atom a)⟩, trivial⟩
      · simp only [a, if_false] at g
        exact g v H ⟨⟨ow, by simpa [pushR] using S⟩, h1⟩
def cC (d : D) : Ev := fun r => .ok (.val d) r
theorem ve_c {e : Expr} {v : V} {d : D} (h : PE X e (tC v)) (a : atom d = true) (hr : ∀ ow H l, Rep G ow H d l v) : VE X G C W e (cC d) := by
  refine PE.imp h fun s H Q h => ?_
  obtain ⟨r, T, S, g⟩ := h
  exact g v H ⟨S.pushA a fun ow l => hr ow H l, trivial⟩
theorem ve_int {i j pos} : VE X G C W (.Constant (.int i) j pos) (cC (.int i)) := ve_c pe_int rfl fun _ _ _ => rfl
theorem ve_bl {b j pos} : VE X G C W (.Constant (.bool b) j pos) (cC (.bl b)) := ve_c pe_bl rfl fun _ _ _ => rfl
theorem ve_non {j pos} : VE X G C W (.Constant .none j pos) (cC .non) := ve_c pe_non rfl fun _ _ _ => rfl
theorem ve_gint {x : Str} {i : Int} {t : Tok} {pos : Pos} (hg : Gl X x) (hm : X.mg x = some (.int i t)) (hd : (x == ("__debug__" : Str)) = false := by decide) : VE X G C W (.Name x pos) (cC (.int i)) :=
  ve_c (pe_glob (v := .int i) hg hm ⟨t, rfl⟩ hd) rfl fun _ _ _ => rfl
abbrev G2 := R → R → Rho → EO
def OpS (X : Cx) (f : Value → Value → Sem Value) (g : G2) : Prop := ∃ rr, OpR X f rr ∧ ∀ (G : GX) (C : Fc) (W : WX) (r : Rho) (T : List (D × V)) (s : L2.St) (H : Hp) (x y : R) (v u : V) (Q : VK),
  StOk G C r (T ++ (pushR x v ++ pushR y u)) s H → LocOk s v x → LocOk s u y → Goes G C W T s Q (g x y r) → rr v u H Q
def cBin (g : G2) (fa fb : Ev) : Ev := fun r => (fa r).bd fun x r1 => (fb r1).bd fun y r2 => g x y r2
theorem ve_bin {op : Operator} {g : G2} {a b : Expr} {pos : Pos} (ho : OpS X (binaryOp op) g) (ha : VE X G C W a fa) (hb : VE X G C W b fb) : VE X G C W (.BinOp a op b pos) (cBin g fa fb) := by
  obtain ⟨rr, h1, h2⟩ := ho
  refine PE.imp (pe_op h1 ha hb) fun s H Q h => ?_
  obtain ⟨r, T, S, g⟩ := h
  exact two S g fun x y v u r2 H2 S2 lx ly g2 => h2 G C W r2 T s H2 x y v u Q S2 lx ly g2
theorem ve_cmp {op : CmpOp} {g : G2} {a b : Expr} {pos : Pos} (ho : OpS X (compareOp op) g) (ha : VE X G C W a fa) (hb : VE X G C W b fb) (hm : behindInMarks op b = false) : VE X G C W (.Compare a [op] [b] pos) (cBin g fa fb) := by
  obtain ⟨rr, h1, h2⟩ := ho
  refine PE.imp (pe_cmpR h1 ha hb hm) fun s H Q h => ?_
  obtain ⟨r, T, S, g⟩ := h
  exact two S g fun x y v u r2 H2 S2 lx ly g2 => h2 G C W r2 T s H2 x y v u Q S2 lx ly g2

def g2 (f : D → D → Option D) : G2 := fun x y r => match opd r x, opd r y with
  | some d, some e => (match f d e with
    | some z => if atom z = true then .ok (.val z) r else .bad
    | none => .bad)
  | _, _ => .bad
theorem OpS.scal {f : Value → Value → Sem Value} {rr : R2} {g : D → D → Option D} (h : OpR X f rr)
    (hr : ∀ (G : GX) (ow : Ow) (H : Hp) (d e z : D) (l m : Loc) (v u : V) (Q : VK), Rep G ow H d l v → Rep G ow H e m u → g d e = some z → (∀ w, (∀ ow l, Rep G ow H z l w) → Q w H) → rr v u H Q) : OpS X f (g2 g) := by
  refine ⟨rr, h, fun G C W r T s H x y v u Q S lx ly q => ?_⟩
  obtain ⟨ow, S⟩ := S
  unfold g2 at q
  cases e1 : opd r x with
  | none => rw [e1] at q; exact q.elim
  | some d =>
    cases e2 : opd r y with
    | none => rw [e1, e2] at q; exact q.elim
    | some e =>
      rw [e1, e2] at q
      cases e3 : g d e with
      | none => simp only [e3] at q; exact q.elim
      | some z =>
        simp only [e3] at q
        by_cases a : atom z = true
        · rw [if_pos a] at q
          refine hr G ow H d e z _ _ v u Q (opd_rep S lx e1) (opd_rep (T := T ++ pushR x v) (T2 := []) (by rw [List.append_nil, List.append_assoc]; exact S) ly e2) e3 fun w hw => ?_
          exact q w H ⟨StOk.pushA ⟨ow, S.drop⟩ a hw, trivial⟩
        · rw [if_neg a] at q
          exact q.elim
theorem rep_int {ow : Ow} {i : Int} {l : Loc} {v : V} (h : Rep G ow H (.int i) l v) : v = .int i := h
theorem rep_bl {ow : Ow} {b : Bool} {l : Loc} {v : V} (h : Rep G ow H (.bl b) l v) : v = .bl b := h
theorem rep_str {ow : Ow} {b : Str} {l : Loc} {v : V} (h : Rep G ow H (.str b) l v) : v = .str b := h
theorem rep_non {ow : Ow} {l : Loc} {v : V} (h : Rep G ow H .non l v) : v = .non := h
def fI (ok : Int → Int → Bool) (g : Int → Int → D) : D → D → Option D
  | .int i, .int j => if ok i j = true then some (g i j) else none
  | _, _ => none
@[simp] theorem fI_int (ok : Int → Int → Bool) (g : Int → Int → D) (i j : Int) : fI ok g (.int i) (.int j) = if ok i j = true then some (g i j) else none := rfl
theorem OpS.ints {f : Value → Value → Sem Value} {P : Int → Int → Prop} {ok : Int → Int → Bool} {g : Int → Int → V} {gd : Int → Int → D} (h : OpR X f (rI P g)) (hp : ∀ i j, ok i j = true → P i j)
    (hg : ∀ G ow H l i j, Rep G ow H (gd i j) l (g i j)) : OpS X f (g2 (fI ok gd)) := by
  refine OpS.scal h fun G ow H d e z l m v u Q h1 h2 e3 q => ?_
  cases d with
  | int i =>
    cases e with
    | int j =>
      rw [fI_int] at e3
      by_cases a : ok i j = true
      · rw [if_pos a] at e3
        cases e3
        exact ⟨i, j, h1, h2, hp i j a, q _ fun _ _ => hg _ _ _ _ i j⟩
      · rw [if_neg a] at e3; cases e3
    | _ => cases e3
  | _ => cases e <;> cases e3
theorem rI_of0 {f : Value → Value → Sem Value} {g : Int → Int → V} (h : OpR X f (rI0 g)) : OpR X f (rI (fun _ _ => True) g) := by
  intro pins s σ H x y v u Q I rx ry q
  obtain ⟨i, j, e1, e2, _, q⟩ := q
  exact h pins s σ H x y v u Q I rx ry ⟨i, j, e1, e2, q⟩
def yes2 : Int → Int → Bool := fun _ _ => true
@[simp] theorem yes2_eq (i j : Int) : yes2 i j = true := rfl
def gLt : G2 := g2 (fI yes2 fun i j => .bl (decide (i < j)))
def gLe : G2 := g2 (fI yes2 fun i j => .bl (decide (i ≤ j)))
def gGt : G2 := g2 (fI yes2 fun i j => .bl (decide (j < i)))
def gGe : G2 := g2 (fI yes2 fun i j => .bl (decide (j ≤ i)))
theorem os_lt : OpS X (compareOp .Lt) gLt := .ints (rI_of0 op_lt) (fun _ _ _ => trivial) fun _ _ _ _ _ _ => rfl
theorem os_gt : OpS X (compareOp .Gt) gGt := .ints (rI_of0 op_gt) (fun _ _ _ => trivial) fun _ _ _ _ _ _ => rfl
theorem os_ge : OpS X (compareOp .GtE) gGe := .ints (rI_of0 op_ge) (fun _ _ _ => trivial) fun _ _ _ _ _ _ => rfl
def gSub : G2 := g2 (fI yes2 fun i j => .int (i - j))
theorem os_sub : OpS X (binaryOp .Sub) gSub := .ints (rI_of0 op_sub) (fun _ _ _ => trivial) fun _ _ _ _ _ _ => rfl
def divOk (_ j : Int) : Bool := decide (0 < j) && (decide (j.natAbs < 1073741824) || decide (j.natAbs.log2 < 9000))
theorem op_fdivA : OpR X (binaryOp .FloorDiv) (rI (fun i j => CDiv i j ∨ CDivW i j) fun i j => .int (i / j)) := by
  intro pins s σ H x y v u Q I rx ry q
  obtain ⟨i, j, e1, e2, c | c, q⟩ := q
  · exact op_fdiv pins s σ H x y v u Q I rx ry ⟨i, j, e1, e2, c, q⟩
  · exact op_fdivW pins s σ H x y v u Q I rx ry ⟨i, j, e1, e2, c, q⟩
theorem divOk_of {i j : Int} (h : divOk i j = true) : CDiv i j ∨ CDivW i j := by
  unfold divOk at h
  simp only [Bool.and_eq_true, Bool.or_eq_true, decide_eq_true_eq] at h
  rcases h with ⟨h0, h | h⟩
  · exact .inl ⟨h0, by omega⟩
  · exact .inr ⟨h0, h⟩
def gDiv : G2 := g2 (fI divOk fun i j => .int (i / j))
theorem os_div : OpS X (binaryOp .FloorDiv) gDiv := .ints op_fdivA (fun _ _ h => divOk_of h) fun _ _ _ _ _ _ => rfl
def posOk (_ j : Int) : Bool := decide (0 < j)
def gMod : G2 := g2 (fI posOk fun i j => .int (i % j))
theorem os_mod : OpS X (binaryOp .Mod) gMod := .ints op_mod (fun _ _ h => of_decide_eq_true h) fun _ _ _ _ _ _ => rfl
def powOk (i j : Int) : Bool := decide (0 ≤ j) && decide (j.natAbs ≤ 1000000) && decide (i.natAbs < 2 ^ 64)
theorem powOk_of {i j : Int} (h : powOk i j = true) : CPow i j := by
  unfold powOk at h
  simp only [Bool.and_eq_true, decide_eq_true_eq] at h
  exact ⟨h.1.1, by have := h.1.2; omega, h.2⟩
def gPow : G2 := g2 (fI powOk fun i j => .int (i ^ j.toNat))
def gShl : G2 := g2 (fI powOk fun i j => .int (i * 2 ^ j.toNat))
theorem os_shl : OpS X (binaryOp .LShift) gShl := .ints op_shl (fun _ _ h => powOk_of h) fun _ _ _ _ _ _ => rfl
def mulOk (i j : Int) : Bool := decide (i.natAbs < 2 ^ 64) || decide (j.natAbs < 2 ^ 64) || decide ((Builtin.Int.intBits i : Int) + (Builtin.Int.intBits j : Int) ≤ 134217728)
theorem mulOk_of {i j : Int} (h : mulOk i j = true) : IntMulOk i j := by
  unfold mulOk at h
  simp only [Bool.or_eq_true, decide_eq_true_eq] at h
  rcases h with (h | h) | h
  · exact CMul.ok (.inl ⟨by omega, by omega⟩)
  · exact CMul.ok (.inr ⟨by omega, by omega⟩)
  · exact CMulX.ok h
theorem op_mulA : OpR X (binaryOp .Mult) (rI IntMulOk fun i j => .int (i * j)) := opI fun _ _ _ _ _ _ _ hc q => mul_int q hc

theorem StW.made {ds : List D} {vs : List V} {l : Loc} {i : Nat} {Q : VK} (S : StW G C ow r T s H) (e : frzs ds = ds) (h : Reps G ow H ds l i vs) (hq : ∀ v H', Post G C r T s H' (.val (.node .lst true ds)) v → Q v H') :
    ∀ p, H p = none → Q (.ref p) (upd H p (.lst vs)) := fun p hp =>
  hq _ _ ⟨StOk.alloc true ⟨ow, S.pushFs e h⟩ h.length hp holds_lst (fun _ => trivial), trivial⟩
theorem touch_opd {x y : R} {k : Kd} {o : Bool} {xs : List D} (e : opd r x = some (.node k o xs)) : opd (touch r y) x = some (.node k o xs) ∨ opd (touch r y) x = some (.node k o (frzs xs)) := by
  cases x with
  | val d => exact .inl e
  | loc i =>
    have q := opd_loc e
    cases y with
    | val d => exact .inl e
    | loc j =>
      by_cases hij : j = i
      · subst hij
        refine .inr ?_
        have hlt : j < r.length := (List.getElem?_eq_some_iff.mp q).1
        rw [touch_loc q]
        show (match (r.set j (some (frzB (.node k o xs))))[j]? with | some (some d) => some d | _ => none) = _
        rw [List.getElem?_set_self hlt]
        rfl
      · refine .inl ?_
        cases q' : r[j]? with
        | none =>
          have : touch r (.loc j) = r := by show (match r[j]? with | some (some d) => r.set j (some (frzB d)) | _ => r) = _; rw [q']
          rw [this]; exact e
        | some o' =>
          cases o' with
          | none =>
            have : touch r (.loc j) = r := by show (match r[j]? with | some (some d) => r.set j (some (frzB d)) | _ => r) = _; rw [q']
            rw [this]; exact e
          | some d' =>
            rw [touch_loc q']
            show (match (r.set j (some (frzB d')))[i]? with | some (some d) => some d | _ => none) = _
            rw [List.getElem?_set_ne hij, q]
theorem StW.parts2 {x y : R} {v u : V} {k k' : Kd} {o o' : Bool} {xs ys : List D} (S : StW G C ow r (T ++ (pushR x v ++ pushR y u)) s H) (lx : LocOk s v x) (ly : LocOk s u y) (e1 : opd r x = some (.node k o xs)) (e2 : opd r y = some (.node k' o' ys)) :
    ∃ ow' a b vs us, StW G C ow' (touch (touch r y) x) T s H ∧ v = .ref a ∧ u = .ref b ∧ Holds G H a k vs ∧ Holds G H b k' us ∧ (∀ l, Reps G ow' H (frzs xs) l 0 vs) ∧ (∀ l, Reps G ow' H (frzs ys) l 0 us) := by
  obtain ⟨ow1, b, us, S1, eu, hb, ry, n1⟩ := StW.parts (T := T ++ pushR x v) (by rw [List.append_assoc]; exact S) ly e2
  have go : ∀ xs', opd (touch r y) x = some (.node k o xs') → frzs xs' = frzs xs →
      ∃ ow' a b vs us, StW G C ow' (touch (touch r y) x) T s H ∧ v = .ref a ∧ u = .ref b ∧ Holds G H a k vs ∧ Holds G H b k' us ∧ (∀ l, Reps G ow' H (frzs xs) l 0 vs) ∧ (∀ l, Reps G ow' H (frzs ys) l 0 us) := fun xs' e' ef => by
    obtain ⟨ow2, a, vs, S2, ev, ha, rx, n2⟩ := S1.parts lx e'
    refine ⟨ow2, a, b, vs, us, S2, ev, eu, ha, hb, fun l => by rw [← ef]; exact rx l, fun l => ?_⟩
    exact Reps.moveF _ (frzs_frzs ys) (fun c ob z q => ⟨z, n2 c q⟩) (fun _ _ z _ => z) (ry l)
  rcases touch_opd (y := y) e1 with e' | e'
  · exact go xs e' rfl
  · exact go _ e' (frzs_frzs xs)
@[irreducible] def gAdd : G2 := fun x y r => match opd r x, opd r y with
  | some (.int i), some (.int j) => .ok (.val (.int (i + j))) r
  | some (.int i), some (.bl k) => .ok (.val (.int (i + b2i k))) r
  | some (.str a), some (.str b) => if a.length + b.length ≤ 16777216 then .ok (.val (.str (a ++ b))) r else .bad
  | some (.node .lst _ xs), some (.node .lst _ ys) => if xs.length + ys.length ≤ 16777216 then .ok (.val (.node .lst true (frzs xs ++ frzs ys))) (touch (touch r y) x) else .bad
  | _, _ => .bad
theorem frzs_append (xs ys : List D) : frzs (xs ++ ys) = frzs xs ++ frzs ys := by simp [frzs_map]
theorem frzs_length (xs : List D) : (frzs xs).length = xs.length := by simp [frzs_map]
theorem goes_val {z : D} {Q : VK} (h : Goes G C W T s Q (.ok (.val z) r)) (S : StOk G C r T s H) (a : atom z = true) {w : V} (hw : ∀ ow l, Rep G ow H z l w) : Q w H := h w H ⟨S.pushA a hw, trivial⟩
theorem os_add_of {f : Value → Value → Sem Value} (h1 : OpR X f (rI0 fun i j => .int (i + j))) (h2 : OpR X f (fun x y H Q => ∃ i k, x = .int i ∧ y = .bl k ∧ Q (.int (i + b2i k)) H))
    (h3 : OpR X f (fun x y H Q => ∃ i j, x = .str i ∧ y = .str j ∧ i.length + j.length ≤ sizeLine ∧ Q (.str (i ++ j)) H)) (h4 : OpR X f rCat) : OpS X f gAdd := by
  refine ⟨_, h1.or (h2.or (h3.or h4)), fun G C W r T s H x y v u Q S lx ly q => ?_⟩
  obtain ⟨ow, S⟩ := S
  unfold gAdd at q
  split at q
  · rename_i i j e1 e2
    have a1 := opd_rep S lx e1
    have a2 := opd_rep (T := T ++ pushR x v) (T2 := []) (by rw [List.append_nil, List.append_assoc]; exact S) ly e2
    exact .inl ⟨i, j, a1, a2, goes_val q ⟨ow, S.drop⟩ rfl fun _ _ => rfl⟩
  · rename_i i k e1 e2
    have a1 := opd_rep S lx e1
    have a2 := opd_rep (T := T ++ pushR x v) (T2 := []) (by rw [List.append_nil, List.append_assoc]; exact S) ly e2
    exact .inr (.inl ⟨i, k, a1, a2, goes_val q ⟨ow, S.drop⟩ rfl fun _ _ => rfl⟩)
  · rename_i i j e1 e2
    have a1 := opd_rep S lx e1
    have a2 := opd_rep (T := T ++ pushR x v) (T2 := []) (by rw [List.append_nil, List.append_assoc]; exact S) ly e2
    split at q
    · rename_i hz
      exact .inr (.inr (.inl ⟨i, j, a1, a2, by rw [sizeLine_eq]; exact hz, goes_val q ⟨ow, S.drop⟩ rfl fun _ _ => rfl⟩))
    · exact q.elim
  · rename_i o1 xs o2 ys e1 e2
    split at q
    · rename_i hz
      obtain ⟨ow', a, b, vs, us, S', ev, eu, ha, hb, rx, ry⟩ := S.parts2 lx ly e1 e2
      subst ev; subst eu
      have l1 := (rx ⟨.fo, []⟩).length
      have l2 := (ry ⟨.fo, []⟩).length
      rw [frzs_length] at l1 l2
      refine .inr (.inr (.inr ⟨a, b, vs, us, rfl, rfl, ha, hb, by rw [sizeLine_eq, ← l1, ← l2]; exact hz, ?_⟩))
      exact S'.made (l := ⟨.fo, []⟩) (i := 0) (by rw [frzs_append, frzs_frzs, frzs_frzs]) (Reps.app (frzs_frzs xs) (frzs_frzs ys) (rx _) (ry _)) q
    · exact q.elim
  · exact q.elim
theorem os_add : OpS X (binaryOp .Add) gAdd := os_add_of op_add op_add_ib op_add_str op_cat
end
end VL

namespace VL
open PySem PySem.Spec PyProof.Rows L2

theorem reps_flat {G : GX} {ow : Ow} {H : Hp} {ds : List D} {l : Loc} {vs : List V} (e : frzs ds = ds) (h : Reps G ow H ds l 0 vs) : ∀ k : Nat, Reps G ow H (List.replicate k ds).flatten l 0 (List.replicate k vs).flatten ∧ frzs (List.replicate k ds).flatten = (List.replicate k ds).flatten
  | 0 => ⟨rfl, rfl⟩
  | k + 1 => by
    obtain ⟨i1, i2⟩ := reps_flat e h k
    rw [List.replicate_succ, List.replicate_succ, List.flatten_cons, List.flatten_cons]
    exact ⟨Reps.app e i2 h i1, by rw [frzs_append, e, i2]⟩
section
variable {X : Cx} {G : GX} {C : Fc} {W : WX} {ow ow' : Ow} {r : Rho} {T T1 T2 : List (D × V)} {s : L2.St} {H H' : Hp} {fa fb fc : Ev}
@[irreducible] def gMul : G2 := fun x y r => match opd r x, opd r y with
  | some (.int i), some (.int j) => if mulOk i j = true then .ok (.val (.int (i * j))) r else .bad
  | some (.node .lst _ xs), some (.int k) => if k.natAbs < 2 ^ 63 ∧ xs.length * k.toNat ≤ 16777216 then .ok (.val (.node .lst true (List.replicate k.toNat (frzs xs)).flatten)) (touch r x) else .bad
  | _, _ => .bad
theorem os_mul : OpS X (binaryOp .Mult) gMul := by
  refine ⟨_, op_mulA.or op_rep, fun G C W r T s H x y v u Q S lx ly q => ?_⟩
  obtain ⟨ow, S⟩ := S
  unfold gMul at q
  split at q
  · rename_i i j e1 e2
    split at q
    · rename_i hm
      have a1 := opd_rep S lx e1
      have a2 := opd_rep (T := T ++ pushR x v) (T2 := []) (by rw [List.append_nil, List.append_assoc]; exact S) ly e2
      exact .inl ⟨i, j, a1, a2, mulOk_of hm, goes_val q ⟨ow, S.drop⟩ rfl fun _ _ => rfl⟩
    · exact q.elim
  · rename_i o xs k e1 e2
    split at q
    · rename_i hz
      obtain ⟨h12, h3⟩ := hz
      have h1 : -(2 ^ 63) ≤ k := by omega
      have h2 : k < 2 ^ 63 := by omega
      have a2 := opd_rep (T := T ++ pushR x v) (T2 := []) (by rw [List.append_nil, List.append_assoc]; exact S) ly e2
      obtain ⟨ow', a, vs, S', ev, ha, rx, _⟩ := StW.parts (T := T) (StW.drop (T := T ++ pushR x v) (T2 := pushR y u) (by rw [List.append_assoc]; exact S)) lx e1
      subst ev
      have l1 := (rx ⟨.fo, []⟩).length
      rw [frzs_length] at l1
      obtain ⟨r1, r2⟩ := reps_flat (frzs_frzs xs) (rx ⟨.fo, []⟩) k.toNat
      refine .inr ⟨a, k, vs, rfl, a2, ha, h1, h2, by rw [sizeLine_eq, ← l1]; exact h3, ?_⟩
      exact S'.made (l := ⟨.fo, []⟩) (i := 0) r2 r1 q
    · exact q.elim
  · exact q.elim

mutual
def toPy : D → PyData
  | .non => .none
  | .bl b => .bool b
  | .int i => .int i
  | .str s => .str s
  | .node .lst _ xs => .list (toPys xs)
  | .node .tup _ xs => .tuple (toPys xs)
  | _ => .dict []
def toPys : List D → List PyData
  | [] => []
  | d :: ds => toPy d :: toPys ds
end
def eqOk (d : D) : Bool := SeqAt.shaped (toPy d)
mutual
theorem dp_of {K : PySem.W.Frag} : ∀ (d : D) {l : Loc} {v : V}, (toPy d).canLay0 = true → Rep G ow H d l v → Dp K H v (toPy d)
  | .non, _, _, _, h => by
    have e := rep_non h
    subst e; exact .non
  | .bl b, _, _, _, h => by
    have e := rep_bl h
    subst e; exact .bl b
  | .int i, _, _, _, h => by
    have e := rep_int h
    subst e; exact .int i
  | .str x, _, _, _, h => by
    have e := rep_str h
    subst e; exact .str x
  | .any, _, _, c, _ => by simp [toPy, PyData.canLay0] at c
  | .exc _, _, _, c, _ => by simp [toPy, PyData.canLay0] at c
  | .ty _, _, _, c, _ => by simp [toPy, PyData.canLay0] at c
  | .cls _, _, _, c, _ => by simp [toPy, PyData.canLay0] at c
  | .node k o xs, l, v, c, h => by
    obtain ⟨a, vs, e, h1, h2, h3⟩ := h
    subst e
    cases k with
    | lst =>
      have c' : PyData.canLayAll0 (toPys xs) = true := by simpa [toPy, PyData.canLay0] using c
      have z := dps_of (K := K) xs c' h3
      simp only [toPy]
      exact .lst (SqL.of h1) z
    | rd => simp [toPy, PyData.canLay0] at c
    | tup =>
      have c' : PyData.canLayAll0 (toPys xs) = true := by simpa [toPy, PyData.canLay0] using c
      have z := dps_of (K := K) xs c' h3
      simp only [toPy]
      exact .tup (SqT.of h1) z
    | dK ks => simp [toPy, PyData.canLay0] at c
    | dT ks => simp [toPy, PyData.canLay0] at c
    | ins c' fs => simp [toPy, PyData.canLay0] at c
theorem dps_of {K : PySem.W.Frag} : ∀ (ds : List D) {l : Loc} {i : Nat} {vs : List V}, PyData.canLayAll0 (toPys ds) = true → Reps G ow H ds l i vs → DpAll K H vs (toPys ds)
  | [], _, _, vs, _, h => by
    have e : vs = [] := h
    subst e
    simp only [toPys]
    exact .nil
  | d :: ds, l, i, vs, c, h => by
    obtain ⟨v, ws, e, h1, h2⟩ := h
    subst e
    have c' : (toPy d).canLay0 = true ∧ PyData.canLayAll0 (toPys ds) = true := by simpa [toPys, PyData.canLayAll0] using c
    simp only [toPys]
    exact .cons (dp_of d c'.1 h1) (dps_of ds c'.2 h2)
end
def eqD (d e : D) : Option D := if (eqOk d && eqOk e) = true then some (.bl (PyData.eqv (toPy d) (toPy e))) else none
def neD (d e : D) : Option D := if (eqOk d && eqOk e) = true then some (.bl (!PyData.eqv (toPy d) (toPy e))) else none
def gEq : G2 := g2 eqD
def gNe : G2 := g2 neD
theorem os_eq (hu : X.A.units + 64 < cLine) : OpS X (compareOp .Eq) gEq := by
  refine OpS.scal (op_eqD hu) fun G ow H d e z l m v u Q h1 h2 e3 q => ?_
  unfold eqD at e3
  split at e3
  · rename_i c
    rw [Bool.and_eq_true] at c
    cases e3
    exact ⟨_, _, dp_of d (SeqAt.canLay_of_shaped c.1) h1, dp_of e (SeqAt.canLay_of_shaped c.2) h2, c.1, c.2, q _ fun _ _ => rfl⟩
  · cases e3
theorem os_ne (hu : X.A.units + 64 < cLine) : OpS X (compareOp .NotEq) gNe := by
  refine OpS.scal (op_neD hu) fun G ow H d e z l m v u Q h1 h2 e3 q => ?_
  unfold neD at e3
  split at e3
  · rename_i c
    rw [Bool.and_eq_true] at c
    cases e3
    exact ⟨_, _, dp_of d (SeqAt.canLay_of_shaped c.1) h1, dp_of e (SeqAt.canLay_of_shaped c.2) h2, c.1, c.2, q _ fun _ _ => rfl⟩
  · cases e3
def isN : D → D → Option D
  | d, .non => (match d with
    | .any => none
    | .non => some (.bl true)
    | _ => some (.bl false))
  | _, _ => none
def isnotN : D → D → Option D
  | d, .non => (match d with
    | .any => none
    | .non => some (.bl false)
    | _ => some (.bl true))
  | _, _ => none
theorem rep_isnon {d : D} {l : Loc} {v : V} (h : Rep G ow H d l v) (n : d ≠ .any) : decide (v = .non) = (match d with | .non => true | _ => false) := by
  cases d with
  | any => exact absurd rfl n
  | non =>
    have e := rep_non h
    subst e
    rfl
  | bl b => have e := rep_bl h; subst e; rfl
  | int b => have e := rep_int h; subst e; rfl
  | str b => have e := rep_str h; subst e; rfl
  | exc c => obtain ⟨a, e, _⟩ := h; subst e; rfl
  | ty m => have e : v = .ty m := h; subst e; rfl
  | cls c => have e : v = .ref (G c) := h; subst e; rfl
  | node k o xs => obtain ⟨a, vs, e, _⟩ := h; subst e; rfl
def gIs : G2 := g2 isN
def gIsNot : G2 := g2 isnotN
theorem os_is : OpS X (compareOp .Is) gIs := by
  refine OpS.scal op_isN fun G ow H d e z l m v u Q h1 h2 e3 q => ?_
  cases e with
  | non =>
    refine ⟨rep_non h2, ?_⟩
    cases d with
    | any => cases e3
    | _ => cases e3; rw [rep_isnon h1 (fun z => nomatch z)]; exact q _ fun _ _ => rfl
  | _ => cases e3
theorem os_isnot : OpS X (compareOp .IsNot) gIsNot := by
  refine OpS.scal op_notN fun G ow H d e z l m v u Q h1 h2 e3 q => ?_
  cases e with
  | non =>
    refine ⟨rep_non h2, ?_⟩
    cases d with
    | any => cases e3
    | _ => cases e3; rw [rep_isnon h1 (fun z => nomatch z)]; exact q _ fun _ _ => rfl
  | _ => cases e3

def flatD : D → Bool
  | .non => true
  | .bl _ => true
  | .int _ => true
  | .str _ => true
  | _ => false
theorem toPys_map : ∀ xs : List D, toPys xs = xs.map toPy
  | [] => by simp [toPys]
  | d :: ds => by simp [toPys, toPys_map ds]
theorem flat_rep {d : D} {l : Loc} {v : V} (f : flatD d = true) (h : Rep G ow H d l v) : flatV v = true ∧ atom d = true := by
  cases d with
  | non => have e := rep_non h; subst e; exact ⟨rfl, rfl⟩
  | bl b => have e := rep_bl h; subst e; exact ⟨rfl, rfl⟩
  | int b => have e := rep_int h; subst e; exact ⟨rfl, rfl⟩
  | str b => have e := rep_str h; subst e; exact ⟨rfl, rfl⟩
  | _ => cases f
theorem flat_eq {d e : D} {l m : Loc} {v u : V} (f : flatD d = true) (g : flatD e = true) (h : Rep G ow H d l v) (h' : Rep G ow H e m u) : eqV v u = PyData.eqv (toPy d) (toPy e) := by
  cases d with
  | non =>
    have e1 := rep_non h; subst e1
    cases e with
    | non => have e2 := rep_non h'; subst e2; simp [eqV, toPy, PyData.eqv]
    | bl b => have e2 := rep_bl h'; subst e2; simp [eqV, toPy, PyData.eqv]
    | int b => have e2 := rep_int h'; subst e2; simp [eqV, toPy, PyData.eqv]
    | str b => have e2 := rep_str h'; subst e2; simp [eqV, toPy, PyData.eqv]
    | _ => cases g
  | bl b =>
    have e1 := rep_bl h; subst e1
    cases e with
    | non => have e2 := rep_non h'; subst e2; simp [eqV, toPy, PyData.eqv]
    | bl b => have e2 := rep_bl h'; subst e2; simp [eqV, toPy, PyData.eqv]
    | int b => have e2 := rep_int h'; subst e2; simp [eqV, toPy, PyData.eqv]
    | str b => have e2 := rep_str h'; subst e2; simp [eqV, toPy, PyData.eqv]
    | _ => cases g
  | int b =>
    have e1 := rep_int h; subst e1
    cases e with
    | non => have e2 := rep_non h'; subst e2; simp [eqV, toPy, PyData.eqv]
    | bl b => have e2 := rep_bl h'; subst e2; simp [eqV, toPy, PyData.eqv]
    | int b => have e2 := rep_int h'; subst e2; simp [eqV, toPy, PyData.eqv]
    | str b => have e2 := rep_str h'; subst e2; simp [eqV, toPy, PyData.eqv]
    | _ => cases g
  | str b =>
    have e1 := rep_str h; subst e1
    cases e with
    | non => have e2 := rep_non h'; subst e2; simp [eqV, toPy, PyData.eqv]
    | bl b => have e2 := rep_bl h'; subst e2; simp [eqV, toPy, PyData.eqv]
    | int b => have e2 := rep_int h'; subst e2; simp [eqV, toPy, PyData.eqv]
    | str b => have e2 := rep_str h'; subst e2; simp [eqV, toPy, PyData.eqv]
    | _ => cases g
  | _ => cases f
theorem flat_all : ∀ {xs : List D} {l : Loc} {i : Nat} {vs : List V}, xs.all flatD = true → Reps G ow H xs l i vs → vs.all flatV = true
  | [], _, _, vs, _, h => by
    have e : vs = [] := h
    subst e; rfl
  | d :: ds, l, i, vs, f, h => by
    obtain ⟨v, ws, e, h1, h2⟩ := h
    subst e
    rw [List.all_cons, Bool.and_eq_true] at f ⊢
    exact ⟨(flat_rep f.1 h1).1, flat_all f.2 h2⟩
theorem flat_any {d : D} {m : Loc} {v : V} (g : flatD d = true) (h' : Rep G ow H d m v) : ∀ {xs : List D} {l : Loc} {i : Nat} {vs : List V}, xs.all flatD = true → Reps G ow H xs l i vs → inV v vs = xs.any fun e => PyData.eqv (toPy e) (toPy d)
  | [], _, _, vs, _, h => by
    have e : vs = [] := h
    subst e; rfl
  | d' :: ds, l, i, vs, f, h => by
    obtain ⟨v', ws, e, h1, h2⟩ := h
    subst e
    rw [List.all_cons, Bool.and_eq_true] at f
    have z := flat_any g h' f.2 h2
    unfold inV at z ⊢
    rw [List.any_cons, List.any_cons, z, flat_eq f.1 g h1 h']
def inD (d e : D) : Option Bool := match e with
  | .node .lst _ xs => if (eqOk d && eqOk e) = true then some (xs.any fun z => PyData.eqv (toPy z) (toPy d)) else none
  | .node .tup _ xs => if (flatD d && xs.all flatD) = true then some (xs.any fun z => PyData.eqv (toPy z) (toPy d)) else none
  | .str b => (match d with
    | .str a => some (!(Builtin.Str.occurrences b a 0 b.length 1).isEmpty)
    | _ => none)
  | _ => none
def rInAll (K : PySem.W.Frag) (neg : Bool) : R2 := fun x y H Q => (if neg = true then rNotInD K x y H Q else rInD K x y H Q) ∨ rIn K neg x y H Q ∨ (∃ i j, x = .str i ∧ y = .str j ∧ Q (.bl (if neg then !(!(Builtin.Str.occurrences j i 0 j.length 1).isEmpty) else !(Builtin.Str.occurrences j i 0 j.length 1).isEmpty)) H)
theorem inD_ok {K : PySem.W.Frag} {d e : D} {l m : Loc} {v u : V} {b neg : Bool} {Q : VK} (h1 : Rep G ow H d l v) (h2 : Rep G ow H e m u) (e3 : inD d e = some b) (q : Q (.bl (if neg then !b else b)) H) : rInAll K neg v u H Q := by
  have deep : ∀ xs, e = .node .lst false xs ∨ e = .node .lst true xs → (eqOk d && eqOk e) = true → b = (xs.any fun z => PyData.eqv (toPy z) (toPy d)) → rInAll K neg v u H Q := fun xs he c eb => by
    rw [Bool.and_eq_true] at c
    have ep : toPy e = .list (toPys xs) := by rcases he with he | he <;> rw [he] <;> simp [toPy]
    have k1 := dp_of (K := K) d (SeqAt.canLay_of_shaped c.1) h1
    have k2 := dp_of (K := K) e (SeqAt.canLay_of_shaped c.2) h2
    have c2 : SeqAt.shaped (.list (toPys xs)) = true := by rw [← ep]; exact c.2
    rw [ep] at k2
    have ea : (toPys xs).any (fun z => PyData.eqv z (toPy d)) = b := by rw [toPys_map, List.any_map, eb]; rfl
    refine .inl ?_
    cases neg with
    | true => exact ⟨_, _, k1, k2, c.1, c2, by rw [ea]; exact q⟩
    | false => exact ⟨_, _, k1, k2, c.1, c2, by rw [ea]; exact q⟩
  unfold inD at e3
  split at e3
  · rename_i o xs
    split at e3
    · rename_i c
      cases e3
      exact deep xs (by cases o <;> simp) c rfl
    · cases e3
  · rename_i o xs
    split at e3
    · rename_i c
      rw [Bool.and_eq_true] at c
      cases e3
      obtain ⟨a, vs, eu, k1, _, k3⟩ := h2
      subst eu
      refine .inr (.inl ⟨a, vs, rfl, .inr (SqT.of k1), (flat_rep c.1 h1).1, flat_all c.2 k3, ?_⟩)
      rw [flat_any c.1 h1 c.2 k3]
      exact q
    · cases e3
  · rename_i z
    split at e3
    · rename_i a
      cases e3
      exact .inr (.inr ⟨a, z, rep_str h1, rep_str h2, q⟩)
    · cases e3
  · cases e3
def gIn : G2 := g2 fun d e => (inD d e).map .bl
def gNotIn : G2 := g2 fun d e => (inD d e).map fun b => .bl (!b)
theorem os_in (hu : X.A.units + 65 < cLine) : OpS X (compareOp .In) gIn := by
  have R : OpR X (compareOp .In) (rInAll X.K false) := (op_inD hu).or (op_in_seq.or op_in_str)
  refine OpS.scal R fun G ow H d e z l m v u Q h1 h2 e3 q => ?_
  cases e4 : inD d e with
  | none => rw [e4] at e3; cases e3
  | some b =>
    rw [e4] at e3
    cases e3
    exact inD_ok (neg := false) h1 h2 e4 (q _ fun _ _ => rfl)
theorem os_notin (hu : X.A.units + 65 < cLine) : OpS X (compareOp .NotIn) gNotIn := by
  have R : OpR X (compareOp .NotIn) (rInAll X.K true) := (op_notInD hu).or (op_notIn_seq.or op_notin_str)
  refine OpS.scal R fun G ow H d e z l m v u Q h1 h2 e3 q => ?_
  cases e4 : inD d e with
  | none => rw [e4] at e3; cases e3
  | some b =>
    rw [e4] at e3
    cases e3
    exact inD_ok (neg := true) h1 h2 e4 (q _ fun _ _ => rfl)

def tVT (G : GX) (C : Fc) (W : WX) (f : Ev) : TT := fun s H Q => ∃ r T, StOk G C r T s H ∧ match f r with
  | .ok (.val (.bl b)) r' => ∀ H', StOk G C r' T s H' → Q b H'
  | .exc c r' => ∀ H', StOk G C r' T s H' → W (.ref (G c)) none s H'
  | _ => False
abbrev VT (X : Cx) (G : GX) (C : Fc) (W : WX) (e : Expr) (f : Ev) : Prop := PT X e (tVT G C W f)
theorem PT.imp {e : Expr} {t t' : TT} (h : PT X e t) (i : ∀ s H Q, t' s H Q → t s H Q) : PT X e t' := ⟨fun pins s σ H Q I w => h.run pins s σ H Q I (i _ _ _ w)⟩
theorem PW.imp {e : Expr} {t t' : TT} (h : PW X e t) (i : ∀ s H Q, t' s H Q → t s H Q) : PW X e t' := ⟨fun wh pins s σ H Q I w => h.run wh pins s σ H Q I (i _ _ _ w)⟩
theorem tV_bl {f : Ev} {Q : Bool → Hp → Prop} (h : tVT G C W f s H Q) : tV G C W f s H fun v H' => ∃ k, v = .bl k ∧ Q k H' := by
  obtain ⟨r, T, S, h⟩ := h
  refine ⟨r, T, S, ?_⟩
  split at h
  · rename_i b r' e
    rw [e]
    exact fun v H' P => ⟨b, by
      obtain ⟨ow, S'⟩ := P.1
      exact S'.last, h H' P.any⟩
  · rename_i c r' e
    rw [e]
    exact h
  · exact h.elim
theorem vt_cmp {op : CmpOp} {g : G2} {a b : Expr} {pos : Pos} (ho : OpS X (compareOp op) g) (ha : VE X G C W a fa) (hb : VE X G C W b fb) (hm : behindInMarks op b = false) : VT X G C W (.Compare a [op] [b] pos) (cBin g fa fb) := by
  obtain ⟨rr, h1, h2⟩ := ho
  refine PT.imp (pt_cmpR h1 ha hb hm) fun s H Q h => ?_
  have z := tV_bl h
  obtain ⟨r, T, S, gg⟩ := z
  exact two S gg fun x y v u r2 H2 S2 lx ly g2 => h2 G C W r2 T s H2 x y v u _ S2 lx ly g2
def truthD : D → Option Bool
  | .non => some false
  | .bl b => some b
  | .int i => some (i != 0)
  | .str x => if x.length ≤ 16777216 then some ((x.length : Int) != 0) else none
  | .node .lst _ xs => some (!xs.isEmpty)
  | .node .tup _ xs => some (!xs.isEmpty)
  | .node (.dK _) _ xs => some (!xs.isEmpty)
  | _ => none
def cTru (fa : Ev) : Ev := fun r => (fa r).bd fun x r1 => match opd r1 x with
  | some d => (match truthD d with
    | some b => .ok (.val (.bl b)) r1
    | none => .bad)
  | none => .bad
theorem vt_val {a : Expr} (ha : VE X G C W a fa) (he : ∀ whole, isTrue a X.env whole = (do let v ← whole; standAt a.pos; holding [v] (truthy v))) : VT X G C W a fa := by
  refine PT.imp (pt_truth ha he) fun s H Q h => ?_
  have z := tV_bl h
  obtain ⟨r, T, S, g⟩ := z
  refine ⟨r, T, S, ?_⟩
  cases e : fa r with
  | ok x r1 =>
    rw [e] at g
    exact fun v H' P => by
      obtain ⟨k, ev, q⟩ := g v H' P
      subst ev
      exact ⟨k, rfl, q⟩
  | exc c r1 => rw [e] at g; exact g
  | bad => rw [e] at g; exact g
def cAnd (fa fb : Ev) : Ev := fun r => (fa r).bd fun x r1 => match x with
  | .val (.bl true) => fb r1
  | .val (.bl false) => .ok (.val (.bl false)) r1
  | _ => .bad
def cOr (fa fb : Ev) : Ev := fun r => (fa r).bd fun x r1 => match x with
  | .val (.bl true) => .ok (.val (.bl true)) r1
  | .val (.bl false) => fb r1
  | _ => .bad
def cNot (fa : Ev) : Ev := fun r => (fa r).bd fun x r1 => match x with
  | .val (.bl b) => .ok (.val (.bl (!b))) r1
  | _ => .bad
abbrev VW (X : Cx) (G : GX) (C : Fc) (W : WX) (e : Expr) (f : Ev) : Prop := PW X e (tVT G C W f)
theorem tVT_and {Q : Bool → Hp → Prop} (h : tVT G C W (cAnd fa fb) s H Q) : tAnd (tVT G C W fa) (tVT G C W fb) s H Q := by
  obtain ⟨r, T, S, g⟩ := h
  refine ⟨r, T, S, ?_⟩
  unfold cAnd at g
  cases e : fa r with
  | ok x r1 =>
    rw [e] at g
    simp only [bd_ok] at g
    split at g
    · rename_i b r' e'
      split at e'
      · exact fun H' S' => (if_pos rfl).mpr ⟨r1, T, S', by rw [e']; exact g⟩
      · cases e'
        exact fun H' S' => (if_neg Bool.false_ne_true).mpr (g H' S')
      · cases e'
    · rename_i c r' e'
      split at e'
      · exact fun H' S' => (if_pos rfl).mpr ⟨r1, T, S', by rw [e']; exact g⟩
      · cases e'
      · cases e'
    · exact g.elim
  | exc c r1 => rw [e] at g; exact g
  | bad => rw [e] at g; exact g
theorem tVT_or {Q : Bool → Hp → Prop} (h : tVT G C W (cOr fa fb) s H Q) : tOr (tVT G C W fa) (tVT G C W fb) s H Q := by
  obtain ⟨r, T, S, g⟩ := h
  refine ⟨r, T, S, ?_⟩
  unfold cOr at g
  cases e : fa r with
  | ok x r1 =>
    rw [e] at g
    simp only [bd_ok] at g
    split at g
    · rename_i b r' e'
      split at e'
      · cases e'
        exact fun H' S' => (if_pos rfl).mpr (g H' S')
      · exact fun H' S' => (if_neg Bool.false_ne_true).mpr ⟨r1, T, S', by rw [e']; exact g⟩
      · cases e'
    · rename_i c r' e'
      split at e'
      · cases e'
      · exact fun H' S' => (if_neg Bool.false_ne_true).mpr ⟨r1, T, S', by rw [e']; exact g⟩
      · cases e'
    · exact g.elim
  | exc c r1 => rw [e] at g; exact g
  | bad => rw [e] at g; exact g
theorem vw_and1 {a : Expr} {pos : Pos} (ha : VT X G C W a fa) : VW X G C W (.BoolOp .And [a] pos) fa := pw_and1 ha
theorem vw_or1 {a : Expr} {pos : Pos} (ha : VT X G C W a fa) : VW X G C W (.BoolOp .Or [a] pos) fa := pw_or1 ha
theorem vw_and {a b : Expr} {rest : List Expr} {pos : Pos} (ha : VT X G C W a fa) (hb : VW X G C W (.BoolOp .And (b :: rest) pos) fb) : VW X G C W (.BoolOp .And (a :: b :: rest) pos) (cAnd fa fb) :=
  PW.imp (pw_and ha hb) fun _ _ _ h => tVT_and h
theorem vw_or {a b : Expr} {rest : List Expr} {pos : Pos} (ha : VT X G C W a fa) (hb : VW X G C W (.BoolOp .Or (b :: rest) pos) fb) : VW X G C W (.BoolOp .Or (a :: b :: rest) pos) (cOr fa fb) :=
  PW.imp (pw_or ha hb) fun _ _ _ h => tVT_or h
theorem VW.pt {e : Expr} {f : Ev} (h : VW X G C W e f) : VT X G C W e f := L2.PW.pt h
theorem vt_not {a : Expr} {pos : Pos} (ha : VT X G C W a fa) : VT X G C W (.UnaryOp .Not a pos) (cNot fa) := by
  refine PT.imp (pt_not ha) fun s H Q h => ?_
  obtain ⟨r, T, S, g⟩ := h
  refine ⟨r, T, S, ?_⟩
  unfold cNot at g
  cases e : fa r with
  | ok x r1 =>
    rw [e] at g
    simp only [bd_ok] at g
    split at g
    · rename_i b r' e'
      split at e'
      · rename_i k
        cases e'
        exact g
      · cases e'
    · rename_i c r' e'
      split at e' <;> cases e'
    · exact g.elim
  | exc c r1 => rw [e] at g; exact g
  | bad => rw [e] at g; exact g
def cIfE (ft fa fb : Ev) : Ev := fun r => (ft r).bd fun x r1 => match x with
  | .val (.bl true) => fa r1
  | .val (.bl false) => fb r1
  | _ => .bad
theorem ve_if {c a b : Expr} {pos : Pos} (hc : VT X G C W c fc) (ha : VE X G C W a fa) (hb : VE X G C W b fb) : VE X G C W (.IfExp c a b pos) (cIfE fc fa fb) := by
  refine PE.imp (pe_ifExp hc ha hb) fun s H Q h => ?_
  obtain ⟨r, T, S, g⟩ := h
  refine ⟨r, T, S, ?_⟩
  unfold cIfE at g
  cases e : fc r with
  | ok x r1 =>
    rw [e] at g
    simp only [bd_ok] at g
    cases x with
    | loc i => exact g.elim
    | val d =>
      cases d with
      | bl b =>
        cases b with
        | true => exact fun H' S' => (if_pos rfl).mpr ⟨r1, T, S', g⟩
        | false => exact fun H' S' => (if_neg Bool.false_ne_true).mpr ⟨r1, T, S', g⟩
      | _ => exact g.elim
  | exc c r1 => rw [e] at g; exact g
  | bad => rw [e] at g; exact g
def cNeg (fa : Ev) : Ev := fun r => (fa r).bd fun x r1 => match x with
  | .val (.int i) => .ok (.val (.int (-i))) r1
  | _ => .bad
theorem ve_neg {a : Expr} {pos : Pos} (ha : VE X G C W a fa) : VE X G C W (.UnaryOp .USub a pos) (cNeg fa) := by
  refine PE.imp (pe_un un_neg ha) fun s H Q h => ?_
  obtain ⟨r, T, S, g⟩ := h
  refine one S g fun x v r1 H1 P g1 => ?_
  split at g1
  · rename_i i
    obtain ⟨ow, S'⟩ := P.1
    have e := rep_int S'.last
    subst e
    exact ⟨i, rfl, g1 _ _ ⟨P.any.pushI _, trivial⟩⟩
  · exact g1.elim
end
end VL

namespace VL
open PySem PySem.Spec PyProof.Rows L2
section
variable {X : Cx} {G : GX} {C : Fc} {W : WX} {ow ow' : Ow} {r : Rho} {T T1 T2 : List (D × V)} {s : L2.St} {H H' : Hp} {fa fb fc : Ev}
theorem oneX {k : R → Rho → EO} {Q : VK} {K : V → Hp → Prop} (S : StOk G C r (T ++ T2) s H) (h : Goes G C W T s Q ((fa r).bd k))
    (hk : ∀ x v r1 H1, Post G C r1 (T ++ T2) s H1 x v → Goes G C W T s Q (k x r1) → K v H1) : tV G C W fa s H K := by
  refine ⟨r, T ++ T2, S, ?_⟩
  cases e : fa r with
  | ok x r1 =>
    rw [e] at h
    exact fun v H1 P => hk x v r1 H1 P h
  | exc c r1 => rw [e] at h; exact fun H' S' => h H' S'.drop
  | bad => rw [e] at h; exact h
def cSet (fa : Ev) : Ev := fun r => (fa r).bd fun x r1 => match x with
  | .val d => .ok (.val d) r1
  | .loc i => (match opd r1 (.loc i) with
    | some d => .ok (.val (frz d)) (settle r1 (.loc i))
    | none => .bad)
theorem ve_set {e : Expr} (h : VE X G C W e fa) : VE X G C W e (cSet fa) := by
  refine PE.imp h fun s H Q h => ?_
  obtain ⟨r, T, S, g⟩ := h
  refine ⟨r, T, S, ?_⟩
  unfold cSet at g
  cases e : fa r with
  | ok x r1 =>
    rw [e] at g
    simp only [bd_ok] at g
    intro v H' P
    cases x with
    | val d => exact g v H' P
    | loc i =>
      cases e1 : opd r1 (.loc i) with
      | none => simp only [e1] at g
      | some d =>
        simp only [e1] at g
        have q := opd_loc e1
        rw [settle_loc q] at g
        obtain ⟨⟨ow, S'⟩, l⟩ := P
        have S' : StW G C ow r1 T s H' := by simpa [pushR] using S'
        have hlt : i < r1.length := (List.getElem?_eq_some_iff.mp q).1
        have S2 := S'.frzSl q
        exact g v H' ⟨⟨_, S2.copy (j := i) (d := frz d) (by rw [List.getElem?_set_self hlt]) (frz_frz d) l⟩, trivial⟩
  | exc c r1 => rw [e] at g; exact g
  | bad => rw [e] at g; exact g

def pick (r : Rho) (x : R) (d : D) : EO := if atom d = true then .ok (.val d) r else .ok (.val (frz d)) (touch r x)
def gIx : G2 := fun x y r => match opd r x, opd r y with
  | some (.node .lst _ xs), some (.int i) => (match atI xs i with | some d => pick r x d | none => .bad)
  | some (.node .rd _ xs), some (.int i) => (match atI xs i with | some d => pick r x d | none => .bad)
  | some (.node .tup _ xs), some (.int i) => (match atI xs i with | some d => pick r x d | none => .bad)
  | some (.str z), some (.int i) => if z.length ≤ 16777216 then (match atI z.cps.toList i with | some c => .ok (.val (.str ⟨#[c]⟩)) r | none => .bad) else .bad
  | _, _ => .bad
theorem atI_len {α β : Type} {xs : List α} {ys : List β} {i : Int} {d : α} (hl : xs.length = ys.length) (h : atI xs i = some d) : ∃ j : Nat, xs[j]? = some d ∧ ∀ y, ys[j]? = some y → atI ys i = some y := by
  unfold atI at h ⊢
  rw [← hl]
  cases e : ixN xs.length i with
  | none => rw [e] at h; cases h
  | some j =>
    rw [e] at h
    exact ⟨j, h, fun y hy => hy⟩
theorem frzs_get {xs : List D} {j : Nat} {d : D} (h : xs[j]? = some d) : (frzs xs)[j]? = some (frz d) := by
  rw [frzs_map, List.getElem?_map, h]; rfl
theorem pick_ok {x y : R} {v u : V} {k : Kd} {o : Bool} {xs : List D} {i : Int} {d : D} {Q : VK} (S : StW G C ow r (T ++ (pushR x v ++ pushR y u)) s H) (lx : LocOk s v x) (e1 : opd r x = some (.node k o xs)) (ei : atI xs i = some d) (q : Goes G C W T s Q (pick r x d)) :
    ∃ a vs w, v = .ref a ∧ Holds G H a k vs ∧ atI vs i = some w ∧ Q w H := by
  by_cases a : atom d = true
  · obtain ⟨p, vs, ev, h1, h2, h3⟩ := opd_rep S lx e1
    obtain ⟨j, ej, hj⟩ := atI_len h3.length ei
    obtain ⟨w, ew, rw'⟩ := h3.get j d ej
    unfold pick at q
    rw [if_pos a] at q
    exact ⟨p, vs, w, ev, h1, hj w ew, goes_val q ⟨ow, S.drop⟩ a fun _ _ => rw'.of_atom a⟩
  · obtain ⟨ow', p, vs, S', ev, h1, rx, _⟩ := StW.parts (T := T) (StW.drop (T := T ++ pushR x v) (T2 := pushR y u) (by rw [List.append_assoc]; exact S)) lx e1
    have l1 := (rx ⟨.fo, []⟩).length
    rw [frzs_length] at l1
    obtain ⟨j, ej, hj⟩ := atI_len l1 ei
    obtain ⟨w, ew, rw'⟩ := (rx ⟨.fo, []⟩).get j (frz d) (frzs_get ej)
    unfold pick at q
    rw [if_neg a] at q
    exact ⟨p, vs, w, ev, h1, hj w ew, q w H ⟨⟨ow', S'.push (Rep.moveF _ (frz_frz d) (fun a o z q => ⟨z, q⟩) (fun _ _ z _ => z) rw')⟩, trivial⟩⟩
theorem ve_ix {a b : Expr} {pos : Pos} (hK : G.K = X.K) (ha : VE X G C W a fa) (hb : VE X G C W b fb) (hs : PlainIx b) : VE X G C W (.Subscript a b pos) (cBin gIx fa fb) := by
  refine PE.imp (pe_ix ix_seq ha hb hs) fun s H Q h => ?_
  obtain ⟨r, T, S, g⟩ := h
  refine two S g fun x y v u r2 H2 S2 lx ly q => ?_
  obtain ⟨ow, S2⟩ := S2
  have i2 : ∀ i, opd r2 y = some (.int i) → u = .int i := fun i e2 => opd_rep (T := T ++ pushR x v) (T2 := []) (by rw [List.append_nil, List.append_assoc]; exact S2) ly e2
  unfold gIx at q
  split at q
  · rename_i o xs i e1 e2
    split at q
    · rename_i d ei
      obtain ⟨p, vs, w, ev, h1, h2, h3⟩ := pick_ok S2 lx e1 ei q
      subst ev
      exact .inl ⟨p, vs, i, w, rfl, i2 i e2, SqL.of h1, h2, h3⟩
    · exact q.elim
  · rename_i o xs i e1 e2
    split at q
    · rename_i d ei
      obtain ⟨p, vs, w, ev, h1, h2, h3⟩ := pick_ok S2 lx e1 ei q
      subst ev
      exact .inl ⟨p, vs, i, w, rfl, i2 i e2, hK ▸ h1.seq, h2, h3⟩
    · exact q.elim
  · rename_i o xs i e1 e2
    split at q
    · rename_i d ei
      obtain ⟨p, vs, w, ev, h1, h2, h3⟩ := pick_ok S2 lx e1 ei q
      subst ev
      exact .inr (.inl ⟨p, vs, i, w, rfl, i2 i e2, SqT.of h1, h2, h3⟩)
    · exact q.elim
  · rename_i z i e1 e2
    split at q
    · rename_i hz
      split at q
      · rename_i c ec
        have a1 := opd_rep S2 lx e1
        exact .inr (.inr ⟨z, i, c, a1, i2 i e2, by rw [sizeLine_eq]; exact hz, ec, goes_val q ⟨ow, S2.drop⟩ rfl fun _ _ => rfl⟩)
      · exact q.elim
    · exact q.elim
  · exact q.elim

def part (f : Option Ev) (r : Rho) (k : Option Int → Rho → EO) : EO := match f with
  | none => k none r
  | some f => (f r).bd fun y r' => match y with
    | .val (.int i) => k (some i) r'
    | _ => .bad
abbrev VO (X : Cx) (G : GX) (C : Fc) (W : WX) (e : Option Expr) (f : Option Ev) : Prop := ∃ t, PO X e t ∧ ∀ (r : Rho) (T T2 : List (D × V)) (s : L2.St) (H : Hp) (Q : VK) (K : Option Int → Hp → Prop) (k : Option Int → Rho → EO),
  StOk G C r (T ++ T2) s H → Goes G C W T s Q (part f r k) → (∀ i r1 H1, StOk G C r1 (T ++ T2) s H1 → Goes G C W T s Q (k i r1) → K i H1) → t s H K
theorem vo_none : VO X G C W none none := ⟨_, po_none, fun r T T2 s H Q K k S g h => h none r H S g⟩
theorem vo_some {e : Expr} (h : VE X G C W e fa) : VO X G C W (some e) (some fa) := by
  refine ⟨_, po_some h, fun r T T2 s H Q K k S g hk => ?_⟩
  refine oneX (k := fun y r' => match y with | .val (.int i) => k (some i) r' | _ => .bad) S g fun x v r1 H1 P g1 => ?_
  cases x with
  | loc i => exact g1.elim
  | val d =>
    cases d with
    | int i =>
      obtain ⟨ow, S'⟩ := P.1
      exact ⟨i, rep_int S'.last, hk (some i) r1 H1 P.any g1⟩
    | _ => exact g1.elim
def cutD (xs : List D) (lo hi : Option Int) : List D := (xs.drop (HT.sIx xs.length 0 lo)).take (HT.sIx xs.length xs.length hi - HT.sIx xs.length 0 lo)
def gSl (x : R) (lo hi : Option Int) (r : Rho) : EO := match opd r x with
  | some (.node .lst _ xs) => .ok (.val (.node .lst true (cutD (frzs xs) lo hi))) (touch r x)
  | some (.node .rd _ xs) => .ok (.val (.node .lst true (cutD (frzs xs) lo hi))) (touch r x)
  | some (.node .tup _ xs) => .ok (.val (.node .tup false (cutD (frzs xs) lo hi))) (touch r x)
  | _ => .bad
def cSl (fa : Ev) (lo hi : Option Ev) : Ev := fun r => (fa r).bd fun x r1 => part lo r1 fun l r2 => part hi r2 fun h r3 => gSl x l h r3
theorem frzs_take (xs : List D) (n : Nat) : frzs (xs.take n) = (frzs xs).take n := by rw [frzs_map, frzs_map, List.map_take]
theorem frzs_drop (xs : List D) (n : Nat) : frzs (xs.drop n) = (frzs xs).drop n := by rw [frzs_map, frzs_map, List.map_drop]
theorem Reps.cut {ds : List D} {l : Loc} {vs : List V} (e : VL.frzs ds = ds) (h : Reps G ow H ds l 0 vs) (lo hi : Option Int) : Reps G ow H (cutD ds lo hi) l 0 (cutV vs lo hi) ∧ VL.frzs (cutD ds lo hi) = cutD ds lo hi := by
  have hl := h.length
  unfold cutD cutV
  rw [← hl]
  generalize HT.sIx ds.length 0 lo = a
  generalize HT.sIx ds.length ds.length hi - a = b
  refine ⟨Reps.of_get (by simp [hl]) fun j d v q1 q2 => ?_, by rw [frzs_take, frzs_drop, e]⟩
  have hj : j < b := by
    have := (List.getElem?_eq_some_iff.mp q1).1
    simp at this; omega
  rw [List.getElem?_take_of_lt hj, List.getElem?_drop] at q1 q2
  obtain ⟨v', z1, z2⟩ := h.get (a + j) d q1
  rw [q2] at z1
  cases z1
  have f : VL.frz d = d := by
    have := congrArg (·[a + j]?) e
    simp only [frzs_map, List.getElem?_map, q1, Option.map_some] at this
    exact Option.some.inj this
  exact Rep.moveF d f (fun a o z q => ⟨z, q⟩) (fun _ _ z _ => z) z2
theorem StW.madeT {ds : List D} {vs : List V} {l : Loc} {i : Nat} {Q : VK} (S : StW G C ow r T s H) (e : frzs ds = ds) (h : Reps G ow H ds l i vs) (hq : ∀ v H', Post G C r T s H' (.val (.node .tup false ds)) v → Q v H') :
    ∀ p, H p = none → Q (.ref p) (upd H p (.tup vs)) := fun p hp =>
  hq _ _ ⟨StOk.alloc false ⟨ow, S.pushFs e h⟩ h.length hp holds_tup (fun z => nomatch z), trivial⟩
theorem ve_slice {a : Expr} {lo hi : Option Expr} {flo fhi : Option Ev} {p2 pos : Pos} (hK : G.K = X.K) (ha : VE X G C W a fa) (hl : VO X G C W lo flo) (hh : VO X G C W hi fhi) : VE X G C W (.Subscript a (.Slice lo hi none p2) pos) (cSl fa flo fhi) := by
  obtain ⟨tl, l1, l2⟩ := hl
  obtain ⟨th, h1, h2⟩ := hh
  refine PE.imp (pe_slice (sl_list.or sl_tupA) ha l1 h1) fun s H Q h => ?_
  obtain ⟨r, T, S, g⟩ := h
  refine one S g fun x v r1 H1 P g1 => ?_
  refine l2 r1 T (pushR x v) s H1 _ _ _ P.1 g1 fun lo' r2 H2 S2 g2 => ?_
  refine h2 r2 T (pushR x v) s H2 _ _ _ S2 g2 fun hi' r3 H3 S3 g3 => ?_
  obtain ⟨ow, S3⟩ := S3
  unfold gSl at g3
  split at g3
  · rename_i o xs e1
    obtain ⟨ow', p, vs, S', ev, h1, rx, _⟩ := S3.parts P.2 e1
    subst ev
    obtain ⟨c1, c2⟩ := (rx ⟨.fo, []⟩).cut (frzs_frzs xs) lo' hi'
    exact .inl ⟨p, vs, rfl, SqL.of h1, S'.made c2 c1 g3⟩
  · rename_i o xs e1
    obtain ⟨ow', p, vs, S', ev, h1, rx, _⟩ := S3.parts P.2 e1
    subst ev
    obtain ⟨c1, c2⟩ := (rx ⟨.fo, []⟩).cut (frzs_frzs xs) lo' hi'
    exact .inl ⟨p, vs, rfl, hK ▸ h1.seq, S'.made c2 c1 g3⟩
  · rename_i o xs e1
    obtain ⟨ow', p, vs, S', ev, h1, rx, _⟩ := S3.parts P.2 e1
    subst ev
    obtain ⟨c1, c2⟩ := (rx ⟨.fo, []⟩).cut (frzs_frzs xs) lo' hi'
    have l1 := (rx ⟨.fo, []⟩).length
    refine .inr ⟨p, vs, rfl, SqT.of h1, fun hw => ?_, fun _ => S'.madeT c2 c1 g3⟩
    have ec : cutD (frzs xs) lo' hi' = frzs xs := by
      unfold cutD
      rw [l1, hw.1, hw.2, List.drop_zero, Nat.sub_zero, ← l1, List.take_length]
    rw [ec] at g3
    have n : ow' p = none := by
      cases e : ow' p with
      | none => rfl
      | some l =>
        have m := S'.mu p l e
        rw [show H3 p = some (.tup vs) from h1] at m
        exact m.elim
    exact g3 _ _ ⟨⟨ow', S'.push ⟨p, vs, rfl, h1, n, rx _⟩⟩, trivial⟩
  · exact g3.elim
end
end VL

namespace VL
open PySem PySem.Spec PyProof.Rows L2

inductive AO where
  | ok (xs : List R) (r : Rho) | exc (c : Nat) (r : Rho) | bad
abbrev Av := Rho → AO
def pushs : List R → List V → List (D × V)
  | x :: xs, v :: vs => pushR x v ++ pushs xs vs
  | _, _ => []
def LocsOk (s : L2.St) : List R → List V → Prop
  | [], [] => True
  | x :: xs, v :: vs => LocOk s v x ∧ LocsOk s xs vs
  | _, _ => False
def AO.bd (x : AO) (k : List R → Rho → EO) : EO := match x with
  | .ok y r => k y r
  | .exc c r => .exc c r
  | .bad => .bad
@[simp] theorem abd_ok (y : List R) (r : Rho) (k : List R → Rho → EO) : (AO.ok y r).bd k = k y r := rfl
@[simp] theorem abd_exc (c : Nat) (r : Rho) (k : List R → Rho → EO) : (AO.exc c r).bd k = .exc c r := rfl
@[simp] theorem abd_bad (k : List R → Rho → EO) : AO.bad.bd k = .bad := rfl
def cNil : Av := fun r => .ok [] r
def cCons (fa : Ev) (fs : Av) : Av := fun r => match fa r with
  | .ok x r1 => (match fs r1 with
    | .ok xs r2 => .ok (x :: xs) r2
    | .exc c r2 => .exc c r2
    | .bad => .bad)
  | .exc c r1 => .exc c r1
  | .bad => .bad
def opds (r : Rho) : List R → Option (List D)
  | [] => some []
  | x :: xs => match opd r x, opds r xs with
    | some d, some ds => some (d :: ds)
    | _, _ => none
def settles (r : Rho) : List R → Rho
  | [] => r
  | x :: xs => settles (settle r x) xs
section
variable {X : Cx} {G : GX} {C : Fc} {W : WX} {ow ow' : Ow} {r : Rho} {T T1 T2 : List (D × V)} {s : L2.St} {H H' : Hp} {fa fb fc : Ev} {fs : Av}
def tVA (G : GX) (C : Fc) (W : WX) (f : Av) : TA := fun s H Q => ∃ r T, StOk G C r T s H ∧ match f r with
  | .ok xs r' => ∀ vs H', StOk G C r' (T ++ pushs xs vs) s H' → LocsOk s xs vs → Q vs H'
  | .exc c r' => ∀ H', StOk G C r' T s H' → W (.ref (G c)) none s H'
  | .bad => False
abbrev VA (X : Cx) (G : GX) (C : Fc) (W : WX) (es : List Expr) (f : Av) : Prop := PA X es (tVA G C W f)
theorem PA.imp {es : List Expr} {t t' : TA} (h : PA X es t) (i : ∀ s H Q, t' s H Q → t s H Q) : PA X es t' := ⟨fun pos pins s σ H Q I w => h.run pos pins s σ H Q I (i _ _ _ w)⟩
theorem va_nil : VA X G C W [] cNil := by
  refine PA.imp pa_nil fun s H Q h => ?_
  obtain ⟨r, T, S, g⟩ := h
  exact g [] H (by simpa [pushs] using S) trivial
theorem va_cons {e : Expr} {es : List Expr} (he : VE X G C W e fa) (hr : VA X G C W es fs) (hs : starEach (e :: es) X.env = (false, eval e X.env) :: starEach es X.env := by rfl) : VA X G C W (e :: es) (cCons fa fs) := by
  refine PA.imp (pa_cons he hr hs) fun s H Q h => ?_
  obtain ⟨r, T, S, g⟩ := h
  refine ⟨r, T, S, ?_⟩
  unfold cCons at g
  cases e1 : fa r with
  | ok x r1 =>
    rw [e1] at g
    intro v H1 P
    refine ⟨r1, T ++ pushR x v, P.1, ?_⟩
    cases e2 : fs r1 with
    | ok xs r2 =>
      simp only [e2] at g
      intro vs H2 S2 l2
      exact g (v :: vs) H2 (by show StOk G C r2 (T ++ (pushR x v ++ pushs xs vs)) s H2; rw [← List.append_assoc]; exact S2) ⟨P.2, l2⟩
    | exc c r2 => simp only [e2] at g; exact fun H' S' => g H' S'.drop
    | bad => simp only [e2] at g
  | exc c r1 => rw [e1] at g; exact g
  | bad => rw [e1] at g; exact g
theorem many {k : List R → Rho → EO} {Q : VK} {K : List V → Hp → Prop} (S : StOk G C r (T ++ T2) s H) (h : Goes G C W T s Q ((fs r).bd k))
    (hk : ∀ xs vs r1 H1, StOk G C r1 (T ++ T2 ++ pushs xs vs) s H1 → LocsOk s xs vs → Goes G C W T s Q (k xs r1) → K vs H1) : tVA G C W fs s H K := by
  refine ⟨r, T ++ T2, S, ?_⟩
  cases e : fs r with
  | ok xs r1 =>
    rw [e] at h
    exact fun vs H1 S1 l1 => hk xs vs r1 H1 S1 l1 h
  | exc c r1 => rw [e] at h; exact fun H' S' => h H' S'.drop
  | bad => rw [e] at h; exact h

theorem frz_opd_settle {x y : R} {d : D} (e : opd r y = some d) : ∃ d', opd (settle r x) y = some d' ∧ frz d' = frz d := by
  cases y with
  | val z => exact ⟨d, e, rfl⟩
  | loc j =>
    have q := opd_loc e
    cases x with
    | val z => exact ⟨d, e, rfl⟩
    | loc i =>
      by_cases hij : i = j
      · subst hij
        rw [settle_loc q]
        refine ⟨frz d, ?_, frz_frz d⟩
        show (match (r.set i (some (frz d)))[i]? with | some (some d) => some d | _ => none) = _
        rw [List.getElem?_set_self (List.getElem?_eq_some_iff.mp q).1]
      · refine ⟨d, ?_, rfl⟩
        cases q' : r[i]? with
        | none =>
          have z : settle r (.loc i) = r := by show (match r[i]? with | some (some d) => r.set i (some (frz d)) | _ => r) = _; rw [q']
          rw [z]; exact e
        | some o' =>
          cases o' with
          | none =>
            have z : settle r (.loc i) = r := by show (match r[i]? with | some (some d) => r.set i (some (frz d)) | _ => r) = _; rw [q']
            rw [z]; exact e
          | some d' =>
            rw [settle_loc q']
            show (match (r.set i (some (frz d')))[j]? with | some (some d) => some d | _ => none) = _
            rw [List.getElem?_set_ne hij, q]
theorem frzs_opds_settle {x : R} : ∀ {ys : List R} {ds : List D}, opds r ys = some ds → ∃ ds', opds (settle r x) ys = some ds' ∧ frzs ds' = frzs ds
  | [], ds, e => ⟨ds, e, rfl⟩
  | y :: ys, ds, e => by
    unfold opds at e
    cases e1 : opd r y with
    | none => rw [e1] at e; cases e
    | some d =>
      cases e2 : opds r ys with
      | none => rw [e1, e2] at e; cases e
      | some ds' =>
        rw [e1, e2] at e
        cases e
        obtain ⟨d1, h1, h2⟩ := frz_opd_settle (x := x) e1
        obtain ⟨ds1, h3, h4⟩ := frzs_opds_settle (x := x) e2
        refine ⟨d1 :: ds1, by unfold opds; rw [h1, h3], ?_⟩
        show frz d1 :: frzs ds1 = frz d :: frzs ds'
        rw [h2, h4]
theorem StW.settles : ∀ {xs : List R} {vs : List V} {ow : Ow} {r : Rho} {T : List (D × V)} {ds : List D}, StW G C ow r (T ++ pushs xs vs) s H → LocsOk s xs vs → opds r xs = some ds →
    ∃ ow', StW G C ow' (VL.settles r xs) T s H ∧ (∀ l i, Reps G ow' H (frzs ds) l i vs) ∧ (∀ a, ow a = none → ow' a = none) ∧ ∀ a l, ow' a = some l → ow a = some l
  | [], [], ow, r, T, ds, S, _, e => by
    cases e
    exact ⟨ow, by have z : StW G C ow r T s H := by (simpa [pushs] using S)
                  exact z, fun l i => rfl, fun _ h => h, fun _ _ h => h⟩
  | [], _ :: _, _, _, _, _, _, l, _ => l.elim
  | _ :: _, [], _, _, _, _, _, l, _ => l.elim
  | x :: xs, v :: vs, ow, r, T, ds, S, l, e => by
    unfold opds at e
    cases e1 : opd r x with
    | none => rw [e1] at e; cases e
    | some d =>
      cases e2 : opds r xs with
      | none => rw [e1, e2] at e; cases e
      | some ds' =>
        rw [e1, e2] at e
        cases e
        cases x with
        | val d0 =>
          cases e1
          have S1 := StW.frzTm (T1 := T) (T2 := pushs xs vs) (d := d) (v := v) S
          have S2 : StW G C (VL.free ow (.tm T.length)) r ((T ++ [(frz d, v)]) ++ pushs xs vs) s H := by simpa using S1
          obtain ⟨ow', S3, h1, h2, h3⟩ := StW.settles S2 l.2 e2
          refine ⟨ow', S3.drop, fun l' i => ⟨v, vs, rfl, ?_, h1 _ _⟩, fun a q => h2 a (free_none q), fun a m q => (of_free (h3 a m q)).1⟩
          have z := S3.tm T.length (frz d) v (by simp)
          exact Rep.moveF _ (frz_frz d) (fun a o z q => ⟨z, q⟩) (fun _ _ z _ => z) z
        | loc i =>
          have q := opd_loc e1
          have S1 : StW G C ow r (T ++ pushs xs vs) s H := by simpa [pushs, pushR] using S
          have S2 := S1.frzSl q
          have hs : settle r (.loc i) = r.set i (some (frz d)) := settle_loc q
          obtain ⟨ds1, g1, g2⟩ := frzs_opds_settle (x := .loc i) e2
          rw [hs] at g1
          obtain ⟨ow', S3, h1, h2, h3⟩ := StW.settles S2 l.2 g1
          refine ⟨ow', by show StW G C ow' (VL.settles (settle r (.loc i)) xs) T s H; rw [hs]; exact S3, fun l' j => ⟨v, vs, rfl, ?_, ?_⟩, fun a q => h2 a (free_none q), fun a m q => (of_free (h3 a m q)).1⟩
          · obtain ⟨v', z1, z2⟩ := S2.sl i (frz d) (by rw [List.getElem?_set_self (List.getElem?_eq_some_iff.mp q).1])
            have h' : s[i]? = some (some v) := l.1
            rw [h'] at z1
            cases z1
            exact Rep.moveF _ (frz_frz d) (fun a o z q => ⟨z, h2 a q⟩) (fun _ _ z _ => z) z2
          · rw [g2] at h1
            exact h1 _ _
theorem LocsOk.length {s : L2.St} : ∀ {xs : List R} {vs : List V}, LocsOk s xs vs → xs.length = vs.length
  | [], [], _ => rfl
  | [], _ :: _, l => l.elim
  | _ :: _, [], l => l.elim
  | _ :: xs, _ :: vs, l => by simp [LocsOk.length l.2]

def valsR : List R → Option (List D)
  | [] => some []
  | .val d :: xs => (match valsR xs with
    | some ds => some (d :: ds)
    | none => none)
  | .loc _ :: _ => none
theorem pushs_vals : ∀ {xs : List R} {vs : List V} {ds : List D}, LocsOk s xs vs → valsR xs = some ds → pushs xs vs = ds.zip vs ∧ ds.length = vs.length
  | [], [], _, _, e => by cases e; exact ⟨rfl, rfl⟩
  | [], _ :: _, _, l, _ => l.elim
  | _ :: _, [], _, l, _ => l.elim
  | .val d :: xs, v :: vs, ds, l, e => by
    unfold valsR at e
    cases e2 : valsR xs with
    | none => rw [e2] at e; cases e
    | some ds' =>
      rw [e2] at e
      cases e
      obtain ⟨h1, h2⟩ := pushs_vals l.2 e2
      refine ⟨?_, by simp [h2]⟩
      show [(d, v)] ++ pushs xs vs = _
      rw [h1]
      rfl
  | .loc _ :: _, _ :: _, _, _, e => by cases e
def cLst (fs : Av) : Ev := fun r => (fs r).bd fun xs r1 => match valsR xs with
  | some ds => if ds.length ≤ 16777216 then .ok (.val (.node .lst true ds)) r1 else .bad
  | none => .bad
def cTup (fs : Av) : Ev := fun r => (fs r).bd fun xs r1 => match valsR xs with
  | some ds => if ds.length ≤ 16777216 then .ok (.val (.node .tup false ds)) r1 else .bad
  | none => .bad
theorem ve_lst {es : List Expr} {pos : Pos} (h : VA X G C W es fs) : VE X G C W (.List es pos) (cLst fs) := by
  refine PE.imp (pe_lst h) fun s H Q h => ?_
  obtain ⟨r, T, S, g⟩ := h
  refine many (T2 := []) (by simpa using S) g fun xs vs r1 H1 S1 l1 g1 => ?_
  cases e : valsR xs with
  | none => simp only [e] at g1; exact g1.elim
  | some ds =>
    simp only [e] at g1
    split at g1
    · rename_i hz
      obtain ⟨p1, p2⟩ := pushs_vals l1 e
      rw [p1, List.append_nil] at S1
      exact ⟨by rw [← p2, sizeLine_eq]; exact hz, fun p hp => g1 _ _ ⟨StOk.alloc true S1 p2 hp holds_lst (fun _ => trivial), trivial⟩⟩
    · exact g1.elim
theorem ve_tup {es : List Expr} {k : Nat} {pos : Pos} (h : VA X G C W es fs) : VE X G C W (.Tuple es k pos) (cTup fs) := by
  refine PE.imp (pe_tup h) fun s H Q h => ?_
  obtain ⟨r, T, S, g⟩ := h
  refine many (T2 := []) (by simpa using S) g fun xs vs r1 H1 S1 l1 g1 => ?_
  cases e : valsR xs with
  | none => simp only [e] at g1; exact g1.elim
  | some ds =>
    simp only [e] at g1
    split at g1
    · rename_i hz
      obtain ⟨p1, p2⟩ := pushs_vals l1 e
      rw [p1, List.append_nil] at S1
      exact ⟨by rw [← p2, sizeLine_eq]; exact hz, fun p hp => g1 _ _ ⟨StOk.alloc false S1 p2 hp holds_tup (fun z => nomatch z), trivial⟩⟩
    · exact g1.elim

def CallS (X : Cx) (f : Value) (g : List R → Rho → EO) : Prop := ∃ rr, CallR X f rr ∧ ∀ (G : GX) (hG : G.K = X.K) (C : Fc) (W : WX) (r : Rho) (T : List (D × V)) (s : L2.St) (H : Hp) (xs : List R) (vs : List V) (Q : VK),
  StOk G C r (T ++ pushs xs vs) s H → LocsOk s xs vs → Goes G C W T s Q (g xs r) → rr vs H Q
def cB (g : List R → Rho → EO) (fs : Av) : Ev := fun r => (fs r).bd g
section
variable {x : Str} {p pos : Pos} {e : Expr} {es : List Expr} {id TT : String}
theorem ve_callB {g : List R → Rho → EO} (hK : G.K = X.K) (hc : CallS X (.builtin id) g) (hg : Gl X x) (hm : X.mg x = none) (hv : bootBuiltins x = some (.builtin id)) (ha : VA X G C W (e :: es) fs) (hn : x ≠ "__name__" := by decide) (hdb : (x == ("__debug__" : Str)) = false := by decide)
    (he : starEach (e :: es) X.env = (false, eval e X.env) :: starEach es X.env := by rfl) (hpl : (backTo pos (starEach es X.env)).any (·.1) = false := by rfl) : VE X G C W (.Call (.Name x p) (e :: es) [] pos) (cB g fs) := by
  obtain ⟨rr, h1, h2⟩ := hc
  refine PE.imp (pe_callB h1 hg hm hv ha hn hdb he hpl) fun s H Q h => ?_
  obtain ⟨r, T, S, g⟩ := h
  exact many (T2 := []) (by simpa using S) g fun xs vs r1 H1 S1 l1 g1 => h2 G hK C W r1 T s H1 xs vs Q (by simpa using S1) l1 g1
theorem ve_callTy {g : List R → Rho → EO} (hK : G.K = X.K) (hc : CallS X (.type TT) g) (hg : Gl X x) (hm : X.mg x = none) (hv : bootBuiltins x = some (.type TT)) (ha : VA X G C W (e :: es) fs) (hn : x ≠ "__name__" := by decide) (hdb : (x == ("__debug__" : Str)) = false := by decide)
    (he : starEach (e :: es) X.env = (false, eval e X.env) :: starEach es X.env := by rfl) (hpl : (backTo pos (starEach es X.env)).any (·.1) = false := by rfl) : VE X G C W (.Call (.Name x p) (e :: es) [] pos) (cB g fs) := by
  obtain ⟨rr, h1, h2⟩ := hc
  refine PE.imp (pe_callTy h1 hg hm hv ha hn hdb he hpl) fun s H Q h => ?_
  obtain ⟨r, T, S, g⟩ := h
  exact many (T2 := []) (by simpa using S) g fun xs vs r1 H1 S1 l1 g1 => h2 G hK C W r1 T s H1 xs vs Q (by simpa using S1) l1 g1
end
def b1 (f : D → Option D) : List R → Rho → EO := fun xs r => match xs with
  | [x] => (match opd r x with
    | some d => (match f d with
      | some z => if atom z = true then .ok (.val z) r else .bad
      | none => .bad)
    | none => .bad)
  | _ => .bad
theorem one_arg {x : R} {vs : List V} (l : LocsOk s [x] vs) : ∃ v, vs = [v] ∧ LocOk s v x ∧ pushs [x] vs = pushR x v := by
  cases vs with
  | nil => exact l.elim
  | cons v vs =>
    cases vs with
    | nil => exact ⟨v, rfl, l.1, by simp [pushs]⟩
    | cons _ _ => exact l.2.elim
theorem CallS.scal {f : Value} {rr : List V → Hp → VK → Prop} {g : D → Option D} (h : CallR X f rr)
    (hr : ∀ (G : GX) (hG : G.K = X.K) (ow : Ow) (H : Hp) (d z : D) (l : Loc) (v : V) (Q : VK), Rep G ow H d l v → g d = some z → (∀ w, (∀ ow l, Rep G ow H z l w) → Q w H) → rr [v] H Q) : CallS X f (b1 g) := by
  refine ⟨rr, h, fun G hG C W r T s H xs vs Q S l q => ?_⟩
  unfold b1 at q
  split at q
  · rename_i x
    obtain ⟨v, ev, lx, ep⟩ := one_arg l
    rw [ep] at S
    subst ev
    obtain ⟨ow, S⟩ := S
    cases e1 : opd r x with
    | none => simp only [e1] at q; exact q.elim
    | some d =>
      simp only [e1] at q
      cases e2 : g d with
      | none => simp only [e2] at q; exact q.elim
      | some z =>
        simp only [e2] at q
        split at q
        · rename_i a
          refine hr G hG ow H d z _ v Q (opd_rep (T2 := []) (by rw [List.append_nil]; exact S) lx e1) e2 fun w hw => ?_
          exact q w H ⟨StOk.pushA ⟨ow, S.drop⟩ a hw, trivial⟩
        · exact q.elim
  · exact q.elim
def lenD : D → Option D
  | .node .lst _ xs => some (.int xs.length)
  | .node .rd _ xs => some (.int xs.length)
  | .node .tup _ xs => some (.int xs.length)
  | .str z => if z.length ≤ 16777216 then some (.int z.length) else none
  | _ => none
theorem cs_len : CallS X (.builtin "len") (b1 lenD) := by
  refine CallS.scal call_len fun G hG ow H d z l v Q h e q => ?_
  cases d with
  | node k o xs =>
    obtain ⟨a, vs, ev, h1, h2, h3⟩ := h
    subst ev
    have hl := h3.length
    cases k with
    | lst => cases e; exact ⟨_, vs.length, rfl, .inl ⟨vs, SqL.of h1, rfl⟩, by rw [← hl]; exact q _ fun _ _ => rfl⟩
    | rd => cases e; exact ⟨_, vs.length, rfl, .inl ⟨vs, hG ▸ h1.seq, rfl⟩, by rw [← hl]; exact q _ fun _ _ => rfl⟩
    | tup => cases e; exact ⟨_, vs.length, rfl, .inr ⟨vs, SqT.of h1, rfl⟩, by rw [← hl]; exact q _ fun _ _ => rfl⟩
    | _ => cases e
  | str x =>
    have ev := rep_str h
    subst ev
    simp only [lenD] at e
    split at e
    · cases e; exact ⟨_, x.length, rfl, ⟨by rw [sizeLine_eq]; assumption, rfl⟩, q _ fun _ _ => rfl⟩
    · cases e
  | _ => cases e
def gListOf : List R → Rho → EO := fun xs r => match xs with
  | [x] => (match opd r x with
    | some (.node .lst _ xs) => .ok (.val (.node .lst true (frzs xs))) (touch r x)
    | some (.node .rd _ xs) => .ok (.val (.node .lst true (frzs xs))) (touch r x)
    | some (.node .tup _ xs) => .ok (.val (.node .lst true (frzs xs))) (touch r x)
    | _ => .bad)
  | _ => .bad
theorem cs_list : CallS X (.type "list") gListOf := by
  refine ⟨_, call_list_of, fun G hG C W r T s H xs vs Q S l q => ?_⟩
  unfold gListOf at q
  split at q
  · rename_i x
    obtain ⟨v, ev, lx, ep⟩ := one_arg l
    rw [ep] at S
    subst ev
    obtain ⟨ow, S⟩ := S
    split at q
    · rename_i o xs e1
      obtain ⟨ow', p, vs, S', ev, h1, rx, _⟩ := S.parts lx e1
      subst ev
      exact ⟨p, vs, rfl, .inl (SqL.of h1), S'.made (frzs_frzs xs) (rx ⟨.fo, []⟩) q⟩
    · rename_i o xs e1
      obtain ⟨ow', p, vs, S', ev, h1, rx, _⟩ := S.parts lx e1
      subst ev
      exact ⟨p, vs, rfl, .inl (hG ▸ h1.seq), S'.made (frzs_frzs xs) (rx ⟨.fo, []⟩) q⟩
    · rename_i o xs e1
      obtain ⟨ow', p, vs, S', ev, h1, rx, _⟩ := S.parts lx e1
      subst ev
      exact ⟨p, vs, rfl, .inr (SqT.of h1), S'.made (frzs_frzs xs) (rx ⟨.fo, []⟩) q⟩
    · exact q.elim
  · exact q.elim
def b2 (f : Int → Int → Int) : List R → Rho → EO := fun xs r => match xs with
  | [x, y] => (match opd r x, opd r y with
    | some (.int i), some (.int j) => .ok (.val (.int (f i j))) r
    | _, _ => .bad)
  | _ => .bad
theorem cs_int2 {f : Value} {g : Int → Int → Int} (h : CallR X f (fun xs H Q => ∃ i j, xs = [.int i, .int j] ∧ Q (.int (g i j)) H)) : CallS X f (b2 g) := by
  refine ⟨_, h, fun G hG C W r T s H xs vs Q S l q => ?_⟩
  unfold b2 at q
  split at q
  · rename_i x y
    cases vs with
    | nil => exact l.elim
    | cons v vs =>
      cases vs with
      | nil => exact l.2.elim
      | cons u vs =>
        cases vs with
        | cons _ _ => exact l.2.2.elim
        | nil =>
          obtain ⟨ow, S⟩ := S
          have S' : StW G C ow r (T ++ (pushR x v ++ pushR y u)) s H := by simpa [pushs] using S
          split at q
          · rename_i i j e1 e2
            have a1 := opd_rep S' l.1 e1
            have a2 := opd_rep (T := T ++ pushR x v) (T2 := []) (by rw [List.append_nil, List.append_assoc]; exact S') l.2.1 e2
            exact ⟨i, j, by rw [show v = .int i from a1, show u = .int j from a2], goes_val q ⟨ow, S.drop⟩ rfl fun _ _ => rfl⟩
          · exact q.elim
  · exact q.elim
def gMax2 := b2 fun i j => if j > i then j else i
def gMin2 := b2 fun i j => if j < i then j else i
theorem cs_min2 (hc : X.calm = true) : CallS X (.builtin "min") gMin2 := cs_int2 (call_min2 hc)
def intD : D → Option D
  | .int i => some (.int i)
  | .bl k => some (.int (if k then 1 else 0))
  | _ => none
theorem cs_int : CallS X (.type "int") (b1 intD) := by
  refine CallS.scal call_int1 fun G hG ow H d z l v Q h e q => ?_
  cases d with
  | int i => cases e; exact .inl ⟨i, by rw [rep_int h], q _ fun _ _ => rfl⟩
  | bl k => cases e; exact .inr ⟨k, by rw [rep_bl h], q _ fun _ _ => rfl⟩
  | _ => cases e
def intsOf : List D → Option (List Int)
  | [] => some []
  | .int i :: ds => (match intsOf ds with
    | some ns => some (i :: ns)
    | none => none)
  | _ :: _ => none
theorem ints_rep : ∀ {ds : List D} {ns : List Int} {l : Loc} {i : Nat} {vs : List V}, intsOf ds = some ns → Reps G ow H ds l i vs → vs = ns.map V.int
  | [], _, _, _, vs, e, h => by
    cases e
    exact h
  | d :: ds, ns, l, i, vs, e, h => by
    obtain ⟨v, ws, ev, h1, h2⟩ := h
    cases d with
    | int n =>
      unfold intsOf at e
      cases e2 : intsOf ds with
      | none => rw [e2] at e; cases e
      | some ns' =>
        rw [e2] at e
        cases e
        rw [ev, rep_int h1, ints_rep e2 h2]
        rfl
    | _ => cases e
theorem intsOf_map (ns : List Int) : intsOf (ns.map D.int) = some ns := by
  induction ns with
  | nil => rfl
  | cons n ns ih => show (match intsOf (ns.map D.int) with | some ms => some (n :: ms) | none => none) = _; rw [ih]
def sumD : D → Option D
  | .node .lst _ xs => (intsOf xs).map fun ns => .int ns.sum
  | .node .rd _ xs => (intsOf xs).map fun ns => .int ns.sum
  | _ => none
theorem cs_sum (hc : X.calm = true) : CallS X (.builtin "sum") (b1 sumD) := by
  refine CallS.scal (cr_sum hc) fun G hG ow H d z l v Q h e q => ?_
  cases d with
  | node k o xs =>
    obtain ⟨a, vs, ev, h1, h2, h3⟩ := h
    cases k with
    | lst =>
      simp only [sumD] at e
      cases e2 : intsOf xs with
      | none => rw [e2] at e; cases e
      | some ns =>
        rw [e2] at e
        cases e
        exact ⟨a, ns, by rw [ev], by rw [← ints_rep e2 h3]; exact SqL.of h1, q _ fun _ _ => rfl⟩
    | rd =>
      simp only [sumD] at e
      cases e2 : intsOf xs with
      | none => rw [e2] at e; cases e
      | some ns =>
        rw [e2] at e
        cases e
        exact ⟨a, ns, by rw [ev], by rw [← ints_rep e2 h3]; exact hG ▸ h1.seq, q _ fun _ _ => rfl⟩
    | _ => cases e
  | _ => cases e
end
end VL

namespace VL
open PySem PySem.Spec PyProof.Rows L2

inductive SO where
  | nx (r : Rho) | rt (x : R) (r : Rho) | bk (r : Rho) | ct (r : Rho) | exc (c : Nat) (r : Rho) | bad
abbrev Sv := Rho → SO
def EO.st (x : EO) (k : R → Rho → SO) : SO := match x with
  | .ok y r => k y r
  | .exc c r => .exc c r
  | .bad => .bad
@[simp] theorem st_ok (y : R) (r : Rho) (k : R → Rho → SO) : (EO.ok y r).st k = k y r := rfl
@[simp] theorem st_exc (c : Nat) (r : Rho) (k : R → Rho → SO) : (EO.exc c r).st k = .exc c r := rfl
@[simp] theorem st_bad (k : R → Rho → SO) : EO.bad.st k = .bad := rfl
def GoesS (G : GX) (C : Fc) (W : WX) (T : List (D × V)) (D : Ends) (o : SO) : Prop := match o with
  | .nx r' => ∀ s' H', StOk G C r' T s' H' → D.nx s' H'
  | .rt x r' => ∀ s' v H', Post G C r' T s' H' x v → D.rt v H'
  | .bk r' => ∀ s' H', StOk G C r' T s' H' → D.bk s' H'
  | .ct r' => ∀ s' H', StOk G C r' T s' H' → D.ct s' H'
  | .exc c r' => ∀ s' H', StOk G C r' T s' H' → W (.ref (G c)) none s' H'
  | .bad => False
def tVS (G : GX) (C : Fc) (W : WX) (f : Sv) : TS := fun D s H => ∃ r T, StOk G C r T s H ∧ GoesS G C W T D (f r)
abbrev VS (X : Cx) (G : GX) (C : Fc) (W : WX) (st : Stmt) (f : Sv) : Prop := PS X st (tVS G C W f)
abbrev VSs (X : Cx) (G : GX) (C : Fc) (W : WX) (st : List Stmt) (f : Sv) : Prop := PSs X st (tVS G C W f)
section
variable {X : Cx} {G : GX} {C : Fc} {W : WX} {ow ow' : Ow} {r : Rho} {T T1 T2 : List (D × V)} {s : L2.St} {H H' : Hp} {fa fb fc : Ev} {f g : Sv}
theorem PS.imp {st : Stmt} {t t' : TS} (h : PS X st t) (i : ∀ D s H, t' D s H → t D s H) : PS X st t' := ⟨fun pins s σ H D I w => h.run pins s σ H D I (i _ _ _ w)⟩
theorem PSs.imp {st : List Stmt} {t t' : TS} (h : PSs X st t) (i : ∀ D s H, t' D s H → t D s H) : PSs X st t' := ⟨fun pins s σ H D I w => h.run pins s σ H D I (i _ _ _ w)⟩
theorem oneS {k : R → Rho → SO} {D : Ends} {K : V → Hp → Prop} (S : StOk G C r T s H) (h : GoesS G C W T D ((fa r).st k))
    (hk : ∀ x v r1 H1, Post G C r1 T s H1 x v → GoesS G C W T D (k x r1) → K v H1) : tV G C W fa s H K := by
  refine ⟨r, T, S, ?_⟩
  cases e : fa r with
  | ok x r1 => rw [e] at h; exact fun v H1 P => hk x v r1 H1 P h
  | exc c r1 => rw [e] at h; exact fun H' S' => h s H' S'
  | bad => rw [e] at h; exact h

def cSkip : Sv := fun r => .nx r
def SO.sq (x : SO) (g : Sv) : SO := match x with
  | .nx r => g r
  | o => o
@[simp] theorem sq_nx (r : Rho) (g : Sv) : (SO.nx r).sq g = g r := rfl
@[simp] theorem sq_rt (x : R) (r : Rho) (g : Sv) : (SO.rt x r).sq g = .rt x r := rfl
@[simp] theorem sq_bk (r : Rho) (g : Sv) : (SO.bk r).sq g = .bk r := rfl
@[simp] theorem sq_ct (r : Rho) (g : Sv) : (SO.ct r).sq g = .ct r := rfl
@[simp] theorem sq_exc (c : Nat) (r : Rho) (g : Sv) : (SO.exc c r).sq g = .exc c r := rfl
@[simp] theorem sq_bad (g : Sv) : SO.bad.sq g = .bad := rfl
def cSeq (f g : Sv) : Sv := fun r => (f r).sq g
theorem vss_nil : VSs X G C W [] cSkip := PSs.imp pss_nil fun D s H ⟨r, T, S, h⟩ => h s H S
theorem vss_cons {st : Stmt} {rest : List Stmt} (h1 : VS X G C W st f) (h2 : VSs X G C W rest g) : VSs X G C W (st :: rest) (cSeq f g) := by
  refine PSs.imp (pss_cons h1 h2) fun D s H h => ?_
  obtain ⟨r, T, S, h⟩ := h
  refine ⟨r, T, S, ?_⟩
  unfold cSeq at h
  cases e : f r with
  | nx r1 => rw [e] at h; exact fun s' H' S' => ⟨r1, T, S', h⟩
  | rt x r1 => rw [e] at h; exact h
  | bk r1 => rw [e] at h; exact h
  | ct r1 => rw [e] at h; exact h
  | exc c r1 => rw [e] at h; exact h
  | bad => rw [e] at h; exact h
theorem vss_one {st : Stmt} (h1 : VS X G C W st f) : VSs X G C W [st] f := pss_one h1
def cBrk : Sv := fun r => .bk r
def cCnt : Sv := fun r => .ct r
def cExpr (fa : Ev) : Sv := fun r => (fa r).st fun _ r1 => .nx r1
theorem vs_expr {e : Expr} {pos : Pos} (he : VE X G C W e fa) (hs : swapsWith e none pos.line X.env = pure false := by rfl) : VS X G C W (.Expr e pos) (cExpr fa) := by
  refine PS.imp (ps_expr he hs) fun D s H h => ?_
  obtain ⟨r, T, S, h⟩ := h
  exact oneS S h fun x v r1 H1 P h1 => h1 s H1 P.any
def cRet (fa : Ev) : Sv := fun r => (fa r).st fun x r1 => .rt x r1
theorem vs_ret {e : Expr} {pos : Pos} (he : VE X G C W e fa) : VS X G C W (.Return (some e) pos) (cRet fa) := by
  refine PS.imp (ps_ret he) fun D s H h => ?_
  obtain ⟨r, T, S, h⟩ := h
  exact oneS S h fun x v r1 H1 P h1 => h1 s v H1 P
def cIfS (ft : Ev) (f g : Sv) : Sv := fun r => (ft r).st fun x r1 => match x with
  | .val (.bl true) => f r1
  | .val (.bl false) => g r1
  | _ => .bad
theorem vs_if {c : Expr} {a b : List Stmt} {pos : Pos} (hc : VT X G C W c fc) (ha : VSs X G C W a f) (hb : VSs X G C W b g) : VS X G C W (.If c a b pos) (cIfS fc f g) := by
  refine PS.imp (ps_if hc ha hb) fun D s H h => ?_
  obtain ⟨r, T, S, h⟩ := h
  refine ⟨r, T, S, ?_⟩
  unfold cIfS at h
  cases e : fc r with
  | ok x r1 =>
    rw [e] at h
    simp only [st_ok] at h
    cases x with
    | loc i => exact h.elim
    | val d =>
      cases d with
      | bl b =>
        cases b with
        | true => exact fun H' S' => (if_pos rfl).mpr ⟨r1, T, S', h⟩
        | false => exact fun H' S' => (if_neg Bool.false_ne_true).mpr ⟨r1, T, S', h⟩
      | _ => exact h.elim
  | exc c r1 => rw [e] at h; exact fun H' S' => h s H' S'
  | bad => rw [e] at h; exact h

def movedM (ow : Ow) (n i : Nat) : Ow := fun a => match ow a with
  | some ⟨.tm j, p⟩ => if j = n then some ⟨.sl i, p⟩ else if n < j then some ⟨.tm (j - 1), p⟩ else some ⟨.tm j, p⟩
  | some ⟨.sl j, p⟩ => if j = i then none else some ⟨.sl j, p⟩
  | x => x
theorem StW.setM {i : Nat} {d : D} {v : V} (S : StW G C ow r (T ++ (d, v) :: T2) s H) (hp : ∀ p ∈ C.pin, p.1 ≠ i) : StW G C (movedM ow T.length i) (r.set i (some d)) (T ++ T2) (s.set i (some v)) H where
  len := by simpa using S.len
  sl := fun j d' q => by
    by_cases hj : j = i
    · subst hj
      have hlt : j < r.length := by
        have := (List.getElem?_eq_some_iff.mp q).1
        simpa using this
      rw [List.getElem?_set_self hlt] at q
      cases q
      refine ⟨v, by rw [List.getElem?_set_self (by rw [← S.len]; exact hlt)], ?_⟩
      have z := S.tm T.length d v (by simp)
      refine Rep.mono (l := ⟨.tm T.length, []⟩) d (fun _ _ z _ => z) (fun _ _ z _ => z) (fun a o _ n => by unfold movedM; rw [n]) (fun a o q _ n => ?_) z
      have n' : ow a = some ⟨.tm T.length, [] ++ q⟩ := n
      unfold movedM
      rw [n']
      simp [Loc.app]
    · rw [List.getElem?_set_ne (Ne.symm hj)] at q
      obtain ⟨v', h1, h2⟩ := S.sl j d' q
      refine ⟨v', by rw [List.getElem?_set_ne (Ne.symm hj)]; exact h1, ?_⟩
      refine Rep.mono (l := ⟨.sl j, []⟩) d' (fun _ _ z _ => z) (fun _ _ z _ => z) (fun a o _ n => by unfold movedM; rw [n]) (fun a o q _ n => ?_) h2
      have n' : ow a = some ⟨.sl j, [] ++ q⟩ := n
      unfold movedM
      rw [n']
      simp [Loc.app, hj]
  tm := fun k d' v' q => by
    by_cases hk : k < T.length
    · rw [List.getElem?_append_left hk] at q
      have z := S.tm k d' v' (by rw [List.getElem?_append_left hk]; exact q)
      refine Rep.mono (l := ⟨.tm k, []⟩) d' (fun _ _ z _ => z) (fun _ _ z _ => z) (fun a o _ n => by unfold movedM; rw [n]) (fun a o q _ n => ?_) z
      have n' : ow a = some ⟨.tm k, [] ++ q⟩ := n
      unfold movedM
      rw [n']
      have h1 : ¬ k = T.length := by omega
      have h2 : ¬ T.length < k := by omega
      simp [Loc.app, h1, h2]
    · rw [List.getElem?_append_right (by omega)] at q
      have z := S.tm (k + 1) d' v' (by
        rw [List.getElem?_append_right (by omega), show k + 1 - T.length = (k - T.length) + 1 by omega]
        simpa using q)
      refine Rep.mono (l := ⟨.tm (k + 1), []⟩) d' (fun _ _ z _ => z) (fun _ _ z _ => z) (fun a o _ n => by unfold movedM; rw [n]) (fun a o q _ n => ?_) z
      have n' : ow a = some ⟨.tm (k + 1), [] ++ q⟩ := n
      unfold movedM
      rw [n']
      have h1 : ¬ k + 1 = T.length := by omega
      have h2 : T.length < k + 1 := by omega
      simp [Loc.app, h1, h2]
  old := S.old
  own := fun a l q => by
    cases e : ow a with
    | none => unfold movedM at q; rw [e] at q; cases q
    | some m =>
      obtain ⟨mb, mp⟩ := m
      cases mb with
      | fo =>
        unfold movedM at q; rw [e] at q; cases q
        exact .inl rfl
      | sl j => exact (S.own a _ e).elim (fun z => nomatch z) .inr
      | tm j => exact (S.own a _ e).elim (fun z => nomatch z) .inr
  fo := fun a q => by
    have z := S.fo a q
    unfold movedM; rw [z]
  mu := fun a l q => by
    cases e : ow a with
    | none => unfold movedM at q; rw [e] at q; cases q
    | some m => exact S.mu a m e
  pin := fun p hm => by
    rw [List.getElem?_set_ne (Ne.symm (hp p hm))]
    exact S.pin p hm
  tabs := S.tabs
def spread (ow : Ow) (n : Nat) : Ow := fun a => match ow a with
  | some ⟨.tm j, p⟩ => if j < n then some ⟨.tm j, p⟩ else if j = n then (match p with
    | k :: p' => some ⟨.tm (n + k), p'⟩
    | [] => none) else none
  | x => x
theorem StW.spread {k : Kd} {o : Bool} {ds : List D} {v : V} (S : StW G C ow r (T ++ [(.node k o ds, v)]) s H) : ∃ a vs, v = .ref a ∧ Holds G H a k vs ∧ ds.length = vs.length ∧ StW G C (VL.spread ow T.length) r (T ++ ds.zip vs) s H := by
  obtain ⟨a, vs, ev, h1, h2, h3⟩ := S.last
  refine ⟨a, vs, ev, h1, h3.length, S.len, fun i d q => ?_, fun j d v q => ?_, S.old, fun b l q => ?_, fun b q => ?_, fun b l q => ?_, S.pin, S.tabs⟩
  · obtain ⟨v', z1, z2⟩ := S.sl i d q
    refine ⟨v', z1, Rep.mono (l := ⟨.sl i, []⟩) d (fun _ _ z _ => z) (fun _ _ z _ => z) (fun a o _ n => by unfold VL.spread; rw [n]) (fun a o q _ n => ?_) z2⟩
    have n' : ow a = some ⟨.sl i, [] ++ q⟩ := n
    unfold VL.spread
    rw [n']
    rfl
  · by_cases hj : j < T.length
    · rw [List.getElem?_append_left hj] at q
      have z := S.tm j d v (by rw [List.getElem?_append_left hj]; exact q)
      refine Rep.mono (l := ⟨.tm j, []⟩) d (fun _ _ z _ => z) (fun _ _ z _ => z) (fun a o _ n => by unfold VL.spread; rw [n]) (fun a o q _ n => ?_) z
      have n' : ow a = some ⟨.tm j, [] ++ q⟩ := n
      unfold VL.spread
      rw [n']
      simp [Loc.app, hj]
    · rw [List.getElem?_append_right (by omega)] at q
      obtain ⟨q1, q2⟩ := List.getElem?_zip_eq_some.mp q
      obtain ⟨v', z1, z2⟩ := h3.get (j - T.length) d q1
      rw [q2] at z1
      cases z1
      refine Rep.mono (l := Loc.sub ⟨.tm T.length, []⟩ (0 + (j - T.length))) d (fun _ _ z _ => z) (fun _ _ z _ => z) (fun a o _ n => by unfold VL.spread; rw [n]) (fun a o q _ n => ?_) z2
      have n' : ow a = some ⟨.tm T.length, (j - T.length) :: q⟩ := by
        rw [n]; simp [Loc.sub, Loc.app]
      unfold VL.spread
      rw [n']
      simp [Loc.app]
      omega
  · cases e : ow b with
    | none => unfold VL.spread at q; rw [e] at q; cases q
    | some m =>
      obtain ⟨mb, mp⟩ := m
      cases mb with
      | fo =>
        unfold VL.spread at q; rw [e] at q; cases q
        exact .inl rfl
      | sl j => exact (S.own b _ e).elim (fun z => nomatch z) .inr
      | tm j => exact (S.own b _ e).elim (fun z => nomatch z) .inr
  · have z := S.fo b q
    unfold VL.spread; rw [z]
  · cases e : ow b with
    | none => unfold VL.spread at q; rw [e] at q; cases q
    | some m => exact S.mu b m e

inductive Tg where
  | nm (i : Nat) | tp (is : List Nat) | tl (is : List Nat) | tn (i : Nat) (js : List Nat)
def setAll (r : Rho) : List Nat → List D → Rho
  | i :: is, d :: ds => setAll (r.set i (some d)) is ds
  | _, _ => r
def tgt : Tg → D → Rho → Option Rho
  | .nm i, d, r => some (r.set i (some d))
  | .tp is, .node .tup _ ds, r => if is.length = ds.length then some (setAll r is ds) else none
  | .tl is, .node .lst _ ds, r => if is.length = ds.length then some (setAll r is ds) else none
  | .tn i js, .node .tup _ [d, .node .tup _ ds], r => if js.length = ds.length then some (setAll (r.set i (some d)) js ds) else none
  | _, _, _ => none
def Tg.slots : Tg → List Nat
  | .nm i => [i]
  | .tp is => is
  | .tl is => is
  | .tn i js => i :: js
def But (is : List Nat) (s s' : L2.St) : Prop := s'.length = s.length ∧ ∀ j, j ∉ is → s'[j]? = s[j]?
theorem But.refl {is : List Nat} {s : L2.St} : But is s s := ⟨rfl, fun _ _ => rfl⟩
theorem But.set {i : Nat} {x : Option V} {s : L2.St} : But [i] s (s.set i x) := ⟨by simp, fun j h => List.getElem?_set_ne (fun e => h (by simp [e]))⟩
theorem But.cons {i : Nat} {is : List Nat} {x : Option V} {s s' : L2.St} (h : But is (s.set i x) s') : But (i :: is) s s' :=
  ⟨h.1.trans (by simp), fun j n => (h.2 j (fun z => n (List.mem_cons_of_mem _ z))).trans (List.getElem?_set_ne (fun e => n (by simp [e])))⟩
def tVG (G : GX) (C : Fc) (t : Tg) : TG := fun v s H Q => ∃ r T d, StOk G C r (T ++ [(d, v)]) s H ∧ match tgt t d r with
  | some r' => ∀ s' H', StOk G C r' T s' H' → But t.slots s s' → Q s' H'
  | none => False
abbrev VG (X : Cx) (G : GX) (C : Fc) (e : Expr) (t : Tg) : Prop := PG X e (tVG G C t)
theorem PG.imp {e : Expr} {t t' : TG} (h : PG X e t) (i : ∀ v s H Q, t' v s H Q → t v s H Q) : PG X e t' := ⟨fun pins s σ H v u Q I rr w => h.run pins s σ H v u Q I rr (i _ _ _ _ w)⟩
theorem vg_name {i : Nat} {x : Str} {pos : Pos} (hN : X.N.Nodup) (hi : X.N[i]? = some x) (hx : L2.Loc X.env.scope x) (hp : ∀ p ∈ C.pin, p.1 ≠ i) (hf : X.fn x = true ∨ X.env.scope.names.lookup x = some .local := by first | exact .inl rfl | exact .inr rfl | assumption) : VG X G C (.Name x pos) (.nm i) := by
  refine PG.imp (pg_name hN hi hx hf) fun v s H Q h => ?_
  obtain ⟨r, T, d, S, h⟩ := h
  exact h _ _ (S.set hp) But.set
def tVGs (G : GX) (C : Fc) (is : List Nat) : TGs := fun vs s H Q => ∃ r T ds, ds.length = vs.length ∧ is.length = ds.length ∧ StOk G C r (T ++ ds.zip vs) s H ∧ ∀ s' H', StOk G C (setAll r is ds) T s' H' → But is s s' → Q s' H'
abbrev VGs (X : Cx) (G : GX) (C : Fc) (es : List Expr) (is : List Nat) : Prop := PGs X es (tVGs G C is)
theorem vgs_nil : VGs X G C [] [] := by
  refine ⟨fun pins s σ H vs us Q I rr h => pgs_nil.run pins s σ H vs us Q I rr ?_⟩
  obtain ⟨r, T, ds, h1, h2, S, h⟩ := h
  have e1 : ds = [] := List.eq_nil_of_length_eq_zero h2.symm
  subst e1
  have e2 : vs = [] := List.eq_nil_of_length_eq_zero h1.symm
  subst e2
  have S' : StOk G C r T σ H := by simpa using S
  exact ⟨rfl, h _ _ S' But.refl⟩
theorem vgs_cons {i : Nat} {x : Str} {pos : Pos} {es : List Expr} {is : List Nat} (hN : X.N.Nodup) (hi : X.N[i]? = some x) (hx : L2.Loc X.env.scope x) (hp : ∀ p ∈ C.pin, p.1 ≠ i) (h2 : VGs X G C es is)
    (hf : X.fn x = true ∨ X.env.scope.names.lookup x = some .local := by first | exact .inl rfl | exact .inr rfl | assumption)
    (hs : (assignEach (.Name x pos :: es) X.env).map (·.2) = assign (.Name x pos) X.env :: (assignEach es X.env).map (·.2) := by rfl) : VGs X G C (.Name x pos :: es) (i :: is) := by
  refine ⟨fun pins s σ H vs us Q I rr h => (pgs_cons (pg_name hN hi hx hf) h2 hs).run pins s σ H vs us Q I rr ?_⟩
  obtain ⟨r, T, ds, h1, h2, S, h⟩ := h
  cases ds with
  | nil => cases h2
  | cons d ds =>
    cases vs with
    | nil => cases h1
    | cons v vs =>
      refine ⟨v, vs, rfl, r.set i (some d), T, ds, by simpa using h1, by simpa using h2, ?_, fun s' H' S' b => h s' H' S' b.cons⟩
      obtain ⟨ow, S⟩ := S
      exact ⟨_, StW.setM (T := T) (T2 := ds.zip vs) S hp⟩
theorem vg_tup {es : List Expr} {is : List Nat} {k : Nat} {pos : Pos} (hc : X.calm = true) (h : VGs X G C es is)
    (hn : (assignEach es X.env).length = is.length := by rfl) (hst : (assignEach es X.env).findIdx? (·.1) = none := by rfl) : VG X G C (.Tuple es k pos) (.tp is) := by
  refine PG.imp (pg_tup hc h hn hst) fun v s H Q h => ?_
  obtain ⟨r, T, d, S, h⟩ := h
  obtain ⟨ow, S⟩ := S
  cases d with
  | node k o ds =>
    cases k with
    | tup =>
      obtain ⟨a, vs, ev, h1, h2, S'⟩ := S.spread
      by_cases hl : is.length = ds.length
      · have e : tgt (.tp is) (.node .tup o ds) r = some (setAll r is ds) := if_pos hl
        rw [e] at h
        exact ⟨a, vs, ev, SqT.of h1, by rw [← h2]; exact hl.symm, r, T, ds, h2, hl, ⟨_, S'⟩, h⟩
      · have e : tgt (.tp is) (.node .tup o ds) r = none := if_neg hl
        rw [e] at h
        exact h.elim
    | _ => exact h.elim
  | _ => exact h.elim
def asgK (t : Tg) (x : R) (r1 : Rho) : SO := match x with
  | .val d => (match tgt t d r1 with
    | some r2 => .nx r2
    | none => .bad)
  | .loc _ => .bad
@[simp] theorem asgK_nm (i : Nat) (d : D) (r : Rho) : asgK (.nm i) (.val d) r = .nx (r.set i (some d)) := rfl
def cAsg (t : Tg) (fa : Ev) : Sv := fun r => (cSet fa r).st (asgK t)
theorem asg_go {t : Tg} {D : Ends} {v : V} {x : R} {r1 : Rho} {H1 : Hp} (P : Post G C r1 T s H1 x v) (h : GoesS G C W T D (asgK t x r1)) : tVG G C t v s H1 D.nx := by
  cases x with
  | loc i => exact h.elim
  | val d =>
    refine ⟨r1, T, d, P.1, ?_⟩
    unfold asgK at h
    cases e : tgt t d r1 with
    | some r2 => simp only [e] at h ⊢; exact fun s' H' S' _ => h s' H' S'
    | none => simp only [e] at h; exact h.elim
theorem vs_asg {tg e : Expr} {t : Tg} {pos : Pos} (he : VE X G C W e fa) (hg : VG X G C tg t) (hs : swapsWithSole [tg] e pos.line X.env = pure false := by rfl) (hw : swappedStores [tg] e X.env = pure none := by rfl)
    (h1 : (assignEach [tg] X.env).map (·.2) = [assign tg X.env] := by rfl) : VS X G C W (.Assign [tg] e pos) (cAsg t fa) := by
  refine PS.imp (ps_asg (ve_set he) hg hs hw h1) fun D s H h => ?_
  obtain ⟨r, T, S, h⟩ := h
  exact oneS (fa := cSet fa) S h fun x v r1 H1 P g => asg_go P g
theorem vs_set {i : Nat} {x : Str} {e : Expr} {pos pos' : Pos} (hN : X.N.Nodup) (hi : X.N[i]? = some x) (hx : L2.Loc X.env.scope x) (hp : ∀ p ∈ C.pin, p.1 ≠ i) (he : VE X G C W e fa) (hs : swapsWith e (some (.Name x pos')) pos.line X.env = pure false := by rfl)
    (hf : X.fn x = true ∨ X.env.scope.names.lookup x = some .local := by first | exact .inl rfl | exact .inr rfl | assumption) : VS X G C W (.Assign [.Name x pos'] e pos) (cAsg (.nm i) fa) := by
  refine PS.imp (ps_set hN hi hx (ve_set he) hs hf) fun D s H h => ?_
  obtain ⟨r, T, S, h⟩ := h
  refine oneS (fa := cSet fa) S h fun x v r1 H1 P g => ?_
  cases x with
  | loc i => exact g.elim
  | val d => exact g _ _ (P.1.set hp)

def cAug (i : Nat) (g : G2) (fb : Ev) : Sv := fun r => match r[i]? with
  | some (some d) => if atom d = true then (fb r).st fun y r1 => (g (.val d) y r1).st fun z r2 => match z with
    | .val d' => .nx (r2.set i (some d'))
    | .loc _ => .bad else .bad
  | _ => .bad
def iAdd (d e : D) : Option D := match d, e with
  | .int i, .int j => some (.int (i + j))
  | .str a, .str b => if a.length + b.length ≤ 16777216 then some (.str (a ++ b)) else none
  | _, _ => none
def cRaise (c : Nat) : Sv := fun r => .exc c r
theorem vs_raise {c : Nat} {x m : Str} {j : Nat} {p p2 pos pos' : Pos} (hcm : X.calm = true) (tk : Takes X W) (q : PySem.W.excIn X.K (G c) [.type "ValueError", .type "Exception", .type "BaseException", .type "object"] "ValueError.__new__" = true) (gC : X.mg x = some (.ref (G c))) (kC : PySem.W.keepIn X.K (.ref (G c)) = true)
    (rs : Raises X (.ref (G c))) (hg : Gl X x) (hdb : (x == ("__debug__" : Str)) = false := by decide) : VS X G C W (.Raise (some (.Call (.Name x p) [.Constant (.str m) j p2] [] pos)) none pos') (cRaise c) := by
  refine PS.imp (ps_raise hcm tk (pmk_own PySem.F.excBase_ValueError q gC kC rs hg hdb)) fun D s H h => ?_
  obtain ⟨r, T, S, h⟩ := h
  exact h s H S
end
end VL

namespace VL
open PySem PySem.Spec PyProof.Rows L2
section
variable {X : Cx} {G : GX} {C : Fc} {W : WX} {ow ow' : Ow} {r : Rho} {T T1 T2 : List (D × V)} {s : L2.St} {H H' : Hp} {fa fb fc : Ev} {f g : Sv}

def slid (ow : Ow) (n m : Nat) : Ow := fun a => match ow a with
  | some ⟨.tm j, p⟩ => if j < n then some ⟨.tm j, p⟩ else if j = m then some ⟨.tm n, p⟩ else none
  | x => x
theorem StW.slide {d : D} {v : V} (S : StW G C ow r (T ++ T2 ++ [(d, v)]) s H) : StW G C (slid ow T.length (T.length + T2.length)) r (T ++ [(d, v)]) s H where
  len := S.len
  sl := fun i d q => by
    obtain ⟨v', z1, z2⟩ := S.sl i d q
    refine ⟨v', z1, Rep.mono (l := ⟨.sl i, []⟩) d (fun _ _ z _ => z) (fun _ _ z _ => z) (fun a o _ n => by unfold slid; rw [n]) (fun a o q _ n => ?_) z2⟩
    have n' : ow a = some ⟨.sl i, [] ++ q⟩ := n
    unfold slid
    rw [n']
    rfl
  tm := fun j d' v' q => by
    by_cases hj : j < T.length
    · rw [List.getElem?_append_left hj] at q
      have z := S.tm j d' v' (by rw [List.append_assoc, List.getElem?_append_left hj]; exact q)
      refine Rep.mono (l := ⟨.tm j, []⟩) d' (fun _ _ z _ => z) (fun _ _ z _ => z) (fun a o _ n => by unfold slid; rw [n]) (fun a o q _ n => ?_) z
      have n' : ow a = some ⟨.tm j, [] ++ q⟩ := n
      unfold slid
      rw [n']
      simp [Loc.app, hj]
    · rw [List.getElem?_append_right (by omega)] at q
      have e : j = T.length := by
        have := (List.getElem?_eq_some_iff.mp q).1
        simp at this; omega
      subst e
      simp at q
      obtain ⟨e1, e2⟩ := q
      subst e1; subst e2
      have z := S.tm (T.length + T2.length) d v (by
        rw [List.getElem?_append_right (by simp)]
        simp)
      refine Rep.mono (l := ⟨.tm (T.length + T2.length), []⟩) d (fun _ _ z _ => z) (fun _ _ z _ => z) (fun a o _ n => by unfold slid; rw [n]) (fun a o q _ n => ?_) z
      have n' : ow a = some ⟨.tm (T.length + T2.length), [] ++ q⟩ := n
      have h : ¬ T.length + T2.length < T.length := by omega
      unfold slid
      rw [n']
      simp [Loc.app, h]
  old := S.old
  own := fun a l q => by
    cases e : ow a with
    | none => unfold slid at q; rw [e] at q; cases q
    | some m =>
      obtain ⟨mb, mp⟩ := m
      cases mb with
      | fo =>
        unfold slid at q; rw [e] at q; cases q
        exact .inl rfl
      | sl j => exact (S.own a _ e).elim (fun z => nomatch z) .inr
      | tm j => exact (S.own a _ e).elim (fun z => nomatch z) .inr
  fo := fun a q => by
    have z := S.fo a q
    unfold slid; rw [z]
  mu := fun a l q => by
    cases e : ow a with
    | none => unfold slid at q; rw [e] at q; cases q
    | some m => exact S.mu a m e
  pin := S.pin
  tabs := S.tabs
theorem Post.slide {x : R} {v : V} (P : Post G C r (T ++ T2) s H x v) : Post G C r T s H x v := by
  obtain ⟨⟨ow, S⟩, l⟩ := P
  cases x with
  | val d => exact ⟨⟨_, StW.slide S⟩, l⟩
  | loc i =>
    have S' : StW G C ow r (T ++ T2) s H := by simpa [pushR] using S
    refine ⟨⟨ow, ?_⟩, l⟩
    have z : StW G C ow r T s H := S'.drop
    simpa [pushR] using z

def CurOk (G : GX) (C : Fc) (J : It) (items : List D) (tk : Nat → List (D × V)) : Prop :=
  (∀ (i : Nat) d r T s H, items[i]? = some d → StOk G C r (T ++ tk i) s H → J.go i H ∧ ∀ x H', J.yld i H x H' → StOk G C r (T ++ tk (i + 1) ++ [(d, x)]) s H') ∧
    ∀ r T s H, StOk G C r (T ++ tk items.length) s H → J.stop items.length H
inductive IO where
  | ok (ds : List D) (r : Rho) | exc (c : Nat) (r : Rho) | bad
abbrev Iv := Rho → IO
def tVI (G : GX) (C : Fc) (W : WX) (f : Iv) : TI := fun s H R => ∃ r T, StOk G C r T s H ∧ match f r with
  | .ok ds r' => ∀ J H' tk, CurOk G C J ds tk → StOk G C r' (T ++ tk 0) s H' → R J H'
  | .exc c r' => ∀ H', StOk G C r' T s H' → W (.ref (G c)) none s H'
  | .bad => False
abbrev VI (X : Cx) (G : GX) (C : Fc) (W : WX) (tg e : Expr) (f : Iv) : Prop := PI X tg e (tVI G C W f)
theorem PI.imp {tg e : Expr} {t t' : TI} (h : PI X tg e t) (i : ∀ s H Q, t' s H Q → t s H Q) : PI X tg e t' := ⟨fun pins s σ H R I w => h.run pins s σ H R I (i _ _ _ w)⟩

def forL (t : Tg) (f : Sv) : List D → Rho → SO
  | [], r => .nx r
  | d :: ds, r => match tgt t d r with
    | none => .bad
    | some r1 => (match f r1 with
      | .nx r2 => forL t f ds r2
      | .ct r2 => forL t f ds r2
      | .bk r2 => .nx r2
      | o => o)
def cFor (t : Tg) (fi : Iv) (f : Sv) : Sv := fun r => match fi r with
  | .ok ds r1 => forL t f ds r1
  | .exc c r1 => .exc c r1
  | .bad => .bad
theorem vs_for {tg iter : Expr} {body : List Stmt} {fi : Iv} {t : Tg} {pos : Pos} (hp : PassesOwn (model X.prog X.w) X.A X.env X.xe) (hc : X.calm = true) (hi : VI X G C W tg iter fi) (hg : VG X G C tg t) (hb : VSs X G C W body f)
    (hs : ∀ x, foldedSetIterable iter X.env x = pure x := by intro _; rfl) : VS X G C W (.For tg iter body [] pos) (cFor t fi f) := by
  refine PS.imp (ps_for hp hc hi hg hb hs) fun D s H h => ?_
  obtain ⟨r, T, S, h⟩ := h
  refine ⟨r, T, S, ?_⟩
  unfold cFor at h
  cases e : fi r with
  | exc c r1 => rw [e] at h; exact fun H' S' => h s H' S'
  | bad => rw [e] at h; exact h.elim
  | ok ds r1 =>
    rw [e] at h
    simp only at h
    intro J H1 tk hk S1
    refine ⟨fun i m s' H' => m = ds.length - i ∧ i ≤ ds.length ∧ ∃ r', StOk G C r' (T ++ tk i) s' H' ∧ GoesS G C W T D (forL t f (ds.drop i) r'), ⟨ds.length, by simp, Nat.zero_le _, r1, S1, by simpa using h⟩, ?_⟩
    rintro i m s' H' ⟨rfl, hi', r', S', h'⟩
    by_cases hlt : i < ds.length
    · have ed : ds[i]? = some ds[i] := List.getElem?_eq_getElem hlt
      obtain ⟨k1, k2⟩ := hk.1 i ds[i] r' T s' H' ed S'
      rw [List.drop_eq_getElem_cons hlt] at h'
      refine .inr ⟨k1, fun s2 H2 => ∃ r2, StOk G C r2 (T ++ tk (i + 1)) s2 H2 ∧ GoesS G C W T D (forL t f (ds.drop (i + 1)) r2), fun s2 H2 n2 => ⟨ds.length - (i + 1), by omega, rfl, hlt, n2⟩, fun x H2 y => ?_⟩
      have S2 := k2 x H2 y
      refine ⟨r', T ++ tk (i + 1), ds[i], S2, ?_⟩
      unfold forL at h'
      cases e1 : tgt t ds[i] r' with
      | none => simp only [e1] at h'; exact h'.elim
      | some r2 =>
        simp only [e1] at h' ⊢
        intro s3 H3 S3 _
        refine ⟨r2, T ++ tk (i + 1), S3, ?_⟩
        cases e2 : f r2 with
        | nx r3 => simp only [e2] at h'; exact fun s4 H4 S4 => ⟨r3, S4, h'⟩
        | ct r3 => simp only [e2] at h'; exact fun s4 H4 S4 => ⟨r3, S4, h'⟩
        | bk r3 => simp only [e2] at h'; exact fun s4 H4 S4 => h' s4 H4 S4.drop
        | rt x r3 => simp only [e2] at h'; exact fun s4 v H4 P4 => h' s4 v H4 P4.slide
        | exc c r3 => simp only [e2] at h'; exact fun s4 H4 S4 => h' s4 H4 S4.drop
        | bad => simp only [e2] at h'; exact h'.elim
    · have ei : i = ds.length := by omega
      subst ei
      rw [List.drop_length] at h'
      exact .inl ⟨hk.2 r' T s' H' S', h' s' H' S'.drop⟩

def whileL (ft : Ev) (f : Sv) : Nat → Rho → SO
  | 0, _ => .bad
  | n + 1, r => (ft r).st fun x r1 => match x with
    | .val (.bl true) => (match f r1 with
      | .nx r2 => whileL ft f n r2
      | .ct r2 => whileL ft f n r2
      | .bk r2 => .nx r2
      | o => o)
    | .val (.bl false) => .nx r1
    | _ => .bad
def takenAt (ow : Ow) (n i : Nat) : Ow := fun a => match ow a with
  | some ⟨.tm j, p⟩ => if j = n then (match p with
    | k :: p' => if k = i then some ⟨.tm (n + 1), p'⟩ else some ⟨.tm j, p⟩
    | [] => some ⟨.tm j, p⟩) else some ⟨.tm j, p⟩
  | x => x
def leftAt (ds : List D) (i : Nat) : List D := List.replicate i .any ++ ds.drop i
theorem leftAt_get {ds : List D} {i j : Nat} (hi : i ≤ ds.length) : (leftAt ds i)[j]? = if j < i then some .any else ds[j]? := by
  unfold leftAt
  by_cases h : j < i
  · rw [if_pos h, List.getElem?_append_left (by simpa using h)]
    simp [h]
  · rw [if_neg h, List.getElem?_append_right (by simp; omega), List.length_replicate, List.getElem?_drop]
    congr 1; omega
theorem leftAt_length {ds : List D} {i : Nat} (hi : i ≤ ds.length) : (leftAt ds i).length = ds.length := by
  unfold leftAt; simp; omega
theorem StW.take1 {k : Kd} {o : Bool} {ds : List D} {i : Nat} {d : D} {v : V} (S : StW G C ow r (T ++ [(.node k o (leftAt ds i), v)]) s H) (hd : ds[i]? = some d) :
    ∃ a vs x, v = .ref a ∧ Holds G H a k vs ∧ vs[i]? = some x ∧ StW G C (takenAt ow T.length i) r (T ++ [(.node k o (leftAt ds (i + 1)), v)] ++ [(d, x)]) s H := by
  have hi : i < ds.length := (List.getElem?_eq_some_iff.mp hd).1
  obtain ⟨a, vs, ev, h1, h2, h3⟩ := S.last
  have hl := h3.length
  rw [leftAt_length (by omega)] at hl
  obtain ⟨x, x1, x2⟩ := h3.get i d (by rw [leftAt_get (by omega), if_neg (by omega)]; exact hd)
  refine ⟨a, vs, x, ev, h1, x1, S.len, fun i' d q => ?_, fun j d' v' q => ?_, S.old, fun b l q => ?_, fun b q => ?_, fun b l q => ?_, S.pin, S.tabs⟩
  · obtain ⟨v', z1, z2⟩ := S.sl i' d q
    refine ⟨v', z1, Rep.mono (l := ⟨.sl i', []⟩) d (fun _ _ z _ => z) (fun _ _ z _ => z) (fun a o _ n => by unfold takenAt; rw [n]) (fun a o q _ n => ?_) z2⟩
    have n' : ow a = some ⟨.sl i', [] ++ q⟩ := n
    unfold takenAt
    rw [n']
    rfl
  · by_cases hj : j < T.length
    · rw [List.append_assoc, List.getElem?_append_left hj] at q
      have z := S.tm j d' v' (by rw [List.getElem?_append_left hj]; exact q)
      refine Rep.mono (l := ⟨.tm j, []⟩) d' (fun _ _ z _ => z) (fun _ _ z _ => z) (fun a o _ n => by unfold takenAt; rw [n]) (fun a o q _ n => ?_) z
      have n' : ow a = some ⟨.tm j, [] ++ q⟩ := n
      unfold takenAt
      rw [n']
      have : ¬ j = T.length := by omega
      simp [Loc.app, this]
    · rw [List.append_assoc, List.getElem?_append_right (by omega)] at q
      rcases (show j - T.length = 0 ∨ j - T.length = 1 by
        have := (List.getElem?_eq_some_iff.mp q).1
        simp at this; omega) with e | e
      · rw [e] at q
        simp at q
        obtain ⟨e1, e2⟩ := q
        subst e1; subst e2
        have ej : j = T.length := by omega
        subst ej
        refine ⟨a, vs, ev, h1, ?_, Reps.of_get (by rw [leftAt_length (by omega)]; exact hl) fun m dm vm q1 q2 => ?_⟩
        · rcases h2.cases with hk | h2
          · exact .ofR hk
          refine .mk ?_
          cases o with
          | true =>
            have n' : ow a = some ⟨.tm T.length, []⟩ := by simpa using h2
            unfold takenAt; rw [n']; simp
          | false =>
            have n' : ow a = none := by simpa using h2
            unfold takenAt; rw [n']; simp
        · rw [leftAt_get (by omega)] at q1
          by_cases hm : m < i + 1
          · rw [if_pos hm] at q1
            cases q1
            trivial
          · rw [if_neg hm] at q1
            obtain ⟨vm', z1, z2⟩ := h3.get m dm (by rw [leftAt_get (by omega), if_neg (by omega)]; exact q1)
            rw [q2] at z1
            cases z1
            refine Rep.mono (l := Loc.sub ⟨.tm T.length, []⟩ (0 + m)) dm (fun _ _ z _ => z) (fun _ _ z _ => z) (fun a o _ n => by unfold takenAt; rw [n]) (fun a o q _ n => ?_) z2
            have n' : ow a = some ⟨.tm T.length, m :: q⟩ := by rw [n]; simp [Loc.sub, Loc.app]
            unfold takenAt
            rw [n']
            have : ¬ m = i := by omega
            simp [Loc.app, Loc.sub, this]
      · rw [e] at q
        simp at q
        obtain ⟨e1, e2⟩ := q
        subst e1; subst e2
        have ej : j = T.length + 1 := by omega
        subst ej
        refine Rep.mono (l := Loc.sub ⟨.tm T.length, []⟩ (0 + i)) d (fun _ _ z _ => z) (fun _ _ z _ => z) (fun a o _ n => by unfold takenAt; rw [n]) (fun a o q _ n => ?_) x2
        have n' : ow a = some ⟨.tm T.length, i :: q⟩ := by rw [n]; simp [Loc.sub, Loc.app]
        unfold takenAt
        rw [n']
        simp [Loc.app]
  · cases e : ow b with
    | none => unfold takenAt at q; rw [e] at q; cases q
    | some m =>
      obtain ⟨mb, mp⟩ := m
      cases mb with
      | fo =>
        unfold takenAt at q; rw [e] at q; cases q
        exact .inl rfl
      | sl j => exact (S.own b _ e).elim (fun z => nomatch z) .inr
      | tm j => exact (S.own b _ e).elim (fun z => nomatch z) .inr
  · have z := S.fo b q
    unfold takenAt; rw [z]
  · cases e : ow b with
    | none => unfold takenAt at q; rw [e] at q; cases q
    | some m => exact S.mu b m e
theorem leftAt_zero (ds : List D) : leftAt ds 0 = ds := by unfold leftAt; simp
theorem cur_seq {K : PySem.W.Frag} {k : Kd} {o : Bool} {ds : List D} {a : Addr} (hk : ∀ H vs, Holds G H a k vs → SqL K H a vs) : CurOk G C (Itl K a) ds fun i => [(.node k o (leftAt ds i), .ref a)] := by
  refine ⟨fun i d r T s H hd S => ?_, fun r T s H S => ?_⟩
  · obtain ⟨ow, S⟩ := S
    obtain ⟨a', vs, x, ev, h1, hx, S'⟩ := S.take1 hd
    cases ev
    refine ⟨⟨vs, x, hk H vs h1, hx⟩, fun x' H' y => ?_⟩
    obtain ⟨e, y⟩ := y
    subst e
    have e2 := y vs (hk _ vs h1)
    rw [hx] at e2
    cases e2
    exact ⟨_, S'⟩
  · obtain ⟨ow, S⟩ := S
    obtain ⟨a', vs, ev, h1, h2, h3⟩ := S.last
    cases ev
    refine ⟨vs, hk H vs h1, ?_⟩
    rw [← h3.length, leftAt_length (Nat.le_refl _)]
    exact Nat.le_refl _
def iLst (fa : Ev) : Iv := fun r => match cSet fa r with
  | .ok (.val (.node .lst _ ds)) r1 => .ok ds r1
  | .ok (.val (.node .rd _ ds)) r1 => .ok ds r1
  | .exc c r1 => .exc c r1
  | _ => .bad
theorem vi_list {tg e : Expr} (hK : G.K = X.K) (he : VE X G C W e fa) : VI X G C W tg e (iLst fa) := by
  refine PI.imp (pi_list (ve_set he)) fun s H R h => ?_
  obtain ⟨r, T, S, h⟩ := h
  refine ⟨r, T, S, ?_⟩
  unfold iLst at h
  cases e1 : cSet fa r with
  | exc c r1 => rw [e1] at h; exact h
  | bad => rw [e1] at h; exact h
  | ok x r1 =>
    rw [e1] at h
    intro v H' P
    split at h
    · rename_i ds r' e'
      split at e'
      · rename_i o ds' r'' e''
        cases e'; cases e''
        obtain ⟨ow, S'⟩ := P.1
        obtain ⟨a, vs, ev, h1, h2, h3⟩ := S'.last
        subst ev
        refine ⟨a, rfl, ⟨vs, SqL.of h1⟩, h _ _ _ (cur_seq (k := .lst) (o := o) fun _ _ z => SqL.of z) ?_⟩
        rw [leftAt_zero]
        exact ⟨ow, S'⟩
      · rename_i o ds' r'' e''
        cases e'; cases e''
        obtain ⟨ow, S'⟩ := P.1
        obtain ⟨a, vs, ev, h1, h2, h3⟩ := S'.last
        subst ev
        refine ⟨a, rfl, ⟨vs, hK ▸ h1.seq⟩, h _ _ _ (cur_seq (k := .rd) (o := o) fun _ _ z => hK ▸ z.seq) ?_⟩
        rw [leftAt_zero]
        exact ⟨ow, S'⟩
      · rename_i e''; cases e''
      · cases e'
    · rename_i c r' e'
      split at e'
      · cases e'
      · cases e'
      · rename_i e''; cases e''
      · cases e'
    · exact h.elim
end
end VL

namespace VL
open PySem PySem.Spec PyProof.Rows L2
section
variable {X : Cx} {G : GX} {C : Fc} {W : WX} {ow ow' : Ow} {r : Rho} {T T1 T2 : List (D × V)} {s : L2.St} {H H' : Hp} {fa fb fc : Ev} {f g : Sv} {fs : Av}

def rngD (lo c : Int) (n : Nat) : List D := (List.range n).map fun i => .int (lo + (i : Nat) * c)
theorem rngD_get {lo c : Int} {n i : Nat} {d : D} (h : (rngD lo c n)[i]? = some d) : i < n ∧ d = .int (lo + (i : Nat) * c) := by
  unfold rngD at h
  rw [List.getElem?_map] at h
  cases e : (List.range n)[i]? with
  | none => rw [e] at h; cases h
  | some j =>
    rw [e] at h
    cases h
    obtain ⟨h1, h2⟩ := List.getElem?_eq_some_iff.mp e
    simp at h1 h2
    subst h2
    exact ⟨h1, rfl⟩
theorem rngD_length (lo c : Int) (n : Nat) : (rngD lo c n).length = n := by simp [rngD]
theorem cur_rng {lo : Int} {n : Nat} : CurOk G C (Itr lo n) (rngD lo 1 n) fun _ => [] := by
  refine ⟨fun i d r T s H hd S => ?_, fun r T s H S => by rw [rngD_length]; exact Nat.le_refl n⟩
  obtain ⟨h1, h2⟩ := rngD_get hd
  subst h2
  refine ⟨h1, fun x H' y => ?_⟩
  obtain ⟨e, y⟩ := y
  subst e; subst y
  rw [Int.mul_one]
  exact S.pushI _
theorem cur_rngC {lo c : Int} {n : Nat} : CurOk G C (Itc lo c n) (rngD lo c n) fun _ => [] := by
  refine ⟨fun i d r T s H hd S => ?_, fun r T s H S => by rw [rngD_length]; exact Nat.le_refl n⟩
  obtain ⟨h1, h2⟩ := rngD_get hd
  subst h2
  refine ⟨h1, fun x H' y => ?_⟩
  obtain ⟨e, y⟩ := y
  subst e; subst y
  exact S.pushI _
def within (i : Int) : Bool := decide (i.natAbs < 2 ^ 62)
theorem within_of {i : Int} (h : within i = true) : -(2 ^ 62) ≤ i ∧ i < 2 ^ 62 := by
  have h : i.natAbs < 2 ^ 62 := of_decide_eq_true h
  omega
def turns (i j c : Int) : Nat := (Builtin.Range.rangeSize i j c).toNat
def rngI1 (r : Rho) (xs : List R) : IO := match opds r xs with
  | some [.int j] => if within j = true then .ok (rngD 0 1 j.toNat) r else .bad
  | _ => .bad
def rngI2 (r : Rho) (xs : List R) : IO := match opds r xs with
  | some [.int i, .int j] => if (within i && within j) = true then .ok (rngD i 1 (j - i).toNat) r else .bad
  | _ => .bad
def rngI3 (r : Rho) (xs : List R) : IO := match opds r xs with
  | some [.int i, .int j, .int c] => if (decide (c ≠ 0) && decide (c.natAbs < 1073741824) && Builtin.Range.small i j c) = true then .ok (rngD i c (turns i j c)) r else .bad
  | _ => .bad
def iRng (g : Rho → List R → IO) (fs : Av) : Iv := fun r => match fs r with
  | .ok xs r1 => g r1 xs
  | .exc c r1 => .exc c r1
  | .bad => .bad
theorem opds_reps : ∀ {xs : List R} {vs : List V} {T : List (D × V)} {ds : List D}, StW G C ow r (T ++ pushs xs vs) s H → LocsOk s xs vs → opds r xs = some ds → ds.all atom = true → ∀ l i, Reps G ow H ds l i vs
  | [], [], _, ds, _, _, e, _, l, i => by cases e; exact rfl
  | [], _ :: _, _, _, _, l, _, _, _, _ => l.elim
  | _ :: _, [], _, _, _, l, _, _, _, _ => l.elim
  | x :: xs, v :: vs, T, ds, S, l, e, a, l', i => by
    unfold opds at e
    cases e1 : opd r x with
    | none => rw [e1] at e; cases e
    | some d =>
      cases e2 : opds r xs with
      | none => rw [e1, e2] at e; cases e
      | some ds' =>
        rw [e1, e2] at e
        cases e
        rw [List.all_cons, Bool.and_eq_true] at a
        have S' : StW G C ow r (T ++ (pushR x v ++ pushs xs vs)) s H := S
        exact ⟨v, vs, rfl, (opd_rep S' l.1 e1).of_atom a.1, opds_reps (T := T ++ pushR x v) (by rw [List.append_assoc]; exact S') l.2 e2 a.2 l' (i + 1)⟩
def GoesI (G : GX) (C : Fc) (W : WX) (T : List (D × V)) (s : L2.St) (R : It → Hp → Prop) (o : IO) : Prop := match o with
  | .ok ds r' => ∀ J H' tk, CurOk G C J ds tk → StOk G C r' (T ++ tk 0) s H' → R J H'
  | .exc c r' => ∀ H', StOk G C r' T s H' → W (.ref (G c)) none s H'
  | .bad => False
theorem tV_rng {gg : Rho → List R → IO} {R : It → Hp → Prop} {K : List V → Hp → Prop} (S : StOk G C r T s H) (h : GoesI G C W T s R (iRng gg fs r)) (hk : ∀ xs vs r1 H1, StOk G C r1 (T ++ pushs xs vs) s H1 → LocsOk s xs vs → GoesI G C W T s R (gg r1 xs) → K vs H1) : tVA G C W fs s H K := by
  refine ⟨r, T, S, ?_⟩
  unfold iRng at h
  cases e : fs r with
  | ok xs r1 => rw [e] at h; exact fun vs H1 S1 l1 => hk xs vs r1 H1 S1 l1 h
  | exc c r1 => rw [e] at h; exact h
  | bad => rw [e] at h; exact h
theorem vi_range1 {tg a : Expr} {p pos : Pos} (hg : Gl X "range") (hm : X.mg "range" = none) (ha : VA X G C W [a] fs) (hs : starEach [a] X.env = [(false, eval a X.env)] := by rfl) : VI X G C W tg (.Call (.Name "range" p) [a] [] pos) (iRng rngI1 fs) := by
  refine PI.imp (pi_range1 hg hm ha hs) fun s H R h => ?_
  obtain ⟨r, T, S, h⟩ := h
  refine tV_rng S h fun xs vs r1 H1 S1 l1 g => ?_
  obtain ⟨ow, S1⟩ := S1
  unfold rngI1 at g
  split at g
  · rename_i j e1
    split at g
    · rename_i hw
      obtain ⟨v, ws, ev, h1, h2⟩ := opds_reps S1 l1 e1 rfl ⟨.fo, []⟩ 0
      have e2 : ws = [] := h2
      subst e2
      obtain ⟨w1, w2⟩ := within_of hw
      exact ⟨j, by rw [ev, rep_int h1], w1, w2, g _ _ _ cur_rng ⟨ow, by simpa using S1.drop⟩⟩
    · exact g.elim
  · exact g.elim
theorem rangeSize_nonneg (i j c : Int) : 0 ≤ Builtin.Range.rangeSize i j c ∨ c = 0 := by
  by_cases h0 : c = 0
  · exact .inr h0
  · refine .inl ?_
    unfold Builtin.Range.rangeSize
    split
    · split
      · have := Int.ediv_nonneg (show (0 : Int) ≤ j - i - 1 by omega) (show (0 : Int) ≤ c by omega)
        omega
      · omega
    · split
      · have := Int.ediv_nonneg (show (0 : Int) ≤ i - j - 1 by omega) (show (0 : Int) ≤ -c by omega)
        omega
      · omega
theorem vi_range3 {tg a b c : Expr} {p pos : Pos} (hg : Gl X "range") (hm : X.mg "range" = none) (ha : VA X G C W [a, b, c] fs)
    (hs : starEach [a, b, c] X.env = (false, eval a X.env) :: starEach [b, c] X.env := by rfl) (hpl : (backTo pos (starEach [b, c] X.env)).any (·.1) = false := by rfl) : VI X G C W tg (.Call (.Name "range" p) [a, b, c] [] pos) (iRng rngI3 fs) := by
  refine PI.imp (pi_range3 hg hm ha hs hpl) fun s H R h => ?_
  obtain ⟨r, T, S, h⟩ := h
  refine tV_rng S h fun xs vs r1 H1 S1 l1 g => ?_
  obtain ⟨ow, S1⟩ := S1
  unfold rngI3 at g
  split at g
  · rename_i i j c e1
    split at g
    · rename_i hw
      obtain ⟨v, ws, ev, h1, v2, ws2, ev2, h2, v3, ws3, ev3, h3, h4⟩ := opds_reps S1 l1 e1 rfl ⟨.fo, []⟩ 0
      have e2 : ws3 = [] := h4
      subst e2
      simp only [Bool.and_eq_true, decide_eq_true_eq] at hw
      obtain ⟨⟨c0, c1⟩, c2⟩ := hw
      have nn : 0 ≤ Builtin.Range.rangeSize i j c := (rangeSize_nonneg i j c).elim id fun z => absurd z c0
      exact ⟨i, j, c, turns i j c, by rw [ev, ev2, ev3, rep_int h1, rep_int h2, rep_int h3], ⟨c0, c1, c2, by unfold turns; omega⟩, g _ _ _ cur_rngC ⟨ow, by simpa using S1.drop⟩⟩
    · exact g.elim
  · exact g.elim

def W0 : WX := fun _ _ _ _ => False
def wipeR (r : Rho) : List Nat → Rho
  | [] => r
  | v :: vs => (wipeR r vs).set v none
inductive LO where
  | ok (acc : List D) (r : Rho) | bad
def tstR (fc : Option Ev) : Ev := fun r => match fc with
  | none => .ok (.val (.bl true)) r
  | some f => f r
def lcL (t : Tg) (fc : Option Ev) (fe : Ev) (vs : List Nat) : List D → List D → Rho → LO
  | [], acc, r => .ok acc r
  | d :: ds, acc, r => match tgt t d r with
    | none => .bad
    | some r1 => (match tstR fc r1 with
      | .ok (.val (.bl true)) r2 => (match cSet fe r2 with
        | .ok (.val e) r3 => if acc.length < 16777216 then lcL t fc fe vs ds (acc ++ [e]) (wipeR r3 vs) else .bad
        | _ => .bad)
      | .ok (.val (.bl false)) r2 => lcL t fc fe vs ds acc (wipeR r2 vs)
      | _ => .bad)
def backR (r0 r : Rho) : List Nat → Rho
  | [] => r
  | v :: vs => (backR r0 r vs).set v (match r0[v]? with
    | some (some d) => if atom d = true then (match d with
      | .exc _ => none
      | .any => none
      | d => some d) else none
    | _ => none)
def cLc (vs : List Nat) (t : Tg) (fi : Iv) (fc : Option Ev) (fe : Ev) : Ev := fun r => match fi r with
  | .ok ds r1 => (match lcL t fc fe vs ds [] (wipeR r1 vs) with
    | .ok acc r2 => .ok (.val (.node .lst true acc)) (backR r1 r2 vs)
    | .bad => .bad)
  | .exc c r1 => .exc c r1
  | .bad => .bad
theorem StW.wipes (S : StW G C ow r T s H) : ∀ {vs : List Nat}, (∀ p ∈ C.pin, p.1 ∉ vs) → StW G C ow (wipeR r vs) T (wipe s vs) H
  | [], _ => S
  | v :: vs, hp => by
    have S' := S.wipes (vs := vs) fun p hm z => hp p hm (List.mem_cons_of_mem _ z)
    have hv : ∀ p ∈ C.pin, p.1 ≠ v := fun p hm e => hp p hm (by rw [e]; exact List.mem_cons_self)
    show StW G C ow ((wipeR r vs).set v none) T ((wipe s vs).set v none) H
    refine ⟨by simpa using S'.len, fun j d q => ?_, S'.tm, S'.old, S'.own, S'.fo, S'.mu, fun p hm => ?_, S'.tabs⟩
    · by_cases hj : j = v
      · subst hj
        by_cases hlt : j < (wipeR r vs).length
        · rw [List.getElem?_set_self hlt] at q; cases q
        · rw [List.getElem?_eq_none (by simpa using hlt)] at q; cases q
      · rw [List.getElem?_set_ne (Ne.symm hj)] at q
        obtain ⟨v', h1, h2⟩ := S'.sl j d q
        exact ⟨v', by rw [List.getElem?_set_ne (Ne.symm hj)]; exact h1, h2⟩
    · rw [List.getElem?_set_ne (Ne.symm (hv p hm))]
      exact S'.pin p hm
theorem wipe_out' {s : L2.St} {i : Nat} : ∀ {vs : List Nat}, i ∉ vs → (wipe s vs)[i]? = s[i]?
  | [], _ => rfl
  | v :: vs, h => by
    have h1 : v ≠ i := fun e => h (by rw [e]; exact List.mem_cons_self)
    have h2 : i ∉ vs := fun m => h (List.mem_cons_of_mem _ m)
    unfold wipe
    rw [List.getElem?_set_ne h1]
    exact wipe_out' h2
theorem wipe_in {s : L2.St} {i : Nat} (hi : i < s.length) : ∀ {vs : List Nat}, i ∈ vs → (wipe s vs)[i]? = some none
  | v :: vs, h => by
    unfold wipe
    by_cases hv : v = i
    · subst hv
      rw [List.getElem?_set_self (by rw [wipe_length]; exact hi)]
    · rw [List.getElem?_set_ne hv]
      exact wipe_in hi ((List.mem_cons.mp h).resolve_left (fun e => hv e.symm))
theorem wipe_but {is vs : List Nat} {s s' : L2.St} (b : But is (wipe s vs) s') (h : ∀ i ∈ is, i ∈ vs) : wipe s' vs = wipe s vs := by
  apply List.ext_getElem?
  intro j
  by_cases hj : j ∈ vs
  · by_cases hlt : j < s.length
    · rw [wipe_in hlt hj, wipe_in (by rw [b.1, wipe_length]; exact hlt) hj]
    · rw [List.getElem?_eq_none (by rw [wipe_length, b.1, wipe_length]; omega), List.getElem?_eq_none (by rw [wipe_length]; omega)]
  · rw [wipe_out' hj, b.2 j (fun z => hj (h j z))]
theorem StW.back {r0 : Rho} {T0 : List (D × V)} {ow0 : Ow} {H0 : Hp} {vs : List Nat} (S0 : StW G C ow0 r0 T0 s H0) (S : StW G C ow (wipeR r vs) T (wipe s vs) H) : StW G C ow (backR r0 (wipeR r vs) vs) T s H := by
  have blen : ∀ ws : List Nat, (backR r0 (wipeR r vs) ws).length = (wipeR r vs).length := by
    intro ws
    induction ws with
    | nil => rfl
    | cons w ws ih => unfold backR; rw [List.length_set, ih]
  have bget : ∀ (ws : List Nat) (j : Nat) (d : D), (backR r0 (wipeR r vs) ws)[j]? = some (some d) → (wipeR r vs)[j]? = some (some d) ∨ (r0[j]? = some (some d) ∧ atom d = true ∧ (∀ c, d ≠ .exc c) ∧ d ≠ .any) := by
    intro ws
    induction ws with
    | nil => exact fun j d q => .inl q
    | cons w ws ih =>
      intro j d q
      unfold backR at q
      by_cases hj : w = j
      · subst hj
        by_cases hlt : w < (backR r0 (wipeR r vs) ws).length
        · rw [List.getElem?_set_self hlt] at q
          have q := Option.some.inj q
          split at q
          · rename_i d' e
            split at q
            · rename_i a
              split at q
              · cases q
              · cases q
              · rename_i n1 n2
                cases q
                exact .inr ⟨e, a, fun c z => n1 c z, fun z => n2 z⟩
            · cases q
          · cases q
        · rw [List.getElem?_eq_none (by simpa using hlt)] at q; cases q
      · rw [List.getElem?_set_ne hj] at q
        exact ih j d q
  refine ⟨by rw [blen, S.len, wipe_length], fun j d q => ?_, S.tm, S.old, S.own, S.fo, S.mu, fun p hm => ?_, S.tabs⟩
  · rcases bget vs j d q with q | ⟨q, a, n1, n2⟩
    · obtain ⟨v, h1, h2⟩ := S.sl j d q
      exact ⟨v, (wipe_some h1).1, h2⟩
    · obtain ⟨v, h1, h2⟩ := S0.sl j d q
      refine ⟨v, h1, ?_⟩
      cases d with
      | any => exact absurd rfl n2
      | exc c => exact absurd rfl (n1 c)
      | node k o xs => cases a
      | _ => exact h2
  · exact (wipe_some (S.pin p hm)).1
def appAt (ow : Ow) (n k : Nat) : Ow := fun a => match ow a with
  | some ⟨.tm j, p⟩ => if j = n + 1 then some ⟨.tm n, k :: p⟩ else some ⟨.tm j, p⟩
  | x => x
theorem StW.appT {acc : List D} {d : D} {a : Addr} {v : V} (S : StW G C ow r (T ++ [(.node .lst true acc, .ref a), (d, v)]) s H) : ∃ vs, H a = some (.lst vs) ∧ vs.length = acc.length ∧ StW G C (appAt ow T.length acc.length) r (T ++ [(.node .lst true (acc ++ [d]), .ref a)]) s (upd H a (.lst (vs ++ [v]))) := by
  have z0 := S.tm T.length (.node .lst true acc) (.ref a) (by simp)
  obtain ⟨a', vs, ev, h1, h2, h3⟩ := z0
  cases ev
  have h1 : H a = some (.lst vs) := h1
  have h2 : ow a = some ⟨.tm T.length, []⟩ := by simpa [OwnAt] using h2
  have zd := S.tm (T.length + 1) d v (by rw [List.getElem?_append_right (by omega)]; simp)
  have ne : ∀ (b : Addr) (l : Loc) (q : List Nat), ow b = none ∨ (∃ q, ow b = some (l.app q)) → l.b ≠ .tm T.length ∨ l.p ≠ [] → b ≠ a := fun b l _ hb hl e => by
    subst e
    rw [h2] at hb
    rcases hb with hb | ⟨q, hb⟩
    · cases hb
    · have hb := Option.some.inj hb
      unfold Loc.app at hb
      injection hb with e1 e2
      rcases hl with hl | hl
      · exact hl e1.symm
      · exact hl (List.append_eq_nil_iff.mp e2.symm).1
  have exn : ∀ (b : Addr) (o : HO), H b = some o → ¬ OwnO (some o) → upd H a (.lst (vs ++ [v])) b = some o := fun b o z n => by
    rw [upd_ne (fun e => by rw [e, h1] at z; cases z; exact n trivial)]; exact z
  refine ⟨vs, h1, h3.length.symm, S.len, fun i d' q => ?_, fun j d' v' q => ?_, fun b o n q => ?_, fun b l q => ?_, fun b q => ?_, fun b l q => ?_, S.pin, tabs_own S.tabs h1 trivial⟩
  · obtain ⟨v', z1, z2⟩ := S.sl i d' q
    refine ⟨v', z1, Rep.mono (l := ⟨.sl i, []⟩) d' (fun b o z y => by rw [upd_ne (ne b ⟨.sl i, []⟩ [] y (.inl (fun z => nomatch z)))]; exact .inl z) (fun b o z n => exn b o z n) (fun a o _ n => by unfold appAt; rw [n]) (fun a o q _ n => ?_) z2⟩
    have n' : ow a = some ⟨.sl i, [] ++ q⟩ := n
    unfold appAt
    rw [n']
    rfl
  · by_cases hj : j < T.length
    · rw [List.getElem?_append_left hj] at q
      have z := S.tm j d' v' (by rw [List.getElem?_append_left hj]; exact q)
      refine Rep.mono (l := ⟨.tm j, []⟩) d' (fun b o z y => by rw [upd_ne (ne b ⟨.tm j, []⟩ [] y (.inl (fun z => by injection z with z; omega)))]; exact .inl z) (fun b o z n => exn b o z n) (fun a o _ n => by unfold appAt; rw [n]) (fun a o q _ n => ?_) z
      have n' : ow a = some ⟨.tm j, [] ++ q⟩ := n
      unfold appAt
      rw [n']
      have : ¬ j = T.length + 1 := by omega
      simp [Loc.app, this]
    · rw [List.getElem?_append_right (by omega)] at q
      have e : j = T.length := by
        have := (List.getElem?_eq_some_iff.mp q).1
        simp at this; omega
      subst e
      simp at q
      obtain ⟨e1, e2⟩ := q
      subst e1; subst e2
      refine ⟨a, vs ++ [v], rfl, upd_same, .mk ?_, Reps.of_get (by simp [h3.length]) fun m dm vm q1 q2 => ?_⟩
      · unfold appAt; rw [h2]; simp
      · by_cases hm : m < acc.length
        · rw [List.getElem?_append_left hm] at q1
          rw [List.getElem?_append_left (by rw [← h3.length]; exact hm)] at q2
          obtain ⟨vm', y1, y2⟩ := h3.get m dm q1
          rw [q2] at y1
          cases y1
          refine Rep.mono (l := Loc.sub ⟨.tm T.length, []⟩ (0 + m)) dm (fun b o z y => by rw [upd_ne (ne b (Loc.sub ⟨.tm T.length, []⟩ (0 + m)) [] y (.inr (by simp [Loc.sub])))]; exact .inl z) (fun b o z n => exn b o z n) (fun a o _ n => by unfold appAt; rw [n]) (fun a o q _ n => ?_) y2
          have n' : ow a = some ⟨.tm T.length, m :: q⟩ := by rw [n]; simp [Loc.sub, Loc.app]
          unfold appAt
          rw [n']
          simp [Loc.app, Loc.sub]
        · rw [List.getElem?_append_right (by omega)] at q1
          rw [List.getElem?_append_right (by rw [← h3.length]; omega), ← h3.length] at q2
          have em : m = acc.length := by
            have := (List.getElem?_eq_some_iff.mp q1).1
            simp at this; omega
          subst em
          simp at q1 q2
          subst q1; subst q2
          refine Rep.mono (l := ⟨.tm (T.length + 1), []⟩) d (fun b o z y => by rw [upd_ne (ne b ⟨.tm (T.length + 1), []⟩ [] y (.inl (fun z => by injection z with z; omega)))]; exact .inl z) (fun b o z n => exn b o z n) (fun a o _ n => by unfold appAt; rw [n]) (fun a o q _ n => ?_) zd
          have n' : ow a = some ⟨.tm (T.length + 1), [] ++ q⟩ := n
          unfold appAt
          rw [n']
          simp [Loc.app, Loc.sub]
  · by_cases hb : b = a
    · subst hb
      have z := S.old b o n q
      rcases S.own b _ h2 with z2 | z2 | z2
      · cases z2
      · rw [z2] at q; cases q
      · exact absurd z2 n
    · rw [upd_ne hb]; exact S.old b o n q
  · cases e : ow b with
    | none => unfold appAt at q; rw [e] at q; cases q
    | some m =>
      obtain ⟨mb, mp⟩ := m
      cases mb with
      | fo =>
        unfold appAt at q; rw [e] at q; cases q
        exact .inl rfl
      | sl j => exact (S.own b _ e).elim (fun z => nomatch z) .inr
      | tm j => exact (S.own b _ e).elim (fun z => nomatch z) .inr
  · have z := S.fo b q
    unfold appAt; rw [z]
  · by_cases hb : b = a
    · subst hb; rw [upd_same]; trivial
    · rw [upd_ne hb]
      cases e : ow b with
      | none => unfold appAt at q; rw [e] at q; cases q
      | some m => exact S.mu b m e
def permT (ow : Ow) (f : Nat → Nat) : Ow := fun a => match ow a with
  | some ⟨.tm j, p⟩ => some ⟨.tm (f j), p⟩
  | x => x
theorem StW.perm {f : Nat → Nat} (S : StW G C ow r T1 s H) (hf : ∀ (j : Nat) (p : D × V), T2[j]? = some p → ∃ i, T1[i]? = some p ∧ f i = j) : StW G C (permT ow f) r T2 s H where
  len := S.len
  sl := fun i d q => by
    obtain ⟨v', z1, z2⟩ := S.sl i d q
    refine ⟨v', z1, Rep.mono (l := ⟨.sl i, []⟩) d (fun _ _ z _ => z) (fun _ _ z _ => z) (fun a o _ n => by unfold permT; rw [n]) (fun a o q _ n => ?_) z2⟩
    have n' : ow a = some ⟨.sl i, [] ++ q⟩ := n
    unfold permT
    rw [n']
    rfl
  tm := fun j d v q => by
    obtain ⟨i, h1, h2⟩ := hf j (d, v) q
    refine Rep.mono (l := ⟨.tm i, []⟩) d (fun _ _ z _ => z) (fun _ _ z _ => z) (fun a o _ n => by unfold permT; rw [n]) (fun a o q _ n => ?_) (S.tm i d v h1)
    have n' : ow a = some ⟨.tm i, [] ++ q⟩ := n
    unfold permT
    rw [n']
    simp [Loc.app, h2]
  old := S.old
  own := fun a l q => by
    cases e : ow a with
    | none => unfold permT at q; rw [e] at q; cases q
    | some m =>
      obtain ⟨mb, mp⟩ := m
      cases mb with
      | fo =>
        unfold permT at q; rw [e] at q; cases q
        exact .inl rfl
      | sl j => exact (S.own a _ e).elim (fun z => nomatch z) .inr
      | tm j => exact (S.own a _ e).elim (fun z => nomatch z) .inr
  fo := fun a q => by
    have z := S.fo a q
    unfold permT; rw [z]
  mu := fun a l q => by
    cases e : ow a with
    | none => unfold permT at q; rw [e] at q; cases q
    | some m => exact S.mu a m e
  pin := S.pin
  tabs := S.tabs
theorem StOk.swap {A B : List (D × V)} (S : StOk G C r (T ++ (A ++ B)) s H) : StOk G C r (T ++ (B ++ A)) s H := by
  obtain ⟨ow, S⟩ := S
  refine ⟨_, S.perm (f := fun i => if i < T.length then i else if i < T.length + A.length then i + B.length else i - A.length) fun j p q => ?_⟩
  by_cases h1 : j < T.length
  · refine ⟨j, ?_, if_pos h1⟩
    rw [List.getElem?_append_left h1] at q ⊢
    exact q
  · rw [List.getElem?_append_right (by omega)] at q
    by_cases h2 : j < T.length + B.length
    · rw [List.getElem?_append_left (by omega)] at q
      refine ⟨j + A.length, ?_, ?_⟩
      · rw [List.getElem?_append_right (by omega), List.getElem?_append_right (by omega), show j + A.length - T.length - A.length = j - T.length by omega]
        exact q
      · rw [if_neg (by omega), if_neg (by omega)]
        omega
    · rw [List.getElem?_append_right (by omega)] at q
      have hlt := (List.getElem?_eq_some_iff.mp q).1
      refine ⟨j - B.length, ?_, ?_⟩
      · rw [List.getElem?_append_right (by omega), List.getElem?_append_left (by omega), show j - B.length - T.length = j - T.length - B.length by omega]
        exact q
      · show (if j - B.length < T.length then j - B.length else if j - B.length < T.length + A.length then j - B.length + B.length else j - B.length - A.length) = j
        rw [if_neg (by omega), if_pos (by omega)]
        omega
abbrev VTs (X : Cx) (G : GX) (C : Fc) (W : WX) (ifs : List Expr) (fc : Option Ev) : Prop := PTs X ifs (tVT G C W (tstR fc))
theorem vts_nil : VTs X G C W [] none := by
  refine ⟨fun pins s σ H Q I h => pts_nil.run pins s σ H Q I ?_⟩
  obtain ⟨r, T, S, h⟩ := h
  exact h _ S
theorem vts_one {c : Expr} (h : VT X G C W c fc) : VTs X G C W [c] (some fc) := pts_one h
theorem lc_go {vs : List Nat} {t : Tg} {fi : Iv} {fc : Option Ev} {fe : Ev} {Q : VK} (hpin : ∀ p ∈ C.pin, p.1 ∉ vs) (ht : ∀ i ∈ t.slots, i ∈ vs) (h : tV G C W (cLc vs t fi fc fe) s H Q) :
    tLc (tVI G C W fi) (tVG G C t) (tVT G C W0 (tstR fc)) (tV G C W0 (cSet fe)) vs s H Q := by
  obtain ⟨r, T, S, h⟩ := h
  refine ⟨r, T, S, ?_⟩
  have h : Goes G C W T s Q (cLc vs t fi fc fe r) := h
  unfold cLc at h
  cases e : fi r with
  | exc c r1 => simp only [e] at h; exact h
  | bad => simp only [e] at h; exact h.elim
  | ok ds r1 =>
    simp only [e] at h
    intro J H1 tk hk S1 da hD
    have pins : ∀ {r' : Rho} {T' : List (D × V)} {s' : L2.St} {H' : Hp}, StOk G C r' T' s' H' → StOk G C (wipeR r' vs) T' (wipe s' vs) H' := fun {r' T' s' H'} ⟨ow', S'⟩ => ⟨ow', S'.wipes hpin⟩
    cases eL : lcL t fc fe vs ds [] (wipeR r1 vs) with
    | bad => rw [eL] at h; exact h.elim
    | ok acc r2 =>
      simp only [eL] at h
      -- the list is laid ahead of what is walked
      have S2 : StOk G C (wipeR r1 vs) (T ++ ([(.node .lst true [], .ref da)] ++ tk 0)) (wipe s vs) (upd H1 da (.lst [])) := by
        have z : StOk G C r1 ((T ++ tk 0) ++ [(.node .lst true [], .ref da)]) s (upd H1 da (.lst [])) := StOk.alloc (ds := []) (vs := []) true (by simpa using S1) rfl hD holds_lst (fun _ => trivial)
        rw [List.append_assoc] at z
        exact pins z.swap
      refine ⟨fun i m H' => m = ds.length - i ∧ i ≤ ds.length ∧ ∃ ac r', StOk G C (wipeR r' vs) (T ++ ([(.node .lst true ac, .ref da)] ++ tk i)) (wipe s vs) H' ∧ lcL t fc fe vs (ds.drop i) ac (wipeR r' vs) = .ok acc r2,
        ⟨ds.length, by simp, Nat.zero_le _, [], r1, S2, by simpa using eL⟩, ?_⟩
      rintro i m H' ⟨rfl, hi', ac, r', S', h'⟩
      rw [← List.append_assoc] at S'
      by_cases hlt : i < ds.length
      · have ed : ds[i]? = some ds[i] := List.getElem?_eq_getElem hlt
        obtain ⟨k1, k2⟩ := hk.1 i ds[i] _ _ _ H' ed S'
        rw [List.drop_eq_getElem_cons hlt] at h'
        refine .inr ⟨k1, fun H' => i + 1 ≤ ds.length ∧ ∃ ac r', StOk G C (wipeR r' vs) (T ++ ([(.node .lst true ac, .ref da)] ++ tk (i + 1))) (wipe s vs) H' ∧ lcL t fc fe vs (ds.drop (i + 1)) ac (wipeR r' vs) = .ok acc r2,
          fun H2 n2 => ⟨ds.length - (i + 1), by omega, rfl, n2.1, n2.2⟩, fun x H2 y => ?_⟩
        have S3 := k2 x H2 y
        refine ⟨_, _, ds[i], S3, ?_⟩
        unfold lcL at h'
        cases e1 : tgt t ds[i] (wipeR r' vs) with
        | none => simp only [e1] at h'; cases h'
        | some r3 =>
          simp only [e1] at h' ⊢
          intro s4 H4 S4 b4
          have hw : wipe s4 vs = wipe s vs := wipe_but b4 ht
          refine ⟨hw, _, _, S4, ?_⟩
          cases e2 : tstR fc r3 with
          | exc c r4 => simp only [e2] at h'; cases h'
          | bad => simp only [e2] at h'; cases h'
          | ok xb r4 =>
            simp only [e2] at h' ⊢
            cases xb with
            | loc _ => cases h'
            | val db =>
              cases db with
              | bl b =>
                cases b with
                | false =>
                  intro H5 S5
                  rw [if_neg Bool.false_ne_true]
                  have S6 := pins S5
                  rw [hw] at S6
                  rw [List.append_assoc] at S6
                  exact ⟨hlt, ac, r4, S6, h'⟩
                | true =>
                  intro H5 S5
                  rw [if_pos rfl]
                  refine ⟨_, _, S5, ?_⟩
                  simp only at h'
                  cases e3 : cSet fe r4 with
                  | exc c r5 => simp only [e3] at h'; cases h'
                  | bad => simp only [e3] at h'; cases h'
                  | ok xe r5 =>
                    cases xe with
                    | loc _ => simp only [e3] at h'; cases h'
                    | val d =>
                      simp only [e3] at h'
                      split at h'
                      · rename_i hz
                        intro yv H6 P6
                        have S6 : StOk G C r5 (T ++ [(.node .lst true ac, .ref da)] ++ tk (i + 1) ++ [(d, yv)]) s4 H6 := P6.1
                        have S7 : StOk G C r5 (T ++ (([(.node .lst true ac, .ref da)] ++ tk (i + 1)) ++ [(d, yv)])) s4 H6 := by simpa [List.append_assoc] using S6
                        have S8 : StOk G C r5 ((T ++ tk (i + 1)) ++ [(.node .lst true ac, .ref da), (d, yv)]) s4 H6 := by
                          have z : StOk G C r5 (T ++ ([(.node .lst true ac, .ref da)] ++ (tk (i + 1) ++ [(d, yv)]))) s4 H6 := by simpa [List.append_assoc] using S6
                          have z2 : StOk G C r5 ((T ++ tk (i + 1)) ++ ([(d, yv)] ++ [(.node .lst true ac, .ref da)])) s4 H6 := by simpa [List.append_assoc] using z.swap
                          exact z2.swap
                        obtain ⟨ow8, S8⟩ := S8
                        obtain ⟨vs', q1, q2, S9⟩ := S8.appT
                        refine ⟨vs', q1, by rw [q2, sizeLine_eq]; exact hz, hlt, ac ++ [d], r5, ?_, h'⟩
                        have S10 : StOk G C r5 (T ++ (tk (i + 1) ++ [(.node .lst true (ac ++ [d]), .ref da)])) s4 (upd H6 da (.lst (vs' ++ [yv]))) := ⟨_, by rw [← List.append_assoc]; exact S9⟩
                        have S11 := pins S10.swap
                        rw [hw] at S11
                        exact S11
                      · cases h'
              | _ => cases h'
      · have ei : i = ds.length := by omega
        subst ei
        rw [List.drop_length] at h'
        unfold lcL at h'
        injection h' with e1 e2
        subst e1
        subst e2
        refine .inl ⟨hk.2 _ _ _ H' S', ?_⟩
        have S3 : StOk G C (wipeR r' vs) (T ++ [(.node .lst true ac, .ref da)]) (wipe s vs) H' := S'.drop
        obtain ⟨ow0, S0⟩ := S1
        obtain ⟨ow3, S3⟩ := S3
        exact h _ _ ⟨⟨ow3, S0.back S3⟩, trivial⟩
end
end VL

namespace VL
open PySem PySem.Spec PyProof.Rows L2
section
variable {X : Cx} {G : GX} {C : Fc} {W : WX} {ow ow' : Ow} {r : Rho} {T T1 T2 : List (D × V)} {s : L2.St} {H H' : Hp} {fa fb fc : Ev} {f g : Sv} {fs : Av}
theorem ve_lc {elt tg iter : Expr} {ifs : List Expr} {scope : Scope} {own : List (Str × Nat)} {pos : Pos} {fi : Iv} {t : Tg} {ft : Option Ev} {fe : Ev} (hc : X.calm = true) (hN : X.N.Nodup) (hi : VI X G C W tg iter fi) (ok : BlkOk X.N X.env.scope scope own)
    (hpin : ∀ p ∈ C.pin, p.1 ∉ own.map (·.2)) (hts : ∀ i ∈ t.slots, i ∈ own.map (·.2))
    (hg : ∀ (s : Shared) (H : Hp) (ca : Addr) (cl : List (Str × Addr)) (fp : List Addr), VG (X.blk s H scope (compEnvC scope cl ca X.env) fp) G C tg t) (ht : ∀ (s : Shared) (H : Hp) (ca : Addr) (cl : List (Str × Addr)) (fp : List Addr), VTs (X.blk s H scope (compEnvC scope cl ca X.env) fp) G C W0 ifs ft)
    (he : ∀ (s : Shared) (H : Hp) (ca : Addr) (cl : List (Str × Addr)) (fp : List Addr), VE (X.blk s H scope (compEnvC scope cl ca X.env) fp) G C W0 elt fe) (hs : ∀ x, foldedSetIterable iter X.env x = pure x := by intro _; rfl) :
    VE X G C W (.ListComp elt [⟨tg, iter, ifs, 0⟩] scope pos) (cLc (own.map (·.2)) t fi ft fe) :=
  PE.imp (pe_lc hc hN hi ok hg ht (fun s H ca cl fp => ve_set (he s H ca cl fp)) hs) fun s H Q h => lc_go hpin hts h
theorem vs_setLc {i : Nat} {y : Str} {py : Pos} {elt tg iter : Expr} {ifs : List Expr} {scope : Scope} {own : List (Str × Nat)} {pos spos : Pos} {fi : Iv} {t : Tg} {ft : Option Ev} {fe : Ev} (hc : X.calm = true) (hN : X.N.Nodup) (hy : X.N[i]? = some y) (hyl : X.env.scope.names.lookup y = some .local) (hp : ∀ p ∈ C.pin, p.1 ≠ i)
    (hsw : swapsWith (.ListComp elt [⟨tg, iter, ifs, 0⟩] scope pos) (some (.Name y py)) spos.line X.env = pure true) (hi : VI X G C W tg iter fi) (ok : BlkOk X.N X.env.scope scope own)
    (hpin : ∀ p ∈ C.pin, p.1 ∉ own.map (·.2)) (hts : ∀ i ∈ t.slots, i ∈ own.map (·.2))
    (hg : ∀ (s : Shared) (H : Hp) (ca : Addr) (cl : List (Str × Addr)) (fp : List Addr), VG (X.blk s H scope (compEnvC scope cl ca X.env) fp) G C tg t) (ht : ∀ (s : Shared) (H : Hp) (ca : Addr) (cl : List (Str × Addr)) (fp : List Addr), VTs (X.blk s H scope (compEnvC scope cl ca X.env) fp) G C W0 ifs ft)
    (he : ∀ (s : Shared) (H : Hp) (ca : Addr) (cl : List (Str × Addr)) (fp : List Addr), VE (X.blk s H scope (compEnvC scope cl ca X.env) fp) G C W0 elt fe) (hs : ∀ x, foldedSetIterable iter X.env x = pure x := by intro _; rfl) :
    VS X G C W (.Assign [.Name y py] (.ListComp elt [⟨tg, iter, ifs, 0⟩] scope pos) spos) (cAsg (.nm i) (cLc (own.map (·.2)) t fi ft fe)) := by
  refine PS.imp (ps_setLc hc hN hy hyl hsw hi ok hg ht (fun s H ca cl fp => ve_set (he s H ca cl fp)) hs) fun D s H h => ?_
  obtain ⟨r, T, S, h⟩ := h
  have z : tV G C W (cSet (cLc (own.map (·.2)) t fi ft fe)) s H fun x H1 => gName i x s H1 D.nx := by
    refine oneS (fa := cSet (cLc (own.map (·.2)) t fi ft fe)) S h fun x v r1 H1 P g => ?_
    cases x with
    | loc i => exact g.elim
    | val d => exact g _ _ (P.1.set hp)
  refine lc_go hpin hts ?_
  -- a comprehension's value is its own: handing it on changes nothing
  obtain ⟨r', T', S', g⟩ := z
  refine ⟨r', T', S', ?_⟩
  unfold cSet at g
  cases e : cLc (own.map (·.2)) t fi ft fe r' with
  | exc c r1 => rw [e] at g; exact g
  | bad => rw [e] at g; exact g
  | ok x r1 =>
    rw [e] at g
    cases x with
    | val d => exact g
    | loc j =>
      unfold cLc at e
      split at e
      · split at e <;> cases e
      · cases e
      · cases e

inductive FO where
  | ok (d : D) | exc (c : Nat) | bad
def Behind (G : GX) (ow0 : Ow) (H H' : Hp) (d : D) (v : V) : Prop :=
  ∃ (ow1 : Ow) (b : Bs), b ≠ .fo ∧ Rep G ow1 H' d ⟨b, []⟩ v ∧ (∀ a l, ow1 a = some l → l.b ≠ .fo → H a = none) ∧ (∀ a, ow0 a ≠ none → ow1 a = some ⟨.fo, []⟩) ∧ ∀ a l, ow1 a = some l → OwnO (H' a)
def spV (G : GX) (n : Nat) (F : List D → FO) : Sp := fun vs H Q E => ∃ (ds : List D) (ow0 : Ow), ds.length = n ∧ frzs ds = ds ∧ (∀ a l, ow0 a = some l → OwnO (H a)) ∧ Reps G ow0 H ds ⟨.fo, []⟩ 0 vs ∧ LamX.Tabs G.T H ∧ match F ds with
  | .ok d => ∀ v H', Ext H H' → LamX.Tabs G.T H' → Behind G ow0 H H' d v → Q v H'
  | .exc c => ∀ H', Ext H H' → LamX.Tabs G.T H' → E (.ref (G c)) none H'
  | .bad => False
theorem spV_len {n : Nat} {F : List D → FO} {vs : List V} {Q : VK} {E : XK} (h : spV G n F vs H Q E) : vs.length = n := by
  obtain ⟨ds, ow0, h1, _, _, h4, _⟩ := h
  rw [← h4.length, h1]
def startR (n : Nat) (ds : List D) : Rho := ds.map some ++ List.replicate (n - ds.length) none
def runF (n : Nat) (f : Sv) (ds : List D) : FO := match f (startR n ds) with
  | .rt x r => (match opd r x with
    | some d => .ok d
    | none => .bad)
  | .nx _ => .ok .non
  | .exc c _ => .exc c
  | _ => .bad
def fcOf (H : Hp) (ow0 : Ow) : Fc := ⟨H, fun _ => False, fun a => ow0 a ≠ none, []⟩
def owOf (ow0 : Ow) : Ow := fun a => match ow0 a with
  | some _ => some ⟨.fo, []⟩
  | none => none
theorem start_get {N : List Str} {vs : List V} {i : Nat} {v : V} (h : vs[i]? = some v) : (L2.start N vs)[i]? = some (some v) := by
  unfold L2.start
  rw [List.getElem?_append_left (by simpa using (List.getElem?_eq_some_iff.mp h).1), List.getElem?_map, h]; rfl
theorem startR_get {n : Nat} {ds : List D} {i : Nat} {d : D} (h : (startR n ds)[i]? = some (some d)) : ds[i]? = some d := by
  unfold startR at h
  by_cases hi : i < ds.length
  · rw [List.getElem?_append_left (by simpa using hi), List.getElem?_map] at h
    cases e : ds[i]? with
    | none => rw [e] at h; cases h
    | some a => rw [e] at h; cases h; rfl
  · rw [List.getElem?_append_right (by simpa using hi), List.getElem?_replicate] at h
    split at h <;> cases h
theorem start_ok {N : List Str} {ds : List D} {vs : List V} {ow0 : Ow} (ht : LamX.Tabs G.T H) (hm : ∀ a l, ow0 a = some l → OwnO (H a)) (e : frzs ds = ds) (h : Reps G ow0 H ds ⟨.fo, []⟩ 0 vs) : StW G (fcOf H ow0) (owOf ow0) (startR N.length ds) [] (L2.start N vs) H where
  len := by
    unfold startR L2.start
    simp [h.length]
  sl := fun i d q => by
    obtain ⟨v, h1, h2⟩ := h.get i d (startR_get q)
    have f : frz d = d := by
      have := congrArg (·[i]?) e
      simp only [frzs_map, List.getElem?_map, startR_get q, Option.map_some] at this
      exact Option.some.inj this
    exact ⟨v, start_get h1, Rep.moveF d f (fun a o z q => ⟨z, by unfold owOf; rw [q]⟩) (fun _ _ z _ => z) h2⟩
  tm := fun j d v q => by simp at q
  old := fun a o _ z => .inl z
  own := fun a l q => by
    unfold owOf at q
    split at q
    · cases q; exact .inl rfl
    · cases q
  fo := fun a q => by
    unfold owOf
    cases e : ow0 a with
    | none => exact absurd e q
    | some l => rfl
  mu := fun a l q => by
    unfold owOf at q
    split at q
    · rename_i m e; exact hm a m e
    · cases q
  pin := fun p hp => by simp [fcOf] at hp
  tabs := ht
theorem behind_of {ow0 : Ow} {d : D} {v : V} {b : Bs} (hb : b ≠ .fo) {r : Rho} {T : List (D × V)} {s : L2.St} (S : StW G (fcOf H ow0) ow r T s H') (h : Rep G ow H' d ⟨b, []⟩ v) : Behind G ow0 H H' d v :=
  ⟨ow, b, hb, h, fun a l q n => (S.own a l q).elim (fun z => absurd z n) fun z => z.elim id False.elim, fun a q => S.fo a q, S.mu⟩
theorem ext_of {ow0 : Ow} {r : Rho} {T : List (D × V)} {s : L2.St} (S : StW G (fcOf H ow0) ow r T s H') : Ext H H' := fun a o q => S.old a o (fun z => z) q
end
section
variable {P : Program} {w : World} {K : PySem.W.Frag} {mg : Str → Option Value} {base : Heap} {G : GX}
end

def isTup : Kd → Bool
  | .tup => true
  | _ => false
mutual
/-- no list, dict or instance in it is shared -/
def noL : D → Bool
  | .node k o xs => (o || isTup k) && noLs xs
  | .any => false
  | _ => true
def noLs : List D → Bool
  | [] => true
  | d :: ds => noL d && noLs ds
end
def callK (F : List D → FO) (xs : List R) (r : Rho) : EO := match opds r xs with
  | some ds => (match F (frzs ds) with
    | .ok d => if noL d = true then .ok (.val d) r else .ok (.val d) (settles r xs)
    | .exc c => .exc c r
    | .bad => .bad)
  | none => .bad
def cCall (n : Nat) (F : List D → FO) (fs : Av) : Ev := fun r => (fs r).bd fun xs r1 => if xs.length = n then callK F xs r1 else .bad
section
variable {X : Cx} {G : GX} {C : Fc} {W : WX} {ow ow' : Ow} {r : Rho} {T T1 T2 : List (D × V)} {s : L2.St} {H H' : Hp} {fs : Av}
def aft (H : Hp) (ow ow1 : Ow) (n : Nat) : Ow := fun a => match H a with
  | none => (match ow1 a with
    | some l => some ⟨.tm n, l.p⟩
    | none => none)
  | some _ => ow a
mutual
theorem Rep.aft : ∀ (d : D) {l l' : Loc} {v : V} {ow1 : Ow} {n : Nat}, (∀ a k vs, isR k ≠ true → Holds G H' a k vs → (isTup k = true ∨ VL.noL d = false) → ow1 a = none → H a ≠ none → ow a = none) → (∀ a m, ow1 a = some m → m.b ≠ .fo → H a = none) → l.b ≠ .fo → l'.b = .tm n → l'.p = l.p → Rep G ow1 H' d l v → Rep G (VL.aft H ow ow1 n) H' d l' v
  | .any, _, _, _, _, _, _, _, _, _, _, _ => trivial
  | .non, _, _, _, _, _, _, _, _, _, _, h => h
  | .bl _, _, _, _, _, _, _, _, _, _, _, h => h
  | .int _, _, _, _, _, _, _, _, _, _, _, h => h
  | .str _, _, _, _, _, _, _, _, _, _, _, h => h
  | .exc _, _, _, _, _, _, _, _, _, _, _, h => h
  | .ty _, _, _, _, _, _, _, _, _, _, _, h => h
  | .cls _, _, _, _, _, _, _, _, _, _, _, h => h
  | .node k o xs, l, l', v, ow1, n, hz, hn, hb, hb', hp, h => by
    obtain ⟨a, vs, ev, h1, h2, h3⟩ := h
    have un : VL.noLs xs = false → VL.noL (.node k o xs) = false := fun z => by
      show ((o || isTup k) && VL.noLs xs) = false
      rw [z, Bool.and_false]
    refine ⟨a, vs, ev, h1, ?_, Reps.aft xs (fun a k' vs' nr z y => hz a k' vs' nr z (y.imp id un)) hn hb hb' hp h3⟩
    by_cases hrd : isR k = true
    · exact .ofR hrd
    have h2 := h2.cases.resolve_left hrd
    refine .mk ?_
    cases o with
    | true =>
      have q : ow1 a = some l := by simpa using h2
      have z := hn a l q hb
      unfold VL.aft
      rw [z, q]
      obtain ⟨lb, lp⟩ := l'
      cases hb'
      cases hp
      rfl
    | false =>
      have q : ow1 a = none := by simpa using h2
      have hk : isTup k = true ∨ VL.noL (.node k false xs) = false := by
        cases e : isTup k with
        | true => exact .inl rfl
        | false =>
          refine .inr ?_
          show ((false || isTup k) && VL.noLs xs) = false
          rw [e]; rfl
      unfold VL.aft
      cases z : H a with
      | none => simp only [q]; rfl
      | some u => exact hz a k vs hrd h1 hk q (by rw [z]; exact fun y => nomatch y)
theorem Reps.aft : ∀ (ds : List D) {l l' : Loc} {i : Nat} {vs : List V} {ow1 : Ow} {n : Nat}, (∀ a k vs, isR k ≠ true → Holds G H' a k vs → (isTup k = true ∨ VL.noLs ds = false) → ow1 a = none → H a ≠ none → ow a = none) → (∀ a m, ow1 a = some m → m.b ≠ .fo → H a = none) → l.b ≠ .fo → l'.b = .tm n → l'.p = l.p → Reps G ow1 H' ds l i vs → Reps G (VL.aft H ow ow1 n) H' ds l' i vs
  | [], _, _, _, _, _, _, _, _, _, _, _, h => h
  | d :: ds, l, l', i, vs, ow1, n, hz, hn, hb, hb', hp, h => by
    obtain ⟨v, ws, ev, h1, h2⟩ := h
    have u1 : VL.noL d = false → VL.noLs (d :: ds) = false := fun z => by show (VL.noL d && VL.noLs ds) = false; rw [z]; rfl
    have u2 : VL.noLs ds = false → VL.noLs (d :: ds) = false := fun z => by show (VL.noL d && VL.noLs ds) = false; rw [z, Bool.and_false]
    exact ⟨v, ws, ev, Rep.aft (l := l.sub i) (l' := l'.sub i) d (fun a k vs nr z y => hz a k vs nr z (y.imp id u1)) hn hb hb' (by show l'.p ++ [i] = l.p ++ [i]; rw [hp]) h1, Reps.aft ds (fun a k vs nr z y => hz a k vs nr z (y.imp id u2)) hn hb hb' hp h2⟩
end
theorem StW.aft {d : D} {v : V} {ow1 : Ow} (S : StW G C ow r T s H) (hx : Ext H H') (et : LamX.Tabs G.T H') (hm : ∀ a m, ow1 a = some m → OwnO (H' a)) (hr : Rep G (VL.aft H ow ow1 T.length) H' d ⟨.tm T.length, []⟩ v) : StW G C (VL.aft H ow ow1 T.length) r (T ++ [(d, v)]) s H' := by
  have keep : ∀ a o, H a = some o → VL.aft H ow ow1 T.length a = ow a := fun a o z => by unfold VL.aft; rw [z]
  have S' : StW G C (VL.aft H ow ow1 T.length) r T s H' := by
    refine ⟨S.len, fun i d q => ?_, fun j d v q => ?_, fun a o n q => (S.old a o n q).bind fun u q => hx a u q, fun a l q => ?_, fun a q => ?_, fun a l q => ?_, S.pin, et⟩
    · obtain ⟨v', z1, z2⟩ := S.sl i d q
      exact ⟨v', z1, Rep.mono (l := ⟨.sl i, []⟩) d (fun a o z _ => hx a o z) (fun a o z _ => hx a o z) (fun a o z n => by rw [keep a o z, n]) (fun a o q z n => by rw [keep a o z, n]) z2⟩
    · exact Rep.mono (l := ⟨.tm j, []⟩) d (fun a o z _ => hx a o z) (fun a o z _ => hx a o z) (fun a o z n => by rw [keep a o z, n]) (fun a o q z n => by rw [keep a o z, n]) (S.tm j d v q)
    · cases z : H a with
      | some o => rw [keep a o z] at q; exact S.own a l q
      | none =>
        refine .inr ?_
        cases e : C.H0 a with
        | none => exact .inl rfl
        | some u =>
          by_cases hi : C.io a
          · exact .inr hi
          · exact ((S.old a u hi e).on z).elim
    · have z := S.fo a q
      have m := S.mu a _ z
      cases y : H a with
      | none => rw [y] at m; exact m.elim
      | some o => rw [keep a o y]; exact z
    · cases z : H a with
      | some o =>
        rw [keep a o z] at q
        have m := S.mu a l q
        rw [z] at m
        rw [(hx a o z).get m.nt]
        exact m
      | none =>
        unfold VL.aft at q
        rw [z] at q
        cases y : ow1 a with
        | none => rw [y] at q; cases q
        | some m => exact hm a m y
  exact S'.push hr
theorem call_go {n : Nat} {F : List D → FO} {Q : VK} {xs : List R} {vs : List V} (S : StOk G C r (T ++ pushs xs vs) s H) (l : LocsOk s xs vs) (h : Goes G C W T s Q (if xs.length = n then callK F xs r else .bad)) : spV G n F vs H Q (WE W s) := by
  split at h
  · rename_i hn
    unfold callK at h
    cases e : opds r xs with
    | none => rw [e] at h; exact h.elim
    | some ds =>
      simp only [e] at h
      obtain ⟨ow, S⟩ := S
      obtain ⟨ow0, S0, h1, h2, h3⟩ := S.settles l e
      refine ⟨frzs ds, ow0, ?_, frzs_frzs ds, S0.mu, h1 _ _, S0.tabs, ?_⟩
      · rw [(h1 ⟨.fo, []⟩ 0).length, ← l.length, hn]
      cases e2 : F (frzs ds) with
      | bad => rw [e2] at h; exact h.elim
      | exc c =>
        simp only [e2] at h
        exact fun H' hx et => h H' ⟨ow, S.drop.ext hx et⟩
      | ok d =>
        simp only [e2] at h
        intro v H' hx et hb
        obtain ⟨ow1, b, b1, b2, b3, b4, b5⟩ := hb
        split at h
        · rename_i hno
          have hr : Rep G (VL.aft H ow ow1 T.length) H' d ⟨.tm T.length, []⟩ v := Rep.aft (l := ⟨b, []⟩) d (fun a k vs _ z y q nz => by
            rcases y with y | y
            · cases k with
              | tup =>
                cases y2 : ow a with
                | none => rfl
                | some m =>
                  have mu := S.mu a m y2
                  cases z2 : H a with
                  | none => exact absurd z2 nz
                  | some u =>
                    rw [z2] at mu
                    have z3 := (hx a u z2).get mu.nt
                    rw [show H' a = some (.tup vs) from z] at z3
                    cases z3
                    exact mu.elim
              | _ => cases y
            · rw [hno] at y; cases y) b3 b1 rfl rfl b2
          exact h v H' ⟨⟨_, StW.aft S.drop hx et b5 hr⟩, trivial⟩
        · have hr : Rep G (VL.aft H ow0 ow1 T.length) H' d ⟨.tm T.length, []⟩ v := Rep.aft (l := ⟨b, []⟩) d (fun a k vs _ z y q nz => by
            cases y2 : ow0 a with
            | none => rfl
            | some m =>
              have := b4 a (by rw [y2]; exact fun z => nomatch z)
              rw [q] at this
              cases this) b3 b1 rfl rfl b2
          exact h v H' ⟨⟨_, StW.aft S0 hx et b5 hr⟩, trivial⟩
  · exact h.elim
theorem ve_call {n k : Nat} {F : List D → FO} {f : Addr} {fd : FuncData} {ps : List Str} {x : Str} {p pos : Pos} {e : Expr} {es : List Expr} (tk : Takes X W) (Fk : FnOk X.prog X.w X.K X.mg X.base (L2.CX X.prog X.w) k f fd ps (spV G n F)) (hr : Room k X.A) (hg : Gl X x) (hm : X.mg x = some (.ref f))
    (hk : PySem.W.keepIn X.K (.ref f) = true) (hb : Binds X.K fd ps []) (ha : VA X G C W (e :: es) fs) (hdb : (x == ("__debug__" : Str)) = false := by decide) (he : starEach (e :: es) X.env = (false, eval e X.env) :: starEach es X.env := by rfl) (hpl : (backTo pos (starEach es X.env)).any (·.1) = false := by rfl) :
    VE X G C W (.Call (.Name x p) (e :: es) [] pos) (cCall n F fs) := by
  refine PE.imp (pe_callS Fk hr hg hm hk hb (fun σ => passAt tk σ) ha hdb he hpl) fun s H Q h => ?_
  obtain ⟨r, T, S, g⟩ := h
  exact many (T2 := []) (by simpa using S) g fun xs vs r1 H1 S1 l1 g1 => call_go (by simpa using S1) l1 g1
end
end VL

namespace VL
open PySem PySem.Spec PyProof.Rows L2
section
variable {X : Cx} {G : GX} {C : Fc} {W : WX} {ow ow' : Ow} {r : Rho} {T T1 T2 : List (D × V)} {s : L2.St} {H H' : Hp} {fa fb fc : Ev} {fs : Av}
theorem apart {i : Nat} {a b : Addr} {l : Loc} (ha : ow a = some ⟨.sl i, []⟩) (hb : ow b = none ∨ ∃ q, ow b = some (l.app q)) (hl : l.b ≠ .sl i ∨ l.p ≠ []) : b ≠ a := fun e => by
  subst e
  rw [ha] at hb
  rcases hb with hb | ⟨q, hb⟩
  · cases hb
  · have hb := Option.some.inj hb
    unfold Loc.app at hb
    injection hb with e1 e2
    rcases hl with hl | hl
    · exact hl e1.symm
    · exact hl (List.append_eq_nil_iff.mp e2.symm).1
theorem StW.write {i : Nat} {k k' : Kd} (hk : isR k ≠ true) {ds ds' : List D} {a : Addr} {vs' : List V} {ho : HO} {T' : List (D × V)} (S : StW G C ow r T s H) (q : r[i]? = some (some (.node k true ds))) (ha : s[i]? = some (some (.ref a)))
    (hm : OwnO (some ho)) (hh : Holds G (upd H a ho) a k' vs')
    (h1 : ∀ b, ow b = none → ow' b = none) (h2 : ∀ b j p, ow b = some ⟨.sl j, p⟩ → j ≠ i → ow' b = some ⟨.sl j, p⟩) (h4 : ∀ b p, ow b = some ⟨.fo, p⟩ → ow' b = some ⟨.fo, p⟩)
    (h5 : ∀ b l, ow' b = some l → ∃ l', ow b = some l' ∧ (l.b = .fo → l'.b = .fo)) (h5' : ∀ b l, ow' b = some l → l.b ≠ .fo → ∀ l', ow b = some l' → l'.b ≠ .fo) (h6 : ow' a = some ⟨.sl i, []⟩)
    (h7 : Reps G ow' (upd H a ho) ds' ⟨.sl i, []⟩ 0 vs') (h8 : ∀ (j : Nat) d v, T'[j]? = some (d, v) → Rep G ow' (upd H a ho) d ⟨.tm j, []⟩ v) :
    StW G C ow' (r.set i (some (.node k' true ds'))) T' s (upd H a ho) := by
  obtain ⟨v, z1, a', vs, ev, z2, z3, z4⟩ := S.sl i _ q
  rw [ha] at z1
  cases z1
  cases ev
  have oa : ow a = some ⟨.sl i, []⟩ := by simpa using z3.cases.resolve_left hk
  have exn : ∀ (b : Addr) (o : HO), H b = some o → ¬ OwnO (some o) → upd H a ho b = some o := fun b o z n => by
    rw [upd_ne (fun e => by have m := S.mu a _ oa; rw [e] at z; rw [z] at m; exact n m)]; exact z
  refine ⟨by simpa using S.len, fun j d' y => ?_, h8, fun b o n y => ?_, fun b l y => ?_, fun b y => h4 b _ (S.fo b y), fun b l y => ?_, S.pin, tabs_upd S.tabs (.inr (S.mu a _ oa))⟩
  · by_cases hj : j = i
    · subst hj
      have hlt : j < r.length := (List.getElem?_eq_some_iff.mp q).1
      rw [List.getElem?_set_self hlt] at y
      cases y
      exact ⟨_, ha, a, vs', rfl, hh, .mk (by simpa using h6), h7⟩
    · rw [List.getElem?_set_ne (Ne.symm hj)] at y
      obtain ⟨v', y1, y2⟩ := S.sl j d' y
      refine ⟨v', y1, Rep.mono (l := ⟨.sl j, []⟩) d' (fun b o z w => by rw [upd_ne (apart oa w (.inl (fun z => hj (by injection z))))]; exact .inl z) (fun b o z n => exn b o z n) (fun b o _ n => h1 b n) (fun b o p _ n => ?_) y2⟩
      exact h2 b j ([] ++ p) n hj
  · by_cases hb : b = a
    · subst hb
      rcases S.own b _ oa with z | z | z
      · cases z
      · rw [z] at y; cases y
      · exact absurd z n
    · rw [upd_ne hb]; exact S.old b o n y
  · obtain ⟨l', y1, y2⟩ := h5 b l y
    by_cases hf : l.b = .fo
    · exact .inl hf
    · rcases S.own b l' y1 with z | z
      · exact absurd z (h5' b l y hf l' y1)
      · exact .inr z
  · by_cases hb : b = a
    · subst hb; rw [upd_same]; exact hm
    · rw [upd_ne hb]
      obtain ⟨l', y1, _⟩ := h5 b l y
      exact S.mu b l' y1
def intoSl (ow : Ow) (n i k : Nat) : Ow := fun a => match ow a with
  | some ⟨.tm j, p⟩ => if j = n then some ⟨.sl i, k :: p⟩ else some ⟨.tm j, p⟩
  | some ⟨.sl j, p⟩ => if j = i ∧ p.head? = some k then none else some ⟨.sl j, p⟩
  | x => x
theorem into_fo {n i k : Nat} {b : Addr} {l : Loc} (h : intoSl ow n i k b = some l) : ∃ l', ow b = some l' ∧ (l.b = .fo ↔ l'.b = .fo) := by
  unfold intoSl at h
  cases e : ow b with
  | none => rw [e] at h; cases h
  | some m =>
    rw [e] at h
    obtain ⟨mb, mp⟩ := m
    refine ⟨_, rfl, ?_⟩
    cases mb with
    | tm j =>
      simp only at h
      split at h <;> (cases h; exact ⟨(fun z => nomatch z), (fun z => nomatch z)⟩)
    | sl j =>
      simp only at h
      split at h
      · cases h
      · cases h; exact ⟨(fun z => nomatch z), (fun z => nomatch z)⟩
    | fo => cases h; exact Iff.rfl
theorem StW.into {i k : Nat} {ds ds' : List D} {d : D} {a : Addr} {v : V} (S : StW G C ow r (T ++ [(d, v)]) s H) (q : r[i]? = some (some (.node .lst true ds))) (ha : s[i]? = some (some (.ref a)))
    (hds : (ds' = ds.set k d ∧ k < ds.length) ∨ (ds' = ds ++ [d] ∧ k = ds.length)) : ∃ vs, H a = some (.lst vs) ∧ vs.length = ds.length ∧
    StW G C (intoSl ow T.length i k) (r.set i (some (.node .lst true ds'))) T s (upd H a (.lst (if k < ds.length then vs.set k v else vs ++ [v]))) := by
  obtain ⟨v', z1, a', vs, ev, z2, z3, z4⟩ := S.sl i _ q
  rw [ha] at z1
  cases z1
  cases ev
  have oa : ow a = some ⟨.sl i, []⟩ := by simpa [OwnAt] using z3
  have hl := z4.length
  have exn : ∀ (b : Addr) (o ho : HO), H b = some o → ¬ OwnO (some o) → upd H a ho b = some o := fun b o ho z n => by
    rw [upd_ne (fun e => by rw [e, show H a = some (.lst vs) from z2] at z; cases z; exact n trivial)]; exact z
  refine ⟨vs, z2, hl.symm, StW.write (k := .lst) (ow' := intoSl ow T.length i k) (fun z => nomatch z) S q ha trivial (vs' := if k < ds.length then vs.set k v else vs ++ [v]) upd_same (fun b n => by unfold intoSl; rw [n]) (fun b j p n hj => ?_) (fun b p n => by unfold intoSl; rw [n]) (fun b l y => ?_) (fun b l y n l' y2 => ?_) ?_ ?_ (fun j d' w y => ?_)⟩
  · unfold intoSl; rw [n]; exact if_neg (fun z => hj z.1)
  · obtain ⟨l', y1, y2⟩ := into_fo y
    exact ⟨l', y1, y2.mp⟩
  · obtain ⟨l2, y1, y3⟩ := into_fo y
    rw [y2] at y1
    cases y1
    exact fun z => n (y3.mpr z)
  · unfold intoSl; rw [oa]; simp
  · -- the parts
    have old : ∀ (m : Nat) dm vm, m ≠ k → ds[m]? = some dm → vs[m]? = some vm → Rep G (intoSl ow T.length i k) (upd H a (.lst (if k < ds.length then vs.set k v else vs ++ [v]))) dm (Loc.sub ⟨.sl i, []⟩ (0 + m)) vm := fun m dm vm hm q1 q2 => by
      obtain ⟨vm', y1, y2⟩ := z4.get m dm q1
      rw [q2] at y1
      cases y1
      refine Rep.mono (l := Loc.sub ⟨.sl i, []⟩ (0 + m)) dm (fun b o z w => by rw [upd_ne (apart oa w (.inr (by simp [Loc.sub])))]; exact .inl z) (fun b o z n => .inl (exn b o _ z n)) (fun b o _ n => by unfold intoSl; rw [n]) (fun b o p _ n => ?_) y2
      have n' : ow b = some ⟨.sl i, m :: p⟩ := by rw [n]; simp [Loc.sub, Loc.app]
      unfold intoSl
      rw [n']
      have : ¬ (i = i ∧ (m :: p).head? = some k) := by simp [hm]
      simp [Loc.sub, Loc.app, hm]
    have new : Rep G (intoSl ow T.length i k) (upd H a (.lst (if k < ds.length then vs.set k v else vs ++ [v]))) d (Loc.sub ⟨.sl i, []⟩ (0 + k)) v := by
      refine Rep.mono (l := ⟨.tm T.length, []⟩) d (fun b o z w => by rw [upd_ne (apart oa w (.inl (fun z => nomatch z)))]; exact .inl z) (fun b o z n => .inl (exn b o _ z n)) (fun b o _ n => by unfold intoSl; rw [n]) (fun b o p _ n => ?_) S.last
      have n' : ow b = some ⟨.tm T.length, [] ++ p⟩ := n
      unfold intoSl
      rw [n']
      simp [Loc.sub, Loc.app]
    rcases hds with ⟨e, hk⟩ | ⟨e, hk⟩
    · subst e
      refine Reps.of_get (by rw [if_pos hk]; simp [hl]) fun m dm vm q1 q2 => ?_
      rw [if_pos hk] at q2
      by_cases hm : m = k
      · subst hm
        rw [List.getElem?_set_self hk] at q1
        rw [List.getElem?_set_self (by omega)] at q2
        cases q1; cases q2
        exact new
      · rw [List.getElem?_set_ne (Ne.symm hm)] at q1 q2
        exact old m dm vm hm q1 q2
    · subst e
      subst hk
      refine Reps.of_get (by rw [if_neg (by omega)]; simp [hl]) fun m dm vm q1 q2 => ?_
      rw [if_neg (by omega)] at q2
      by_cases hm : m < ds.length
      · rw [List.getElem?_append_left hm] at q1
        rw [List.getElem?_append_left (by omega)] at q2
        exact old m dm vm (by omega) q1 q2
      · rw [List.getElem?_append_right (by omega)] at q1
        rw [List.getElem?_append_right (by omega), ← hl] at q2
        have em : m = ds.length := by
          have := (List.getElem?_eq_some_iff.mp q1).1
          simp at this; omega
        subst em
        simp at q1 q2
        subst q1; subst q2
        exact new
  · have hj : j < T.length := (List.getElem?_eq_some_iff.mp y).1
    have z := S.tm j d' w (by rw [List.getElem?_append_left hj]; exact y)
    refine Rep.mono (l := ⟨.tm j, []⟩) d' (fun b o z w => by rw [upd_ne (apart oa w (.inl (fun z => nomatch z)))]; exact .inl z) (fun b o z n => .inl (exn b o _ z n)) (fun b o _ n => by unfold intoSl; rw [n]) (fun b o p _ n => ?_) z
    have n' : ow b = some ⟨.tm j, [] ++ p⟩ := n
    unfold intoSl
    rw [n']
    have : ¬ j = T.length := by omega
    simp [Loc.app, this]

def isLst (r : Rho) (i : Nat) : Bool := match r[i]? with
  | some (some (.node .lst _ _)) => true
  | _ => false
def appK (i : Nat) (x : R) (r1 : Rho) : EO := match x, r1[i]? with
  | .val d, some (some (.node .lst true ds)) => if ds.length < 16777216 then .ok (.val .non) (r1.set i (some (.node .lst true (ds ++ [d])))) else .bad
  | _, _ => .bad
def cApp (i : Nat) (fa : Ev) : Ev := fun r => if isLst r i = true then (cSet fa r).bd (appK i) else .bad
theorem isLst_at {i : Nat} (h : isLst r i = true) : ∃ o ds, r[i]? = some (some (.node .lst o ds)) := by
  unfold isLst at h
  split at h
  · rename_i o ds e; exact ⟨o, ds, e⟩
  · cases h
theorem ve_app {i : Nat} {x : Str} {e : Expr} {p apos cpos : Pos} (hN : X.N[i]? = some x) (hv : Vis X.env.scope x) (hd : (x == ("__debug__" : Str)) = false) (hcd : (x == ("__classdict__" : Str)) = false) (ha : VE X G C W e fa)
    (hbase : attributeBase (.Name x p) "append" X.env (eval (.Name x p) X.env) = eval (.Name x p) X.env := by rfl)
    (hfew : ((backTo cpos (starEach [e] X.env)).all (fun x => !x.1) && (backToKw cpos (keywordEach [] X.env)).all (fun x => x.1.isSome)
      && decide ([e].length + ([] : List Keyword).length + (if ([] : List Keyword).isEmpty then 0 else 1) < 30)) = true := by rfl)
    (hline : (apos.endLine == cpos.line) = true := by rfl) (hs : starEach [e] X.env = (false, eval e X.env) :: starEach [] X.env := by rfl) (hplain : (backTo cpos (starEach [] X.env)).any (·.1) = false := by rfl) :
    VE X G C W (.Call (.Attribute (.Name x p) "append" apos) [e] [] cpos) (cApp i fa) := by
  refine PE.imp (pe_bm PySem.F.plainAttrs_list PySem.F.slot_list_append PySem.F.type_list_append mt_append (pe_var hN hv hd hcd) (pa_cons (ve_set ha) pa_nil hs) hbase hfew hline hs hplain) fun s H Q h => ?_
  obtain ⟨r, T, S, g⟩ := h
  have g : Goes G C W T s Q (cApp i fa r) := g
  unfold cApp at g
  split at g
  · rename_i hi
    obtain ⟨o, ds, hr⟩ := isLst_at hi
    obtain ⟨ow, S0⟩ := S
    obtain ⟨v, v1, a, vs, ev, v2, v3, v4⟩ := S0.sl i _ hr
    subst ev
    refine ⟨_, v1, .inl ⟨rfl, vs, SqL.of v2⟩, ?_⟩
    refine one (fa := cSet fa) ⟨ow, S0⟩ g fun x v' r1 H1 P g1 => ?_
    unfold appK at g1
    split at g1
    · rename_i d ds' q
      split at g1
      · rename_i hz
        obtain ⟨ow1, S1⟩ := P.1
        obtain ⟨vs', w1, w2, S2⟩ := StW.into S1 q v1 (.inr ⟨rfl, rfl⟩)
        rw [if_neg (Nat.lt_irrefl _)] at S2
        exact ⟨a, vs', v', rfl, rfl, w1, by rw [w2, sizeLine_eq]; exact hz, g1 _ _ ⟨StOk.pushN ⟨_, S2⟩, trivial⟩⟩
      · exact g1.elim
    · exact g1.elim
  · exact g.elim

def setIxK (i : Nat) (x y : R) (r1 : Rho) : SO := match x, opd r1 y, r1[i]? with
  | .val d, some (.int k), some (some (.node .lst true ds)) => (match ixN ds.length k with
    | some j => .nx (r1.set i (some (.node .lst true (ds.set j d))))
    | none => .bad)
  | _, _, _ => .bad
def cSetIx (i : Nat) (fk fa : Ev) : Sv := fun r => (cSet fa r).st fun x r1 => if isLst r1 i = true then (fk r1).st (setIxK i x) else .bad
theorem vs_setIx {i : Nat} {x : Str} {k e : Expr} {p tpos pos : Pos} {fk : Ev} (hN : X.N[i]? = some x) (hv : Vis X.env.scope x) (hd : (x == ("__debug__" : Str)) = false) (hcd : (x == ("__classdict__" : Str)) = false) (hk : VE X G C W k fk) (ha : VE X G C W e fa)
    (has : ∀ v, assign (.Subscript (.Name x p) k tpos) X.env v = (do
      let ov ← holding [v] (eval (.Name x p) X.env)
      let iv ← holding [v, ov] (eval k X.env)
      standAt tpos
      holding [v, ov, iv] (setItem ov iv v)
      release [v, ov, iv] []) := by intro _; rfl)
    (hs : swapsWithSole [.Subscript (.Name x p) k tpos] e pos.line X.env = pure false := by rfl) (hw : swappedStores [.Subscript (.Name x p) k tpos] e X.env = pure none := by rfl)
    (h1 : (assignEach [.Subscript (.Name x p) k tpos] X.env).map (·.2) = [assign (.Subscript (.Name x p) k tpos) X.env] := by rfl) : VS X G C W (.Assign [.Subscript (.Name x p) k tpos] e pos) (cSetIx i fk fa) := by
  refine PS.imp (ps_asg (ve_set ha) (pg_sub (pe_var hN hv hd hcd) hk set_list has) hs hw h1) fun D s H h => ?_
  obtain ⟨r, T, S, g⟩ := h
  refine oneS (fa := cSet fa) S g fun x v r1 H1 P g1 => ?_
  split at g1
  · rename_i hi
    obtain ⟨o, ds, hr⟩ := isLst_at hi
    obtain ⟨ow1, S1⟩ := P.1
    obtain ⟨w, v1, a, vs, ev, v2, v3, v4⟩ := S1.sl i _ hr
    subst ev
    refine ⟨_, v1, ?_⟩
    refine ⟨r1, T ++ pushR x v, ⟨ow1, S1⟩, ?_⟩
    cases e1 : fk r1 with
    | exc c r2 => rw [e1] at g1; exact fun H' S' => g1 s H' S'.drop
    | bad => rw [e1] at g1; exact g1.elim
    | ok y r2 =>
      rw [e1] at g1
      simp only [st_ok] at g1
      intro u H2 P2
      unfold setIxK at g1
      split at g1
      · rename_i d k' ds' e2 q
        split at g1
        · rename_i j ej
          obtain ⟨ow2, S2⟩ := P2.1
          have eu := opd_rep (T := T ++ pushR (.val d) v) (T2 := []) (by rw [List.append_nil]; exact S2) P2.2 e2
          have S3 : StW G C ow2 r2 (T ++ [(d, v)]) s H2 := StW.drop (T := T ++ [(d, v)]) (T2 := pushR y u) S2
          obtain ⟨m1, m2, _⟩ := ixN_seq ej
          obtain ⟨vs', w1, w2, S4⟩ := StW.into S3 q v1 (.inl ⟨rfl, m2⟩)
          rw [if_pos m2] at S4
          exact ⟨a, vs', k', j, rfl, eu, w1, by rw [w2]; exact ej, g1 _ _ ⟨_, S4⟩⟩
        · exact g1.elim
      · exact g1.elim
  · exact g1.elim

def idxD (ds : List D) (d : D) : Option Nat := ds.findIdx? fun e => PyData.eqv (toPy e) (toPy d)
def gIndex : G2 := fun x y r => match opd r x, opd r y with
  | some (.node .lst _ ds), some d => if (flatD d && ds.all flatD) = true then (match idxD ds d with
    | some j => .ok (.val (.int (j : Nat))) r
    | none => .bad) else .bad
  | _, _ => .bad
end
end VL

namespace VL
open PySem PySem.Spec PyProof.Rows L2
inductive MO where
  | ok (d d0 : D) | bad
def spM (G : GX) (n : Nat) (F : D → List D → MO) : Sp := fun vs H Q E => ∃ (d0 : D) (ds : List D) (v0 : V) (us : List V) (ow0 : Ow), vs = v0 :: us ∧ ds.length = n ∧ frzs ds = ds ∧ Rep G ow0 H d0 ⟨.sl 0, []⟩ v0 ∧ Reps G ow0 H ds ⟨.fo, []⟩ 0 us ∧
  (∀ a l, ow0 a = some l → OwnO (H a) ∧ (l.b = .sl 0 ∨ l = ⟨.fo, []⟩)) ∧ LamX.Tabs G.T H ∧ match F d0 ds with
  | .ok d d0' => ∀ v H' (ow1 : Ow) (b : Bs), (∀ a o, (∀ p, ow0 a ≠ some ⟨.sl 0, p⟩) → H a = some o → Kt (H' a) o) → b ≠ .fo → b ≠ .sl 0 → Rep G ow1 H' d ⟨b, []⟩ v → Rep G ow1 H' d0' ⟨.sl 0, []⟩ v0 →
      (∀ a l, ow1 a = some l → l.b ≠ .fo → H a = none ∨ ∃ p, ow0 a = some ⟨.sl 0, p⟩) → (∀ a, ow0 a = some ⟨.fo, []⟩ → ow1 a = some ⟨.fo, []⟩) → (∀ a l, ow1 a = some l → OwnO (H' a)) → LamX.Tabs G.T H' → Q v H'
  | .bad => False
def runM (n : Nat) (f : Sv) (d0 : D) (ds : List D) : MO := match f (startR n (d0 :: ds)) with
  | .rt (.val d) r => (match r[0]? with
    | some (some d0') => .ok d d0'
    | _ => .bad)
  | .rt (.loc i) r => if i = 0 then .bad else (match opd r (.loc i), r[0]? with
    | some d, some (some d0') => .ok d d0'
    | _, _ => .bad)
  | .nx r => (match r[0]? with
    | some (some d0') => .ok .non d0'
    | _ => .bad)
  | _ => .bad
section
variable {G : GX} {H H' : Hp} {ow ow0 : Ow}
end
section
variable {P : Program} {w : World} {K : PySem.W.Frag} {mg : Str → Option Value} {base : Heap} {G : GX}
end
def callKM (n i : Nat) (F : D → List D → MO) (xs : List R) (r : Rho) : EO := match xs with
  | .loc j :: rest => if j = i ∧ rest.length = n then (match opd r (.loc i), valsR rest with
    | some d0, some ds => (match F d0 (frzs ds) with
      | .ok d d0' => .ok (.val d) (r.set i (some d0'))
      | .bad => .bad)
    | _, _ => .bad) else .bad
  | _ => .bad
def cCallM (n i : Nat) (F : D → List D → MO) (fs : Av) : Ev := fun r => (fs r).bd (callKM n i F)
section
variable {X : Cx} {G : GX} {C : Fc} {W : WX} {ow ow' : Ow} {r : Rho} {T T1 T2 : List (D × V)} {s : L2.St} {H H' : Hp} {fs : Av}
theorem valsR_frz : ∀ {xs : List R} {ds : List D}, valsR xs = some ds → opds r xs = some ds ∧ settles r xs = r ∧ ds.length = xs.length
  | [], ds, e => by cases e; exact ⟨rfl, rfl, rfl⟩
  | .loc _ :: _, _, e => by cases e
  | .val d :: xs, ds, e => by
    unfold valsR at e
    cases e2 : valsR xs with
    | none => rw [e2] at e; cases e
    | some ds' =>
      rw [e2] at e
      cases e
      obtain ⟨h1, h2, h3⟩ := valsR_frz e2
      refine ⟨?_, h2, by simp [h3]⟩
      show (match some d, opds r xs with | some d, some ds => some (d :: ds) | _, _ => none) = _
      rw [h1]
end
end VL

namespace VL
open PySem PySem.Spec PyProof.Rows L2
section
variable {X : Cx} {pins : List (Addr × Obj)} {q : L2.St} {H : Hp} {s sI s' : Shared} {B h4 : Heap} {a : Addr}
end
section
variable {X : Cx} {pins : List (Addr × Obj)} {Wout : WX} {D : Ends}
end
end VL

namespace VL
open PySem PySem.Spec PyProof.Rows L2
def putE (i : Option Nat) (c : Nat) (r : Rho) : Rho := match i with
  | some j => r.set j (some (.exc c))
  | none => r
def remE (i : Option Nat) (r : Rho) : Rho := match i with
  | some j => r.set j none
  | none => r
def inClause (i : Option Nat) (o : SO) : SO := match o with
  | .nx r => .nx (remE i r)
  | .bk r => .bk (remE i r)
  | .ct r => .ct (remE i r)
  | .rt x r => .rt x r
  | _ => .bad
def cTry (tb : Nat → Option Bool) (i : Option Nat) (fb fs : Sv) : Sv := fun r => match fb r with
  | .exc c r1 => (match tb c with
    | some true => inClause i (fs (putE i c r1))
    | some false => .exc c r1
    | none => .bad)
  | o => o
section
variable {X : Cx} {G : GX} {C : Fc} {W : WX} {ow ow' : Ow} {r : Rho} {T T1 T2 : List (D × V)} {s : L2.St} {H H' : Hp}
def tyN : D → Option String
  | .non => some "NoneType"
  | .bl _ => some "bool"
  | .int _ => some "int"
  | .str _ => some "str"
  | .node .lst _ _ => some "list"
  | .node .tup _ _ => some "tuple"
  | .node (.dK _) _ _ => some "dict"
  | .node (.dT _) _ _ => some "dict"
  | _ => none
def tyNames : List String := ["NoneType", "bool", "int", "str", "list", "tuple", "dict"]
def isB (a b : String) : Option Bool := if tyNames.contains a && tyNames.contains b then some (a == b || (a == "bool" && b == "int")) else none
theorem kitB_all : (tyNames.all fun a => tyNames.all fun b => decide (kitB a b = some (a == b || (a == "bool" && b == "int")))) = true := by decide +kernel
theorem isB_ok {K : PySem.W.Frag} {a b : String} {r : Bool} (h : isB a b = some r) : PySem.W.kitOne K (.type a) (.type b) = some r := by
  unfold isB at h
  split at h
  · rename_i c
    rw [Bool.and_eq_true] at c
    cases h
    have z := kitB_all
    rw [List.all_eq_true] at z
    have z2 := z a (by simpa using c.1)
    rw [List.all_eq_true] at z2
    exact kit_ty (of_decide_eq_true (z2 b (by simpa using c.2)))
  · cases h
def clsU (G : GX) : D → Option Value
  | .ty n => some (.type n)
  | .cls c => some (.ref (G c))
  | _ => none
abbrev ETab := Nat → D → Option Bool
def isiB (a : Option String) (c : D) : Option Bool := match a, c with
  | some a, .ty n => isB a n
  | _, _ => none
def isi1 (E : ETab) (d c : D) : Option Bool := match d with
  | .exc k => E k c
  | d => isiB (tyN d) c
def isiAny (E : ETab) (d : D) : List D → Option Bool
  | [] => some false
  | c :: cs => match isi1 E d c with
    | some true => some true
    | some false => isiAny E d cs
    | none => none
def isiD (E : ETab) (d c : D) : Option D := match c with
  | .node .tup _ cs => (isiAny E d cs).map .bl
  | c => (isi1 E d c).map .bl
def ETabOk (K : PySem.W.Frag) (G : GX) (E : ETab) : Prop := ∀ k c b, E k c = some b → ExcC K (G k) ∧ ∃ u, clsU G c = some u ∧ PySem.W.kitOne K (.ref (G k)) u = some b
def rIx (K : PySem.W.Frag) : List V → Hp → VK → Prop := fun xs H Q => ∃ (a A : Addr) (c : V) (u : Value) (b : Bool), xs = [.ref a, c] ∧ H a = some (ExT (.ref A) a) ∧ ExcC K A ∧ ClsV c u ∧ PySem.W.kitOne K (.ref A) u = some b ∧ Q (.bl b) H
def rIxT (K : PySem.W.Frag) : List V → Hp → VK → Prop := fun xs H Q => ∃ (a A tp : Addr) (cs : List V) (us : List Value) (b : Bool), xs = [.ref a, .ref tp] ∧ H a = some (ExT (.ref A) a) ∧ ExcC K A ∧ H tp = some (.tup cs) ∧ Paired ClsV cs us ∧ PySem.W.kitAny K (.ref A) us = some b ∧ Q (.bl b) H
theorem exc_kit {K : PySem.W.Frag} {a A : Addr} (E : ExcC K A) {pins : List (Addr × Obj)} {σ : L2.St} {H : Hp} {s : Shared} (I : Inv X pins σ H s) (h : H a = some (ExT (.ref A) a)) : ∃ oe, PySem.W.InstAt s.heap a oe A none ∧ PySem.W.KitX K (.ref a) (.ref A) (fun h => PySem.W.InstAt h a oe A none) := by
  obtain ⟨⟨oe, vs, e, z, d⟩, _⟩ := I.hok a _ h
  refine ⟨oe, ?_, PySem.W.handS_kitx_exc E.hg E.hk E.hs E.hd E.ha E.hn E.ht E.hm⟩
  obtain ⟨oc, od, oda, osl⟩ := oe
  obtain ⟨z1, z2⟩ := z
  dsimp only at z1 z2 d
  subst z1 z2 d
  exact ⟨e, rfl, rfl, trivial⟩
theorem call_ix : CallR X (.builtin "isinstance") (rIx X.K) := by
  intro pins s σ H xs us Q I r h
  obtain ⟨a, A, c, u, b, rfl, ha, E, k, e, q⟩ := h
  obtain ⟨u1, u2, rfl, r1, r2⟩ := vals2 r
  cases (show u1 = Value.ref a from r1)
  have e2 := k.eq r2
  subst e2
  obtain ⟨oe, J, Z⟩ := exc_kit E I ha
  exact PySem.W.kia_one Z I.kIn J e (fun z => nomatch z) fun tk => ⟨.bl b, H, I.tok tk, rfl, q⟩
theorem call_ixT : CallR X (.builtin "isinstance") (rIxT X.K) := by
  intro pins s σ H xs us Q I r h
  obtain ⟨a, A, tp, cs, ws, b, rfl, ha, E, hT, k, e, q⟩ := h
  obtain ⟨u1, u2, rfl, r1, r2⟩ := vals2 r
  cases (show u1 = Value.ref a from r1)
  cases (show u2 = Value.ref tp from r2)
  obtain ⟨oe, J, Z⟩ := exc_kit E I ha
  obtain ⟨_, its, rv, o, h1, h2, n, h3⟩ := I.hok tp _ hT
  have e3 := ClsV.all k rv
  subst e3
  obtain ⟨oc, od, dt, sl⟩ := o
  dsimp only at h2 h3
  subst h2 h3
  exact PySem.W.kia_tup Z I.kIn J h1 e (fun z => nomatch z) fun tk => ⟨.bl b, H, I.tok tk, rfl, q⟩
theorem tyN_ok {K : PySem.W.Frag} {d : D} {l : Loc} {v : V} {a : String} (h : Rep G ow H d l v) (e : tyN d = some a) : TyX K H v (.type a) := by
  cases d with
  | non => cases e; have z := rep_non h; subst z; exact .base .non
  | bl b => cases e; have z := rep_bl h; subst z; exact .base (.bl b)
  | int b => cases e; have z := rep_int h; subst z; exact .base (.int b)
  | str b => cases e; have z := rep_str h; subst z; exact .base (.str b)
  | node k o xs =>
    obtain ⟨p, vs, ev, h1, h2, h3⟩ := h
    subst ev
    cases k with
    | lst => cases e; exact .base (.lst h1)
    | rd => cases e
    | tup => cases e; exact .base (.tup h1)
    | dK ks => cases e; exact .base (.dK h1.1)
    | dT ks => cases e; exact .base (.dT h1.1)
    | _ => cases e
  | _ => cases e
theorem clsU_ok {d : D} {l : Loc} {v : V} {u : Value} (h : Rep G ow H d l v) (e : clsU G d = some u) : ClsV v u := by
  cases d with
  | ty n => cases e; have z : v = .ty n := h; subst z; exact .ty n
  | cls c => cases e; have z : v = .ref (G c) := h; subst z; exact .own _
  | _ => cases e
theorem isi1_ok {K : PySem.W.Frag} {E : ETab} (hE : ETabOk K G E) {d c : D} {b : Bool} (e : isi1 E d c = some b) : (∃ k u, d = .exc k ∧ ExcC K (G k) ∧ clsU G c = some u ∧ PySem.W.kitOne K (.ref (G k)) u = some b) ∨ ∃ a u, tyN d = some a ∧ clsU G c = some u ∧ PySem.W.kitOne K (.type a) u = some b := by
  have go : ∀ a, tyN d = some a → isiB (some a) c = some b → ∃ a u, tyN d = some a ∧ clsU G c = some u ∧ PySem.W.kitOne K (.type a) u = some b := fun a ha z => by
    cases c with
    | ty n => exact ⟨a, _, ha, rfl, isB_ok z⟩
    | _ => cases z
  cases d with
  | exc k =>
    obtain ⟨h1, u, h2, h3⟩ := hE k c b e
    exact .inl ⟨k, u, rfl, h1, h2, h3⟩
  | non => exact .inr (go _ rfl e)
  | bl _ => exact .inr (go _ rfl e)
  | int _ => exact .inr (go _ rfl e)
  | str _ => exact .inr (go _ rfl e)
  | node k o xs =>
    cases k with
    | ins c fs => cases e
    | rd => cases e
    | _ => exact .inr (go _ rfl e)
  | _ => cases e
theorem kitAny_of {K : PySem.W.Frag} {t : Value} {E : ETab} {d : D} (hd : ∀ c b, isi1 E d c = some b → ∃ u, clsU G c = some u ∧ PySem.W.kitOne K t u = some b) : ∀ {cs : List D} {b : Bool} {l : Loc} {i : Nat} {vs : List V}, isiAny E d cs = some b → (∀ c ∈ cs, ∃ u, clsU G c = some u) → Reps G ow H cs l i vs → ∃ us, Paired ClsV vs us ∧ PySem.W.kitAny K t us = some b
  | [], b, _, _, vs, e, _, h => by
    have z : vs = [] := h
    subst z
    cases e
    exact ⟨[], .nil, rfl⟩
  | c :: cs, b, l, i, vs, e, hu, h => by
    obtain ⟨v, ws, ev, h1, h2⟩ := h
    subst ev
    unfold isiAny at e
    cases e1 : isi1 E d c with
    | none => rw [e1] at e; cases e
    | some b1 =>
      rw [e1] at e
      obtain ⟨u, g1, g2⟩ := hd c b1 e1
      cases b1 with
      | true =>
        cases e
        have rest : ∀ {cs : List D} {l : Loc} {i : Nat} {vs : List V}, (∀ c ∈ cs, ∃ u, clsU G c = some u) → Reps G ow H cs l i vs → ∃ us, Paired ClsV vs us := by
          intro cs
          induction cs with
          | nil => intro l i vs _ h; have z : vs = [] := h; subst z; exact ⟨[], .nil⟩
          | cons c cs ih =>
            intro l i vs hu h
            obtain ⟨v, ws, ev, h1, h2⟩ := h
            subst ev
            obtain ⟨u, hc⟩ := hu c List.mem_cons_self
            obtain ⟨us, p⟩ := ih (fun c hc => hu c (List.mem_cons_of_mem _ hc)) h2
            exact ⟨u :: us, .cons (clsU_ok h1 hc) p⟩
        obtain ⟨us, p⟩ := rest (fun c hc => hu c (List.mem_cons_of_mem _ hc)) h2
        refine ⟨u :: us, .cons (clsU_ok h1 g1) p, ?_⟩
        unfold PySem.W.kitAny
        rw [g2]
      | false =>
        obtain ⟨us, p, k⟩ := kitAny_of hd e (fun c hc => hu c (List.mem_cons_of_mem _ hc)) h2
        refine ⟨u :: us, .cons (clsU_ok h1 g1) p, ?_⟩
        unfold PySem.W.kitAny
        rw [g2]
        exact k
def isCls : D → Bool
  | .ty _ => true
  | .cls _ => true
  | _ => false
def gIsi (E : ETab) : List R → Rho → EO := fun xs r => match xs with
  | [x, .val (.node .tup _ cs)] => (match opd r x with
    | some d => if (cs.all isCls && !cs.isEmpty) = true then (match isiAny E d cs with
      | some b => .ok (.val (.bl b)) r
      | none => .bad) else .bad
    | none => .bad)
  | [x, .val c] => (match opd r x with
    | some d => (match isi1 E d c with
      | some b => .ok (.val (.bl b)) r
      | none => .bad)
    | none => .bad)
  | _ => .bad
theorem isCls_u {c : D} (h : isCls c = true) : ∃ u, clsU G c = some u := by
  cases c with
  | ty n => exact ⟨_, rfl⟩
  | cls n => exact ⟨_, rfl⟩
  | _ => cases h
def rIsiAll (K : PySem.W.Frag) : List V → Hp → VK → Prop := fun vs H Q => rIsi K vs H Q ∨ rIsiT K vs H Q ∨ rIx K vs H Q ∨ rIxT K vs H Q
theorem call_isiAll : CallR X (.builtin "isinstance") (rIsiAll X.K) := call_isi.or (call_isiT.or (call_ix.or call_ixT))
theorem isi_go {E : ETab} (hE : ETabOk X.K G E) {xs : List R} {vs : List V} {Q : VK} (S : StOk G C r (T ++ pushs xs vs) s H) (l : LocsOk s xs vs) (q : Goes G C W T s Q (gIsi E xs r)) : rIsiAll X.K vs H Q := by
  obtain ⟨ow, S⟩ := S
  unfold gIsi at q
  split at q
  · rename_i x o cs
    cases vs with
    | nil => exact l.elim
    | cons v vs =>
      cases vs with
      | nil => exact l.2.elim
      | cons u vs =>
        cases vs with
        | cons _ _ => exact l.2.2.elim
        | nil =>
          have S' : StW G C ow r (T ++ (pushR x v ++ [(.node .tup o cs, u)])) s H := by simpa [pushs, pushR] using S
          split at q
          · rename_i d e1
            split at q
            · rename_i hc
              split at q
              · rename_i b eb
                have hd := opd_rep S' l.1 e1
                have ht := StW.last (T := T ++ pushR x v) (by rw [List.append_assoc]; exact S')
                obtain ⟨tp, ws, eu, h1, h2, h3⟩ := ht
                subst eu
                rw [Bool.and_eq_true] at hc
                have hu : ∀ c ∈ cs, ∃ u, clsU G c = some u := fun c hcm => isCls_u (List.all_eq_true.mp hc.1 c hcm)
                obtain ⟨c0, cs', rfl⟩ : ∃ c0 cs', cs = c0 :: cs' := by
                  cases cs with
                  | nil => exact absurd hc.2 (by simp)
                  | cons c0 cs' => exact ⟨c0, cs', rfl⟩
                obtain ⟨b1, e2⟩ : ∃ b1, isi1 E d c0 = some b1 := by
                  unfold isiAny at eb
                  cases e2 : isi1 E d c0 with
                  | none => rw [e2] at eb; cases eb
                  | some b1 => exact ⟨b1, rfl⟩
                have fin : Q (.bl b) H := goes_val q ⟨ow, S.drop⟩ rfl fun _ _ => rfl
                by_cases hx : ∃ k, d = .exc k
                · obtain ⟨k, rfl⟩ := hx
                  obtain ⟨a, ev, ha⟩ := hd
                  subst ev
                  have hex : ExcC X.K (G k) := (hE k c0 b1 e2).1
                  obtain ⟨us, p, kk⟩ := kitAny_of (E := E) (d := .exc k) (t := .ref (G k)) (fun c b hb => (hE k c b hb).2) eb hu h3
                  exact .inr (.inr (.inr ⟨a, G k, tp, ws, us, b, rfl, ha, hex, h1, p, kk, fin⟩))
                · rcases isi1_ok hE e2 with ⟨k, _, e, _⟩ | ⟨a, _, ht, _⟩
                  · exact absurd ⟨k, e⟩ hx
                  · obtain ⟨us, p, kk⟩ := kitAny_of (K := X.K) (t := .type a) (fun c b hb => by
                      rcases isi1_ok hE hb with ⟨k, _, e, _⟩ | ⟨a', u, g1, g2, g3⟩
                      · exact absurd ⟨k, e⟩ hx
                      · rw [ht] at g1; cases g1; exact ⟨u, g2, g3⟩) eb hu h3
                    exact .inr (.inl ⟨v, tp, ws, _, us, b, rfl, h1, p, tyN_ok hd ht, kk, fin⟩)
              · exact q.elim
            · exact q.elim
          · exact q.elim
  · rename_i x c hnt
    cases vs with
    | nil => exact l.elim
    | cons v vs =>
      cases vs with
      | nil => exact l.2.elim
      | cons u vs =>
        cases vs with
        | cons _ _ => exact l.2.2.elim
        | nil =>
          have S' : StW G C ow r (T ++ (pushR x v ++ [(c, u)])) s H := by simpa [pushs, pushR] using S
          split at q
          · rename_i d e1
            split at q
            · rename_i b eb
              have hd := opd_rep S' l.1 e1
              have hc := StW.last (T := T ++ pushR x v) (by rw [List.append_assoc]; exact S')
              have fin : Q (.bl b) H := goes_val q ⟨ow, S.drop⟩ rfl fun _ _ => rfl
              rcases isi1_ok hE eb with ⟨k, w, rfl, hex, hu, kk⟩ | ⟨a, w, ht, hu, kk⟩
              · obtain ⟨p, ev, hp⟩ := hd
                subst ev
                exact .inr (.inr (.inl ⟨p, G k, u, w, b, rfl, hp, hex, clsU_ok hc hu, kk, fin⟩))
              · exact .inl ⟨v, u, _, w, b, rfl, clsU_ok hc hu, tyN_ok hd ht, kk, fin⟩
            · exact q.elim
          · exact q.elim
  · exact q.elim
theorem ve_isi {E : ETab} {fs : Av} {x : Str} {p pos : Pos} {e : Expr} {es : List Expr} (hE : ETabOk X.K G E) (hg : Gl X x) (hm : X.mg x = none) (hv : bootBuiltins x = some (.builtin "isinstance")) (ha : VA X G C W (e :: es) fs) (hn : x ≠ "__name__" := by decide) (hdb : (x == ("__debug__" : Str)) = false := by decide)
    (he : starEach (e :: es) X.env = (false, eval e X.env) :: starEach es X.env := by rfl) (hpl : (backTo pos (starEach es X.env)).any (·.1) = false := by rfl) : VE X G C W (.Call (.Name x p) (e :: es) [] pos) (cB (gIsi E) fs) := by
  refine PE.imp (pe_callB call_isiAll hg hm hv ha hn hdb he hpl) fun s H Q h => ?_
  obtain ⟨r, T, S, g⟩ := h
  exact many (T2 := []) (by simpa using S) g fun xs vs r1 H1 S1 l1 g1 => isi_go hE (by simpa using S1) l1 g1
theorem ve_gty {n : String} {x : Str} {pos : Pos} (hg : Gl X x) (hm : X.mg x = none) (hv : bootBuiltins x = some (.type n)) (hn : x ≠ "__name__" := by decide) (hd : (x == ("__debug__" : Str)) = false := by decide) : VE X G C W (.Name x pos) (cC (.ty n)) :=
  ve_c (pe_bltn (v := .ty n) hg hm hv rfl hn hd) rfl fun _ _ _ => rfl
end
end VL

namespace VL
open PySem PySem.Spec PyProof.Rows L2
section
variable {P : Program} {w : World} {K : PySem.W.Frag} {mg : Str → Option Value} {base : Heap} {G : GX}
theorem fnV2 {x qual : Str} {st : Stmt} {f : Addr} {fd : FuncData} {N ps : List Str} {k : Nat} {fb : Sv} (F : Fun K x qual st f fd) (S : FnScope N ps (defScope st))
    (hbody : ∀ (cdv : Value) (A : Around) (outer : List Env) (s : Shared) (H : Hp) (E : XK) (C : Fc), Room k (A.deeper (envOfC qual (defScope st) s.heap.objs.size f cdv)) → C.pin = [] → VSs (cxOf (L2.CX P w) P w K mg base N qual (defScope st) f cdv A outer s H E) G C (fun cls d _ H => E cls d H) (defBody st) fb) :
    FnOk P w K mg base (L2.CX P w) (k + 1) f fd ps (spV G ps.length (runF N.length fb)) := by
  refine F.okX S (fun vs H Q E h => spV_len h) (fun cdv A outer s H vs Q E hr h => ?_)
  obtain ⟨ds, ow0, h1, h2, h3, h4, ht, h5⟩ := h
  refine ⟨_, hbody cdv A outer s H E (fcOf H ow0) hr rfl, ?_⟩
  refine ⟨startR N.length ds, [], ⟨_, start_ok (N := N) ht h3 h2 h4⟩, ?_⟩
  unfold runF at h5
  cases e : fb (startR N.length ds) with
  | nx r =>
    rw [e] at h5
    intro s' H' S'
    obtain ⟨ow, S'⟩ := S'
    exact h5 .non H' (ext_of S') S'.tabs (behind_of (b := .tm 0) (fun z => nomatch z) S' rfl)
  | rt x r =>
    simp only [e] at h5
    intro s' v H' P'
    cases e2 : opd r x with
    | none => rw [e2] at h5; exact h5.elim
    | some d =>
      rw [e2] at h5
      obtain ⟨⟨ow, S'⟩, l⟩ := P'
      have z := opd_rep (T := []) (T2 := []) (by simpa using S') l e2
      refine h5 v H' (ext_of S') S'.tabs ?_
      cases x with
      | val d' => exact behind_of (b := .tm 0) (fun z => nomatch z) S' z
      | loc i => exact behind_of (b := .sl i) (fun z => nomatch z) S' z
  | exc c r =>
    simp only [e] at h5
    intro s' H' S'
    obtain ⟨ow, S'⟩ := S'
    exact h5 H' (ext_of S') S'.tabs
  | bk r => rw [e] at h5; exact h5.elim
  | ct r => rw [e] at h5; exact h5.elim
  | bad => rw [e] at h5; exact h5.elim
end
theorem pinV {C : Fc} (h : C.pin = []) (i : Nat) : ∀ p ∈ C.pin, p.1 ≠ i := fun p hp => by rw [h] at hp; simp at hp
theorem pinVo {C : Fc} (h : C.pin = []) (l : List Nat) : ∀ p ∈ C.pin, p.1 ∉ l := fun p hp => by rw [h] at hp; simp at hp
def keyOf : D → Option (Nat ⊕ String)
  | .cls j => some (.inl j)
  | .ty n => some (.inr n)
  | _ => none
abbrev Tab := List (Nat × (Nat ⊕ String) × Bool)
def findT (k : Nat) (q : Nat ⊕ String) : Tab → Option Bool
  | [] => none
  | (i, p, b) :: t => if i = k ∧ p = q then some b else findT k q t
def etab (t : Tab) : ETab := fun k c => match keyOf c with
  | some q => findT k q t
  | none => none
def valOf (G : GX) : Nat ⊕ String → Value
  | .inl j => .ref (G j)
  | .inr n => .type n
structure RowT (K : PySem.W.Frag) (G : GX) (k : Nat) (q : Nat ⊕ String) (b : Bool) : Prop where
  ex : ExcC K (G k)
  base : PySem.W.subIn K (valOf G q) (.type "BaseException") = some true ∨ ∃ n, q = .inr n
  kit : PySem.W.kitCls K (.ref (G k)) (valOf G q) = some b
  self : Value.ref (G k) = valOf G q → b = true
def AllT (K : PySem.W.Frag) (G : GX) : Tab → Prop
  | [] => True
  | (k, q, b) :: t => RowT K G k q b ∧ AllT K G t
theorem AllT.find {K : PySem.W.Frag} {G : GX} {k : Nat} {q : Nat ⊕ String} {b : Bool} : ∀ {t : Tab}, AllT K G t → findT k q t = some b → RowT K G k q b
  | [], _, e => by cases e
  | (i, p, c) :: t, h, e => by
    unfold findT at e
    split at e
    · rename_i z
      obtain ⟨rfl, rfl⟩ := z
      cases e
      exact h.1
    · exact AllT.find h.2 e
theorem AllT.etab {K : PySem.W.Frag} {G : GX} {t : Tab} (h : AllT K G t) : ETabOk K G (VL.etab t) := fun k c b e => by
  unfold VL.etab at e
  cases e2 : keyOf c with
  | none => rw [e2] at e; cases e
  | some q =>
    rw [e2] at e
    have r := h.find e
    refine ⟨r.ex, valOf G q, ?_, ?_⟩
    · cases c with
      | ty n => cases e2; rfl
      | cls j => cases e2; rfl
      | _ => cases e2
    · unfold PySem.W.kitOne
      by_cases z : (Value.ref (G k) == valOf G q) = true
      · rw [if_pos z, r.self (by simpa using z)]
      · rw [if_neg z]; exact r.kit
structure ClsF (K : PySem.W.Frag) (S : Addr) : Prop where
  ic : PySem.W.isClsIn K S = true
  tc : PySem.W.typeIn K (.ref S) = some (.type "type")
  bc : PySem.W.subIn K (.ref S) (.type "BaseException") = some true
def spLaw (K : PySem.W.Frag) : Sp := fun vs H Q _ => ∃ (a : Addr) (ns : List Int), vs = [.ref a] ∧ Holds ⟨fun _ => a, K, []⟩ H a .rd (ns.map V.int) ∧ ns.length ≤ 63 ∧ ∀ H', Q (.bl true) H'
theorem frzs_ints (ns : List Int) : frzs (ns.map D.int) = ns.map D.int := by
  rw [frzs_map, List.map_map]
  exact List.map_congr_left fun _ _ => rfl
theorem reps_ints {G : GX} {ow : Ow} {H : Hp} : ∀ (ns : List Int) (l : VL.Loc) (i : Nat), Reps G ow H (ns.map D.int) l i (ns.map V.int)
  | [], _, _ => rfl
  | n :: ns, l, i => ⟨_, _, rfl, rfl, reps_ints ns l (i + 1)⟩
def script (ns : List Int) : D := .node .rd false (ns.map D.int)
theorem law_imp {K : PySem.W.Frag} {G : GX} (hG : G.K = K) (hT : G.T = []) {F : List D → FO} (h : ∀ ns : List Int, ns.length ≤ 63 → F [script ns] = .ok (.bl true)) {vs : List V} {H : Hp} {Q : VK} {E : XK} (q : spLaw K vs H Q E) : spV G 1 F vs H Q E := by
  obtain ⟨a, ns, rfl, ha, hl, hq⟩ := q
  refine ⟨[script ns], fun _ => none, rfl, ?_, (fun a l z => nomatch z), ?_, (by rw [hT]; exact fun p hp => nomatch hp), ?_⟩
  · show [D.node .rd false (frzs (ns.map D.int))] = _
    rw [frzs_ints]; rfl
  · refine ⟨_, _, rfl, ⟨a, ns.map V.int, rfl, ?_, trivial, reps_ints ns _ _⟩, rfl⟩
    rcases ha with z | z
    · exact .inl z
    · exact .inr (by rw [hG]; exact z)
  · rw [h ns hl]
    intro v H' _ _ b
    obtain ⟨ow1, b, _, hr, _⟩ := b
    have e : v = .bl true := hr
    subst e
    exact hq H'
theorem law_in {K : PySem.W.Frag} {H : Hp} {a : Addr} {ns : List Int} (hl : ns.length ≤ 63) (hO : Only H) (hS : SqL K H a (ns.map V.int)) : spLaw K [.ref a] H (fun v _ => v = .bl true) fun _ _ _ => False := by
  refine ⟨a, ns, rfl, ?_, hl, fun _ => rfl⟩
  rcases hS with z | z
  · rcases hO a with q | ⟨o, xs, q⟩
    · rcases z with z | ⟨o, z⟩
      · rw [q] at z; cases z
      · exact .inl ⟨o, z⟩
    · rcases z with z | ⟨o, z⟩
      · rw [q] at z; cases z
      · exact .inl ⟨o, z⟩
  · exact .inr z
end VL

namespace VL
open PySem PySem.Spec PyProof.Rows L2
section
variable {X : Cx} {G : GX} {C : Fc} {W : WX} {ow ow' : Ow} {r : Rho} {T T1 T2 : List (D × V)} {s : L2.St} {H H' : Hp} {fa fb fc : Ev} {f g : Sv} {fs : Av}
theorem units65 {k : Nat} {A : Around} (h : Room k A) : A.units + 65 < cLine := by have := h.un; omega
def gRev (x : R) (r : Rho) : EO := match opd r x with
  | some (.node .lst _ xs) => .ok (.val (.node .lst true (frzs xs).reverse)) (touch r x)
  | some (.node .rd _ xs) => .ok (.val (.node .lst true (frzs xs).reverse)) (touch r x)
  | _ => .bad
def cRev (fa : Ev) : Ev := fun r => (fa r).bd gRev
def cIdx (i : Nat) (fa : Ev) : Ev := fun r => if isLst r i = true then cBin gIndex (cVar i) fa r else .bad
end
end VL
namespace VL
open PySem PySem.Spec PyProof.Rows L2
theorem look_relabel {env : Env} {x : Str} {k : NameKind} : ∀ {names : List (Str × NameKind)}, names.lookup x = some k →
    (names.map fun (n, k) => if (k == NameKind.free && env.scope.kind == .function && env.kindOf n == some .cell) then (n, NameKind.cell) else (n, k)).lookup x = some k ∨
    (k = .free ∧ (names.map fun (n, k) => if (k == NameKind.free && env.scope.kind == .function && env.kindOf n == some .cell) then (n, NameKind.cell) else (n, k)).lookup x = some .cell)
  | [], h => by simp at h
  | (n, k') :: r, h => by
    have ih := @look_relabel env x k r
    show List.lookup x ((if (k' == NameKind.free && env.scope.kind == .function && env.kindOf n == some .cell) = true then (n, NameKind.cell) else (n, k')) :: _) = _ ∨ (_ ∧ List.lookup x ((if (k' == NameKind.free && env.scope.kind == .function && env.kindOf n == some .cell) = true then (n, NameKind.cell) else (n, k')) :: _) = _)
    cases hx : x == n with
    | true =>
      simp only [List.lookup_cons, hx] at h
      cases h
      by_cases hc : (k == NameKind.free && env.scope.kind == .function && env.kindOf n == some .cell) = true
      · rw [if_pos hc]
        refine .inr ⟨?_, by simp only [List.lookup_cons, hx]⟩
        simp only [Bool.and_eq_true] at hc
        exact of_decide_eq_true (by simpa using hc.1.1)
      · rw [if_neg hc]
        exact .inl (by simp only [List.lookup_cons, hx])
    | false =>
      simp only [List.lookup_cons, hx] at h
      by_cases hc : (k' == NameKind.free && env.scope.kind == .function && env.kindOf n == some .cell) = true
      · rw [if_pos hc]; simp only [List.lookup_cons, hx]; exact ih h
      · rw [if_neg hc]; simp only [List.lookup_cons, hx]; exact ih h
theorem cv_free {env : Env} {scope : Scope} {x : Str} (h : scope.names.lookup x = some .free) : Vis (relabel scope env) x := (look_relabel h).elim (fun z => .inr (.inr z)) fun z => .inr (.inl z.2)
theorem cv_own {env : Env} {scope : Scope} {x : Str} (h : scope.names.lookup x = some .local) : (relabel scope env).names.lookup x = some .local := (look_relabel h).elim id fun z => nomatch z.1
theorem cv_gl {env : Env} {scope : Scope} {x : Str} (h : scope.names.lookup x = some .globalImplicit) : (relabel scope env).names.lookup x = some .globalImplicit := (look_relabel h).elim id fun z => nomatch z.1
end VL
namespace VL
open PySem PySem.Spec PyProof.Rows L2
theorem no_exc {P : Program} {w : World} {H : Hp} {s : Shared} {e : Value} {s' : Shared} (z : L2.CX P w [] H s (fun _ _ _ => False) e s') : False := by
  obtain ⟨_, _, _, _, _, _, _, _, _, _, _, _, _, _, _, _, z⟩ := z
theorem walk_lawV {k : Nat} {l : PySem.W.OpenLaw} {q : Program} {loose : List Str} {XP : (Str → Option Value) → Heap → Prop} {YP : World → Heap → Prop} {d : DefRec} {K : Params → PySem.W.Frag} (hn : l.most = some 63) (hdf : d.params.defaults = []) (hr : Room k callerA)
    (hY : ∀ (w : World) (h : Heap), YP w h → (K w.params).In h)
    (F : ∀ (w : World) (mg : Str → Option Value) (fa : Addr) (h : Heap), (K w.params).In h → h.Ns mainGlobals mg → mg d.name = some (.ref fa) →
      ∃ fd : FuncData, (∀ (s : Shared) (u : Value), BindsTo s fd ⟨[u], []⟩ [("script", u)]) ∧ ∀ base : Heap, (K w.params).In base → base.Ns mainGlobals mg → FnOk l.prog w (K w.params) mg base (L2.CX l.prog w) k fa fd ["script"] (VL.spLaw (K w.params))) :
    PySem.W.WalkO q loose XP YP l.row.toRowW d [] (fun f vs => PySem.call f vs) :=
  L2.walk_of (n := 63) (k := k) (x := "script") (CX := fun w => L2.CX l.prog w) (sp := fun w => VL.spLaw (K w.params)) hn (by decide) hdf hr hY F (fun w H a ns hl hO hS => law_in hl hO hS) fun w H s e s' z => no_exc z
end VL

namespace VL
open PySem PySem.Spec PyProof.Rows L2
section
variable {r r1 : Rho} {k : R → Rho → SO} {kE : R → Rho → EO} {g : Sv} {fa fb fc : Ev} {fs : Av} {x y : R} {d e : D} {i j : Nat} {n m : Int} {b : Bool}
@[simp] theorem q_sq1 : (SO.nx r).sq g = g r := rfl
@[simp] theorem q_sq2 : (SO.rt x r).sq g = .rt x r := rfl
@[simp] theorem q_sq3 {c : Nat} : (SO.exc c r).sq g = .exc c r := rfl
@[simp] theorem q_sq4 : (SO.bk r).sq g = .bk r := rfl
@[simp] theorem q_sq5 : (SO.ct r).sq g = .ct r := rfl
@[simp] theorem q_sq6 : SO.bad.sq g = .bad := rfl
@[simp] theorem q_st1 : (EO.ok y r).st k = k y r := rfl
@[simp] theorem q_st2 {c : Nat} : (EO.exc c r).st k = .exc c r := rfl
@[simp] theorem q_st3 : EO.bad.st k = .bad := rfl
@[simp] theorem q_abd1 {xs : List R} {kA : List R → Rho → EO} : (AO.ok xs r).bd kA = kA xs r := rfl
@[simp] theorem q_abd2 {c : Nat} {kA : List R → Rho → EO} : (AO.exc c r).bd kA = .exc c r := rfl
@[simp] theorem q_seq {f : Sv} : cSeq f g r = (f r).sq g := rfl
@[simp] theorem q_skip : cSkip r = .nx r := rfl
@[simp] theorem q_ret : cRet fa r = (fa r).st fun x r1 => .rt x r1 := rfl
@[simp] theorem q_raise {c : Nat} : cRaise c r = .exc c r := rfl
@[simp] theorem q_brk : cBrk r = .bk r := rfl
@[simp] theorem q_cnt : cCnt r = .ct r := rfl
@[simp] theorem q_expr : cExpr fa r = (fa r).st fun _ r1 => .nx r1 := rfl
@[simp] theorem q_ifs {f : Sv} : cIfS fa f g r = (fa r).st fun x r1 => match x with
  | .val (.bl true) => f r1
  | .val (.bl false) => g r1
  | _ => .bad := rfl
@[simp] theorem q_var : cVar i r = match r[i]? with
  | some (some d) => if atom d = true then .ok (.val d) r else .ok (.loc i) r
  | _ => .bad := rfl
@[simp] theorem q_c : cC d r = .ok (.val d) r := rfl
@[simp] theorem q_bin {gg : G2} : cBin gg fa fb r = (fa r).bd fun x r1 => (fb r1).bd fun y r2 => gg x y r2 := rfl
@[simp] theorem q_set : cSet fa r = (fa r).bd fun x r1 => match x with
  | .val d => .ok (.val d) r1
  | .loc i => (match opd r1 (.loc i) with
    | some d => .ok (.val (frz d)) (settle r1 (.loc i))
    | none => .bad) := rfl
@[simp] theorem q_asg {t : Tg} : cAsg t fa r = (cSet fa r).st (asgK t) := rfl
@[simp] theorem q_asgK {t : Tg} : asgK t (.val d) r = match tgt t d r with
    | some r2 => .nx r2
    | none => .bad := rfl
@[simp] theorem q_tgt : tgt (.nm i) d r = some (r.set i (some d)) := rfl
@[simp] theorem q_opd1 : opd r (.val d) = some d := rfl
@[simp] theorem q_opd2 : opd r (.loc i) = match r[i]? with
    | some (some d) => some d
    | _ => none := rfl
@[simp] theorem q_touch1 : touch r (.val d) = r := rfl
@[simp] theorem q_touch2 : touch r (.loc i) = match r[i]? with
    | some (some d) => r.set i (some (frzB d))
    | _ => r := rfl
@[simp] theorem q_settle2 : settle r (.loc i) = match r[i]? with
    | some (some d) => r.set i (some (frz d))
    | _ => r := rfl
@[simp] theorem q_settle1 : settle r (.val d) = r := rfl
@[simp] theorem q_at1 : atom (.int n) = true := rfl
@[simp] theorem q_at2 : atom (.bl b) = true := rfl
@[simp] theorem q_at3 : atom .non = true := rfl
@[simp] theorem q_at4 {s : Str} : atom (.str s) = true := rfl
@[simp] theorem q_at5 {c : Nat} : atom (.exc c) = true := rfl
@[simp] theorem q_at6 {c : Nat} : atom (.cls c) = true := rfl
@[simp] theorem q_at7 {s : String} : atom (.ty s) = true := rfl
@[simp] theorem q_at8 {k : Kd} {o : Bool} {xs : List D} : atom (.node k o xs) = false := rfl
@[simp] theorem q_g2 {f : D → D → Option D} : g2 f x y r = match opd r x, opd r y with
  | some d, some e => (match f d e with
    | some z => if atom z = true then .ok (.val z) r else .bad
    | none => .bad)
  | _, _ => .bad := rfl
@[simp] theorem q_fI {ok : Int → Int → Bool} {gg : Int → Int → D} : fI ok gg (.int n) (.int m) = if ok n m = true then some (gg n m) else none := rfl
@[simp] theorem q_yes : yes2 n m = true := rfl
@[simp] theorem q_lt : gLt x y r = g2 (fI yes2 fun i j => .bl (decide (i < j))) x y r := rfl
@[simp] theorem q_le : gLe x y r = g2 (fI yes2 fun i j => .bl (decide (i ≤ j))) x y r := rfl
@[simp] theorem q_gt : gGt x y r = g2 (fI yes2 fun i j => .bl (decide (j < i))) x y r := rfl
@[simp] theorem q_ge : gGe x y r = g2 (fI yes2 fun i j => .bl (decide (j ≤ i))) x y r := rfl
@[simp] theorem q_sub : gSub x y r = g2 (fI yes2 fun i j => .int (i - j)) x y r := rfl
@[simp] theorem q_div : gDiv x y r = g2 (fI divOk fun i j => .int (i / j)) x y r := rfl
@[simp] theorem q_mod : gMod x y r = g2 (fI posOk fun i j => .int (i % j)) x y r := rfl
@[simp] theorem q_eq : gEq x y r = g2 eqD x y r := rfl
@[simp] theorem q_ne : gNe x y r = g2 neD x y r := rfl
@[simp] theorem q_in : gIn x y r = g2 (fun d e => (inD d e).map .bl) x y r := rfl
@[simp] theorem q_eqI : eqD (.int n) (.int m) = some (.bl (decide (n = m))) := by
  have e : PyData.eqv (.int n) (.int m) = decide (n = m) := by
    show (n == m) = _
    by_cases h : n = m <;> simp [h]
  show (if (true && true) = true then some (D.bl (PyData.eqv (.int n) (.int m))) else none) = _
  rw [e]; rfl
@[simp] theorem q_neI : neD (.int n) (.int m) = some (.bl (!decide (n = m))) := by
  have e : PyData.eqv (.int n) (.int m) = decide (n = m) := by
    show (n == m) = _
    by_cases h : n = m <;> simp [h]
  show (if (true && true) = true then some (D.bl (!PyData.eqv (.int n) (.int m))) else none) = _
  rw [e]; rfl
@[simp] theorem q_addI : gAdd (.val (.int n)) (.val (.int m)) r = .ok (.val (.int (n + m))) r := by unfold gAdd; rfl
theorem q_add : gAdd x y r = match opd r x, opd r y with
  | some (.int i), some (.int j) => .ok (.val (.int (i + j))) r
  | some (.int i), some (.bl k) => .ok (.val (.int (i + b2i k))) r
  | some (.str a), some (.str b) => if a.length + b.length ≤ 16777216 then .ok (.val (.str (a ++ b))) r else .bad
  | some (.node .lst _ xs), some (.node .lst _ ys) => if xs.length + ys.length ≤ 16777216 then .ok (.val (.node .lst true (frzs xs ++ frzs ys))) (touch (touch r y) x) else .bad
  | _, _ => .bad := by unfold gAdd; rfl
@[simp] theorem q_mulI : gMul (.val (.int n)) (.val (.int m)) r = if mulOk n m = true then .ok (.val (.int (n * m))) r else .bad := by unfold gMul; rfl
theorem q_mulL {o : Bool} {xs : List D} (h : 0 ≤ n ∧ n < 9000000000000000000 ∧ xs.length * n.toNat ≤ 16777216) : gMul (.val (.node .lst o xs)) (.val (.int n)) r = .ok (.val (.node .lst true (List.replicate n.toNat (frzs xs)).flatten)) r := by
  unfold gMul
  show (if n.natAbs < 2 ^ 63 ∧ xs.length * n.toNat ≤ 16777216 then _ else _) = _
  rw [if_pos ⟨by omega, h.2.2⟩]; rfl
theorem q_mul : gMul x y r = match opd r x, opd r y with
  | some (.int i), some (.int j) => if mulOk i j = true then .ok (.val (.int (i * j))) r else .bad
  | some (.node .lst _ xs), some (.int k) => if k.natAbs < 2 ^ 63 ∧ xs.length * k.toNat ≤ 16777216 then .ok (.val (.node .lst true (List.replicate k.toNat (frzs xs)).flatten)) (touch r x) else .bad
  | _, _ => .bad := by unfold gMul; rfl
@[simp] theorem q_ix : gIx x y r = match opd r x, opd r y with
  | some (.node .lst _ xs), some (.int i) => (match atI xs i with | some d => pick r x d | none => .bad)
  | some (.node .rd _ xs), some (.int i) => (match atI xs i with | some d => pick r x d | none => .bad)
  | some (.node .tup _ xs), some (.int i) => (match atI xs i with | some d => pick r x d | none => .bad)
  | some (.str z), some (.int i) => if z.length ≤ 16777216 then (match atI z.cps.toList i with | some c => .ok (.val (.str ⟨#[c]⟩)) r | none => .bad) else .bad
  | _, _ => .bad := rfl
@[simp] theorem q_pick : pick r x d = if atom d = true then .ok (.val d) r else .ok (.val (frz d)) (touch r x) := rfl
@[simp] theorem q_and : cAnd fa fb r = (fa r).bd fun x r1 => match x with
  | .val (.bl true) => fb r1
  | .val (.bl false) => .ok (.val (.bl false)) r1
  | _ => .bad := rfl
@[simp] theorem q_or : cOr fa fb r = (fa r).bd fun x r1 => match x with
  | .val (.bl true) => .ok (.val (.bl true)) r1
  | .val (.bl false) => fb r1
  | _ => .bad := rfl
@[simp] theorem q_not : cNot fa r = (fa r).bd fun x r1 => match x with
  | .val (.bl b) => .ok (.val (.bl (!b))) r1
  | _ => .bad := rfl
@[simp] theorem q_neg : cNeg fa r = (fa r).bd fun x r1 => match x with
  | .val (.int i) => .ok (.val (.int (-i))) r1
  | _ => .bad := rfl
@[simp] theorem q_nil : cNil r = .ok [] r := rfl
@[simp] theorem q_cons : cCons fa fs r = match fa r with
  | .ok x r1 => (match fs r1 with
    | .ok xs r2 => .ok (x :: xs) r2
    | .exc c r2 => .exc c r2
    | .bad => .bad)
  | .exc c r1 => .exc c r1
  | .bad => .bad := rfl
@[simp] theorem q_opds0 : opds r [] = some [] := rfl
@[simp] theorem q_opds1 {xs : List R} : opds r (x :: xs) = match opd r x, opds r xs with
    | some d, some ds => some (d :: ds)
    | _, _ => none := rfl
@[simp] theorem q_settles0 : settles r [] = r := rfl
@[simp] theorem q_settles1 {xs : List R} : settles r (x :: xs) = settles (settle r x) xs := rfl
@[simp] theorem q_valsR0 : valsR [] = some [] := rfl
@[simp] theorem q_valsR1 {xs : List R} : valsR (.val d :: xs) = match valsR xs with
    | some ds => some (d :: ds)
    | none => none := rfl
@[simp] theorem q_lst : cLst fs r = (fs r).bd fun xs r1 => match valsR xs with
  | some ds => if ds.length ≤ 16777216 then .ok (.val (.node .lst true ds)) r1 else .bad
  | none => .bad := rfl
@[simp] theorem q_tup : cTup fs r = (fs r).bd fun xs r1 => match valsR xs with
  | some ds => if ds.length ≤ 16777216 then .ok (.val (.node .tup false ds)) r1 else .bad
  | none => .bad := rfl
@[simp] theorem q_B {gg : List R → Rho → EO} : cB gg fs r = (fs r).bd gg := rfl
@[simp] theorem q_b1 {f : D → Option D} : b1 f [x] r = match opd r x with
    | some d => (match f d with
      | some z => if atom z = true then .ok (.val z) r else .bad
      | none => .bad)
    | none => .bad := rfl
@[simp] theorem q_len1 {o : Bool} {xs : List D} : lenD (.node .lst o xs) = some (.int xs.length) := rfl
@[simp] theorem q_len2 {o : Bool} {xs : List D} : lenD (.node .rd o xs) = some (.int xs.length) := rfl
@[simp] theorem q_len3 {o : Bool} {xs : List D} : lenD (.node .tup o xs) = some (.int xs.length) := rfl
@[simp] theorem q_listOf : gListOf [x] r = match opd r x with
    | some (.node .lst _ xs) => .ok (.val (.node .lst true (frzs xs))) (touch r x)
    | some (.node .rd _ xs) => .ok (.val (.node .lst true (frzs xs))) (touch r x)
    | some (.node .tup _ xs) => .ok (.val (.node .lst true (frzs xs))) (touch r x)
    | _ => .bad := rfl
@[simp] theorem q_max2 : gMax2 [.val (.int n), .val (.int m)] r = .ok (.val (.int (if m > n then m else n))) r := rfl
@[simp] theorem q_min2 : gMin2 [.val (.int n), .val (.int m)] r = .ok (.val (.int (if m < n then m else n))) r := rfl
@[simp] theorem q_call {nn : Nat} {F : List D → FO} : cCall nn F fs r = (fs r).bd fun xs r1 => if xs.length = nn then callK F xs r1 else .bad := rfl
@[simp] theorem q_callK {F : List D → FO} {xs : List R} : callK F xs r = match opds r xs with
  | some ds => (match F (frzs ds) with
    | .ok d => if noL d = true then .ok (.val d) r else .ok (.val d) (settles r xs)
    | .exc c => .exc c r
    | .bad => .bad)
  | none => .bad := rfl
@[simp] theorem q_callM {nn : Nat} {F : D → List D → MO} : cCallM nn i F fs r = (fs r).bd (callKM nn i F) := rfl
@[simp] theorem q_callKM {nn : Nat} {F : D → List D → MO} {rest : List R} : callKM nn i F (.loc j :: rest) r = if j = i ∧ rest.length = nn then (match opd r (.loc i), valsR rest with
    | some d0, some ds => (match F d0 (frzs ds) with
      | .ok d d0' => .ok (.val d) (r.set i (some d0'))
      | .bad => .bad)
    | _, _ => .bad) else .bad := rfl
@[simp] theorem q_for {t : Tg} {fi : Iv} {f : Sv} : cFor t fi f r = match fi r with
  | .ok ds r1 => forL t f ds r1
  | .exc c r1 => .exc c r1
  | .bad => .bad := rfl
@[simp] theorem q_iLst : iLst fa r = match cSet fa r with
  | .ok (.val (.node .lst _ ds)) r1 => .ok ds r1
  | .ok (.val (.node .rd _ ds)) r1 => .ok ds r1
  | .exc c r1 => .exc c r1
  | _ => .bad := rfl
@[simp] theorem q_iRng {gg : Rho → List R → IO} : iRng gg fs r = match fs r with
  | .ok xs r1 => gg r1 xs
  | .exc c r1 => .exc c r1
  | .bad => .bad := rfl
@[simp] theorem q_rng1 : rngI1 r [.val (.int n)] = if within n = true then .ok (rngD 0 1 n.toNat) r else .bad := rfl
@[simp] theorem q_rng2 : rngI2 r [.val (.int n), .val (.int m)] = if (within n && within m) = true then .ok (rngD n 1 (m - n).toNat) r else .bad := rfl
@[simp] theorem q_lc {vs : List Nat} {t : Tg} {fi : Iv} {fc : Option Ev} {fe : Ev} : cLc vs t fi fc fe r = match fi r with
  | .ok ds r1 => (match lcL t fc fe vs ds [] (wipeR r1 vs) with
    | .ok acc r2 => .ok (.val (.node .lst true acc)) (backR r1 r2 vs)
    | .bad => .bad)
  | .exc c r1 => .exc c r1
  | .bad => .bad := rfl
@[simp] theorem q_wipe0 : wipeR r [] = r := rfl
@[simp] theorem q_wipe1 {vs : List Nat} : wipeR r (i :: vs) = (wipeR r vs).set i none := rfl
@[simp] theorem q_isLst : isLst r i = match r[i]? with
  | some (some (.node .lst _ _)) => true
  | _ => false := rfl
@[simp] theorem q_app : cApp i fa r = if isLst r i = true then (cSet fa r).bd (appK i) else .bad := rfl
@[simp] theorem q_appK : appK i (.val d) r = match r[i]? with
  | some (some (.node .lst true ds)) => if ds.length < 16777216 then .ok (.val .non) (r.set i (some (.node .lst true (ds ++ [d])))) else .bad
  | _ => .bad := by
  unfold appK
  split <;> rename_i h <;> simp_all
@[simp] theorem q_setIx {fk : Ev} : cSetIx i fk fa r = (cSet fa r).st fun x r1 => if isLst r1 i = true then (fk r1).st (setIxK i x) else .bad := rfl
@[simp] theorem q_setIxK : setIxK i (.val d) y r = match opd r y, r[i]? with
  | some (.int k), some (some (.node .lst true ds)) => (match ixN ds.length k with
    | some j => .nx (r.set i (some (.node .lst true (ds.set j d))))
    | none => .bad)
  | _, _ => .bad := by
  unfold setIxK
  split <;> rename_i h <;> simp_all <;> rfl
end
def lints (o : Bool) (ns : List Int) : D := .node .lst o (ns.map .int)
@[simp] theorem frz_lints {o : Bool} {ns : List Int} : frz (lints o ns) = lints false ns := by
  show D.node .lst false (frzs (ns.map D.int)) = _
  rw [frzs_ints]; rfl
end VL
namespace VL
open PySem PySem.Spec PyProof.Rows L2
theorem posOk_of {i m : Int} (hm : 0 < m) : posOk i m = true := decide_eq_true hm
theorem divOk_of' {i m : Int} (hm : 0 < m) (hm2 : m < 1073741824) : divOk i m = true := by
  have h2 : m.natAbs < 1073741824 := by omega
  unfold divOk; simp [hm, h2]
theorem mulOk_l {i j : Int} (h : i.natAbs < 2 ^ 64) : mulOk i j = true := by unfold mulOk; simp [h]
theorem mulOk_r {i j : Int} (h : j.natAbs < 2 ^ 64) : mulOk i j = true := by
  unfold mulOk
  rw [decide_eq_true h]; simp
theorem canLay_ints : ∀ ns : List Int, PyData.canLayAll0 (toPys (ns.map D.int)) = true ∧ PyData.depthAll (toPys (ns.map D.int)) = 0
  | [] => ⟨rfl, rfl⟩
  | n :: ns => by
    obtain ⟨h1, h2⟩ := canLay_ints ns
    constructor
    · show (true && PyData.canLayAll0 (toPys (ns.map D.int))) = true
      rw [h1]; rfl
    · show max 0 (PyData.depthAll (toPys (ns.map D.int))) = 0
      rw [h2]; rfl
theorem eqOk_lints (o : Bool) (ns : List Int) : eqOk (.node .lst o (ns.map .int)) = true := by
  obtain ⟨h1, h2⟩ := canLay_ints ns
  show (PyData.canLayAll0 (toPys (ns.map D.int)) && decide (PyData.depthAll (toPys (ns.map D.int)) + 1 ≤ 64)) = true
  rw [h1, h2]; rfl
theorem eqv_ints : ∀ xs ys : List Int, PyData.eqvAll (toPys (xs.map D.int)) (toPys (ys.map D.int)) = decide (xs = ys)
  | [], [] => rfl
  | [], y :: ys => rfl
  | x :: xs, [] => rfl
  | x :: xs, y :: ys => by
    show ((x == y) && PyData.eqvAll (toPys (xs.map D.int)) (toPys (ys.map D.int))) = _
    rw [eqv_ints xs ys]
    by_cases h : x = y <;> by_cases h2 : xs = ys <;> simp [h, h2]
theorem eq_lints {o o' : Bool} (xs ys : List Int) : eqD (.node .lst o (xs.map .int)) (.node .lst o' (ys.map .int)) = some (.bl (decide (xs = ys))) := by
  unfold eqD
  rw [eqOk_lints, eqOk_lints]
  show some (D.bl (PyData.eqvAll (toPys (xs.map D.int)) (toPys (ys.map D.int)))) = _
  rw [eqv_ints]
theorem ne_lints {o o' : Bool} (xs ys : List Int) : neD (.node .lst o (xs.map .int)) (.node .lst o' (ys.map .int)) = some (.bl (!decide (xs = ys))) := by
  unfold neD
  rw [eqOk_lints, eqOk_lints]
  show some (D.bl (!PyData.eqvAll (toPys (xs.map D.int)) (toPys (ys.map D.int)))) = _
  rw [eqv_ints]
theorem noLs_ints : ∀ ns : List Int, noLs (ns.map D.int) = true
  | [] => rfl
  | n :: ns => by show (true && noLs (ns.map D.int)) = true; rw [noLs_ints ns]; rfl
theorem noL_lints (ns : List Int) : noL (.node .lst true (ns.map .int)) = true := by
  show ((true || false) && noLs (ns.map D.int)) = true
  rw [noLs_ints]; rfl
theorem forL_all {α : Type} {t : Tg} {f : Sv} (st : α → Rho) (P : α → Prop) : ∀ (ds : List D) (a : α), P a → (∀ a d, d ∈ ds → P a → ∃ r1 a', tgt t d (st a) = some r1 ∧ f r1 = .nx (st a') ∧ P a') → ∃ a', forL t f ds (st a) = .nx (st a') ∧ P a'
  | [], a, h, _ => ⟨a, rfl, h⟩
  | d :: ds, a, h, k => by
    obtain ⟨r1, a', e1, e2, h'⟩ := k a d List.mem_cons_self h
    obtain ⟨a'', e3, h''⟩ := forL_all st P ds a' h' (fun a d hd => k a d (List.mem_cons_of_mem _ hd))
    refine ⟨a'', ?_, h''⟩
    show (match tgt t d (st a) with | none => _ | some r1 => _) = _
    rw [e1]
    show (match f r1 with | .nx r2 => forL t f ds r2 | .ct r2 => forL t f ds r2 | .bk r2 => .nx r2 | o => o) = _
    rw [e2]
    exact e3
end VL
namespace VL
open PySem PySem.Spec PyProof.Rows L2
@[simp] theorem q_rev {fa : Ev} {r : Rho} : cRev fa r = (fa r).bd gRev := rfl
@[simp] theorem q_gRev {x : R} {r : Rho} : gRev x r = match opd r x with
  | some (.node .lst _ xs) => .ok (.val (.node .lst true (frzs xs).reverse)) (touch r x)
  | some (.node .rd _ xs) => .ok (.val (.node .lst true (frzs xs).reverse)) (touch r x)
  | _ => .bad := rfl
@[simp] theorem q_sl {fa : Ev} {lo hi : Option Ev} {r : Rho} : cSl fa lo hi r = (fa r).bd fun x r1 => part lo r1 fun l r2 => part hi r2 fun h r3 => gSl x l h r3 := rfl
@[simp] theorem q_part0 {r : Rho} {k : Option Int → Rho → EO} : part none r k = k none r := rfl
@[simp] theorem q_part1 {f : Ev} {r : Rho} {k : Option Int → Rho → EO} : part (some f) r k = (f r).bd fun y r' => match y with
    | .val (.int i) => k (some i) r'
    | _ => .bad := rfl
@[simp] theorem q_gSl {x : R} {lo hi : Option Int} {r : Rho} : gSl x lo hi r = match opd r x with
  | some (.node .lst _ xs) => .ok (.val (.node .lst true (cutD (frzs xs) lo hi))) (touch r x)
  | some (.node .rd _ xs) => .ok (.val (.node .lst true (cutD (frzs xs) lo hi))) (touch r x)
  | some (.node .tup _ xs) => .ok (.val (.node .tup false (cutD (frzs xs) lo hi))) (touch r x)
  | _ => .bad := rfl
@[simp] theorem q_idx {i : Nat} {fa : Ev} {r : Rho} : cIdx i fa r = if isLst r i = true then cBin gIndex (cVar i) fa r else .bad := rfl
@[simp] theorem q_gIndex {x y : R} {r : Rho} : gIndex x y r = match opd r x, opd r y with
  | some (.node .lst _ ds), some d => if (flatD d && ds.all flatD) = true then (match idxD ds d with
    | some j => .ok (.val (.int (j : Nat))) r
    | none => .bad) else .bad
  | _, _ => .bad := rfl
@[simp] theorem q_frzB {k : Kd} {o : Bool} {xs : List D} : frzB (.node k o xs) = .node k o (frzs xs) := rfl
@[simp] theorem q_try {tb : Nat → Option Bool} {i : Option Nat} {fb fs : Sv} {r : Rho} : cTry tb i fb fs r = match fb r with
  | .exc c r1 => (match tb c with
    | some true => inClause i (fs (putE i c r1))
    | some false => .exc c r1
    | none => .bad)
  | o => o := rfl
@[simp] theorem q_putE {j c : Nat} {r : Rho} : putE (some j) c r = r.set j (some (.exc c)) := rfl
@[simp] theorem q_putE0 {c : Nat} {r : Rho} : putE none c r = r := rfl
@[simp] theorem q_inC {j : Nat} {r : Rho} : inClause (some j) (.nx r) = .nx (r.set j none) := rfl
@[simp] theorem q_inC0 {r : Rho} : inClause none (.nx r) = .nx r := rfl
@[simp] theorem q_inC2 {j : Option Nat} {x : R} {r : Rho} : inClause j (.rt x r) = .rt x r := rfl
theorem frz_ints (ns : List Int) (o : Bool) : frz (.node .lst o (ns.map .int)) = .node .lst false (ns.map .int) := by
  show D.node .lst false (frzs (ns.map D.int)) = _
  rw [frzs_ints]
end VL

namespace VL
open PySem PySem.Spec PyProof.Rows L2
theorem q_addL {x y : R} {r : Rho} {o o' : Bool} {xs ys : List D} (h1 : opd r x = some (.node .lst o xs)) (h2 : opd r y = some (.node .lst o' ys)) (h : xs.length + ys.length ≤ 16777216) : gAdd x y r = .ok (.val (.node .lst true (frzs xs ++ frzs ys))) (touch (touch r y) x) := by
  rw [q_add, h1, h2]
  show (if xs.length + ys.length ≤ 16777216 then _ else _) = _
  rw [if_pos h]
theorem q_addLI {r : Rho} {o o' : Bool} (xs ys : List Int) (h : xs.length + ys.length ≤ 16777216) : gAdd (.val (.node .lst o (xs.map .int))) (.val (.node .lst o' (ys.map .int))) r = .ok (.val (.node .lst true ((xs ++ ys).map .int))) r := by
  rw [q_addL (o := o) (o' := o') (xs := xs.map .int) (ys := ys.map .int) rfl rfl (by rw [List.length_map, List.length_map]; exact h), frzs_ints, frzs_ints, List.map_append]
  rfl
theorem q_mulLI {r : Rho} {o : Bool} (xs : List Int) {k : Int} (h : 0 ≤ k ∧ k < 9000000000000000000 ∧ xs.length * k.toNat ≤ 16777216) : gMul (.val (.node .lst o (xs.map .int))) (.val (.int k)) r = .ok (.val (.node .lst true ((List.replicate k.toNat xs).flatten.map .int))) r := by
  rw [q_mulL (by rw [List.length_map]; exact h), frzs_ints, List.map_flatten, List.map_replicate]
end VL

namespace VL
open PySem PySem.Spec PyProof.Rows L2
theorem forL_cons {t : Tg} {f : Sv} {d : D} {ds : List D} {r r1 r2 : Rho} (h1 : tgt t d r = some r1) (h2 : f r1 = .nx r2) : forL t f (d :: ds) r = forL t f ds r2 := by
  show (match tgt t d r with | none => _ | some r1 => _) = _
  rw [h1]
  show (match f r1 with | .nx r2 => forL t f ds r2 | .ct r2 => forL t f ds r2 | .bk r2 => .nx r2 | o => o) = _
  rw [h2]
end VL

namespace VL
open PySem PySem.Spec PyProof.Rows L2
section
variable {X : Cx} {G : GX} {C : Fc} {W : WX} {ow ow' : Ow} {r : Rho} {T T1 T2 : List (D × V)} {s : L2.St} {H H' : Hp} {fa fb fc : Ev} {fs : Av}
theorem StW.relist {i n : Nat} {o' : Bool} {ds ds' : List D} {a : Addr} {vs' : List V} {l : VL.Loc} (S : StW G C ow r T s H) (q : r[i]? = some (some (.node .lst true ds))) (ha : s[i]? = some (some (.ref a))) (e : frzs ds' = ds') (h : Reps G ow H ds' l n vs') :
    StW G C ow (r.set i (some (.node .lst true ds'))) T s (upd H a (.lst vs')) := by
  obtain ⟨v, z1, a', vs, ev, z2, z3, z4⟩ := S.sl i _ q
  rw [ha] at z1
  cases z1
  cases ev
  have oa : ow a = some ⟨.sl i, []⟩ := by simpa using z3.cases.resolve_left (fun z => nomatch z)
  have exn : ∀ (b : Addr) (o : HO), H b = some o → ¬ OwnO (some o) → upd H a (.lst vs') b = some o := fun b o z n => by
    rw [upd_ne (fun e => by have m := S.mu a _ oa; rw [e] at z; rw [z] at m; exact n m)]; exact z
  refine StW.write (k := .lst) (k' := .lst) (ow' := ow) (fun z => nomatch z) S q ha trivial (vs' := vs') upd_same (fun b n => n) (fun b j p n _ => n) (fun b p n => n) (fun b l y => ⟨l, y, id⟩) (fun b l y n l' y2 => by rw [y] at y2; cases y2; exact n) oa ?_ (fun j d' w y => ?_)
  · exact Reps.moveF _ e (fun b o z n => ⟨by rw [upd_ne (fun e => by subst e; rw [oa] at n; cases n)]; exact .inl z, n⟩) (fun b o z n => exn b o z n) h
  · exact Rep.mono (l := ⟨.tm j, []⟩) d' (fun b o z w => by rw [upd_ne (apart oa w (.inl (fun z => nomatch z)))]; exact .inl z) (fun b o z n => exn b o z n) (fun b o _ n => n) (fun b o p _ n => n) (S.tm j d' w y)
theorem touch_lst {i : Nat} {ds : List D} (q : r[i]? = some (some (.node .lst true ds))) : touch r (.loc i) = r.set i (some (.node .lst true (frzs ds))) := by
  show (match r[i]? with | some (some d) => r.set i (some (frzB d)) | _ => r) = _
  rw [q]; rfl
theorem StW.mine {i : Nat} {ds : List D} (S : StW G C ow r T s H) (q : r[i]? = some (some (.node .lst true ds))) : ∃ ow' a vs, s[i]? = some (some (.ref a)) ∧ H a = some (.lst vs) ∧ StW G C ow' (r.set i (some (.node .lst true (frzs ds)))) T s H ∧ (r.set i (some (.node .lst true (frzs ds))))[i]? = some (some (.node .lst true (frzs ds))) ∧ (∀ l, Reps G ow' H (frzs ds) l 0 vs) ∧ (∀ b, ow b = none → ow' b = none) ∧ ow' a = some ⟨.sl i, []⟩ := by
  obtain ⟨v, z1, z⟩ := S.sl i _ q
  have e1 : opd r (.loc i) = some (.node .lst true ds) := by
    show (match r[i]? with | some (some d) => some d | _ => none) = _
    rw [q]
  obtain ⟨ow', a, vs, S', ev, h1, rx, hn⟩ := StW.parts (T := T) (x := .loc i) (v := v) (by simpa [pushR] using S) z1 e1
  subst ev
  rw [touch_lst q] at S'
  have q' : (r.set i (some (.node .lst true (frzs ds))))[i]? = some (some (.node .lst true (frzs ds))) := List.getElem?_set_self (List.getElem?_eq_some_iff.mp q).1
  refine ⟨ow', a, vs, z1, h1, S', q', rx, hn, ?_⟩
  obtain ⟨v2, w1, a2, vs2, ev, w2, w3, _⟩ := S'.sl i _ q'
  rw [z1] at w1
  cases w1
  cases ev
  simpa using w3.cases.resolve_left (fun z => nomatch z)
def cPop (i : Nat) : Ev := fun r => match r[i]? with
  | some (some (.node .lst true ds)) => (match (frzs ds)[ds.length - 1]? with
    | some d => .ok (.val d) ((r.set i (some (.node .lst true (frzs ds)))).set i (some (.node .lst true (frzs ds).dropLast)))
    | none => .bad)
  | _ => .bad
def extK (i : Nat) (x : R) (r1 : Rho) : EO := match opd r1 x with
  | some (.node .lst _ es) => (match (touch r1 x)[i]? with
    | some (some (.node .lst true ds)) => if ds.length + es.length ≤ 16777216 then .ok (.val .non) (((touch r1 x).set i (some (.node .lst true (frzs ds)))).set i (some (.node .lst true (frzs ds ++ frzs es)))) else .bad
    | _ => .bad)
  | _ => .bad
def cExt (i : Nat) (fa : Ev) : Ev := fun r => if isLst r i = true then (fa r).bd (extK i) else .bad
theorem ve_ext {i : Nat} {x : Str} {e : Expr} {p apos cpos : Pos} (hN : X.N[i]? = some x) (hv : Vis X.env.scope x) (hd : (x == ("__debug__" : Str)) = false) (hcd : (x == ("__classdict__" : Str)) = false) (ha : VE X G C W e fa)
    (hbase : attributeBase (.Name x p) "extend" X.env (eval (.Name x p) X.env) = eval (.Name x p) X.env := by rfl)
    (hfew : ((backTo cpos (starEach [e] X.env)).all (fun x => !x.1) && (backToKw cpos (keywordEach [] X.env)).all (fun x => x.1.isSome)
      && decide ([e].length + ([] : List Keyword).length + (if ([] : List Keyword).isEmpty then 0 else 1) < 30)) = true := by rfl)
    (hline : (apos.endLine == cpos.line) = true := by rfl) (hs : starEach [e] X.env = (false, eval e X.env) :: starEach [] X.env := by rfl) (hplain : (backTo cpos (starEach [] X.env)).any (·.1) = false := by rfl) :
    VE X G C W (.Call (.Attribute (.Name x p) "extend" apos) [e] [] cpos) (cExt i fa) := by
  refine PE.imp (pe_bm PySem.F.plainAttrs_list PySem.F.slot_list_extend PySem.F.type_list_extend mt_extend (pe_var hN hv hd hcd) (pa_cons ha pa_nil hs) hbase hfew hline hs hplain) fun s H Q h => ?_
  obtain ⟨r, T, S, g⟩ := h
  have g : Goes G C W T s Q (cExt i fa r) := g
  unfold cExt at g
  split at g
  · rename_i hi
    obtain ⟨o, ds, hr⟩ := isLst_at hi
    obtain ⟨ow, S0⟩ := S
    obtain ⟨v, v1, a, vs, ev, v2, v3, v4⟩ := S0.sl i _ hr
    subst ev
    refine ⟨_, v1, .inl ⟨rfl, vs, SqL.of v2⟩, ?_⟩
    refine one (fa := fa) ⟨ow, S0⟩ g fun x v' r1 H1 P g1 => ?_
    unfold extK at g1
    split at g1
    · rename_i o2 es e1
      split at g1
      · rename_i ds2 q
        split at g1
        · rename_i hz
          obtain ⟨ow1, S1⟩ := P.1
          obtain ⟨ow2, b, zs, S2, ev, hB, rxe, hn⟩ := S1.parts P.2 e1
          subst ev
          obtain ⟨ow3, a', vs', z1, hA, S3, q3, rx, hn3, oa⟩ := S2.mine q
          rw [v1] at z1
          cases z1
          have l1 := (rx ⟨.fo, []⟩).length
          have l2 := (rxe ⟨.fo, []⟩).length
          rw [frzs_length] at l1 l2
          have re : Reps G ow3 H1 (frzs es) ⟨.fo, []⟩ 0 zs := Reps.moveF _ (frzs_frzs es) (fun b o z n => ⟨z, hn3 b n⟩) (fun _ _ z _ => z) (rxe ⟨.fo, []⟩)
          have S4 := S3.relist (o' := true) q3 v1 (by rw [frzs_append, frzs_frzs, frzs_frzs]) (Reps.app (frzs_frzs ds2) (frzs_frzs es) (rx ⟨.fo, []⟩) re)
          exact ⟨a, b, vs', zs, rfl, rfl, hA, hB, by rw [sizeLine_eq, ← l1, ← l2]; exact hz, g1 _ _ ⟨StOk.pushN ⟨_, S4⟩, trivial⟩⟩
        · exact g1.elim
      · exact g1.elim
    · exact g1.elim
  · exact g.elim
end
end VL

namespace VL
open PySem PySem.Spec PyProof.Rows L2
end VL
namespace VL
open PySem PySem.Spec PyProof.Rows L2
def FP (k : Nat) (d : D) : Prop := (toPy d).canLay0 = true ∧ (toPy d).depth ≤ k
theorem FP.mono {k m : Nat} {d : D} (h : FP k d) (hm : k ≤ m) : FP m d := ⟨h.1, Nat.le_trans h.2 hm⟩
theorem fp_int (n : Int) (k : Nat) : FP k (.int n) := ⟨rfl, Nat.zero_le _⟩
theorem fp_bl (b : Bool) (k : Nat) : FP k (.bl b) := ⟨rfl, Nat.zero_le _⟩
theorem fp_non (k : Nat) : FP k .non := ⟨rfl, Nat.zero_le _⟩
theorem fps {k : Nat} : ∀ {xs : List D}, (∀ x ∈ xs, FP k x) → PyData.canLayAll0 (toPys xs) = true ∧ PyData.depthAll (toPys xs) ≤ k
  | [], _ => ⟨rfl, Nat.zero_le _⟩
  | x :: xs, h => by
    obtain ⟨h1, h2⟩ := fps (fun y hy => h y (List.mem_cons_of_mem _ hy))
    obtain ⟨h3, h4⟩ := h x List.mem_cons_self
    constructor
    · show ((toPy x).canLay0 && PyData.canLayAll0 (toPys xs)) = true
      rw [h1, h3]; rfl
    · show max (toPy x).depth (PyData.depthAll (toPys xs)) ≤ k
      exact Nat.max_le.mpr ⟨h4, h2⟩
theorem fp_lst {k : Nat} {o : Bool} {xs : List D} (h : ∀ x ∈ xs, FP k x) : FP (k + 1) (.node .lst o xs) := ⟨(fps h).1, Nat.succ_le_succ (fps h).2⟩
theorem fp_tup {k : Nat} {o : Bool} {xs : List D} (h : ∀ x ∈ xs, FP k x) : FP (k + 1) (.node .tup o xs) := ⟨(fps h).1, Nat.succ_le_succ (fps h).2⟩
theorem eqOk_fp {k : Nat} {d : D} (h : FP k d) (hk : k ≤ 64) : eqOk d = true := by
  show ((toPy d).canLay0 && decide ((toPy d).depth ≤ 64)) = true
  rw [h.1, decide_eq_true (Nat.le_trans h.2 hk)]; rfl
mutual
theorem eqv_refl : ∀ d : PyData, d.canLay0 = true → PyData.eqv d d = true
  | .none, _ => rfl
  | .bool b, _ => by cases b <;> rfl
  | .int i, _ => by show (i == i) = true; simp
  | .str x, _ => by show (x == x) = true; simp
  | .list xs, h => eqvAll_refl xs (by simpa [PyData.canLay0] using h)
  | .tuple xs, h => eqvAll_refl xs (by simpa [PyData.canLay0] using h)
  | .dict _, h => by simp [PyData.canLay0] at h
theorem eqvAll_refl : ∀ ds : List PyData, PyData.canLayAll0 ds = true → PyData.eqvAll ds ds = true
  | [], _ => rfl
  | d :: ds, h => by
    have h' : d.canLay0 = true ∧ PyData.canLayAll0 ds = true := by simpa [PyData.canLayAll0] using h
    show (PyData.eqv d d && PyData.eqvAll ds ds) = true
    rw [eqv_refl d h'.1, eqvAll_refl ds h'.2]; rfl
end
theorem neD_same {k : Nat} {d e : D} (h : FP k d) (hk : k ≤ 64) (he : toPy d = toPy e) : neD d e = some (.bl false) := by
  have h2 : FP k e := ⟨he ▸ h.1, he ▸ h.2⟩
  unfold neD
  rw [eqOk_fp h hk, eqOk_fp h2 hk, ← he, eqv_refl _ h.1]; rfl
def pr (p : Int × Int) : D := .node .tup false [.int p.1, .int p.2]
@[simp] theorem frz_pr (p : Int × Int) : frz (pr p) = pr p := rfl
@[simp] theorem frzs_pr (ps : List (Int × Int)) : frzs (ps.map pr) = ps.map pr := by
  rw [frzs_map, List.map_map]
  exact List.map_congr_left fun _ _ => rfl
@[simp] theorem atom_pr (p : Int × Int) : atom (pr p) = false := rfl
theorem fp_pr (p : Int × Int) (k : Nat) (hk : 1 ≤ k) : FP k (pr p) := ⟨rfl, hk⟩
theorem fp_prs (ps : List (Int × Int)) : ∀ x ∈ ps.map pr, FP 1 x := fun x hx => by
  obtain ⟨p, _, rfl⟩ := List.mem_map.mp hx
  exact fp_pr p 1 (Nat.le_refl 1)
theorem noLs_prs : ∀ ps : List (Int × Int), noLs (ps.map pr) = true
  | [] => rfl
  | p :: ps => by show (true && noLs (ps.map pr)) = true; rw [noLs_prs ps]; rfl
theorem eqv_prs : ∀ xs ys : List (Int × Int), PyData.eqvAll (toPys (xs.map pr)) (toPys (ys.map pr)) = decide (xs = ys)
  | [], [] => rfl
  | [], y :: ys => rfl
  | x :: xs, [] => rfl
  | x :: xs, y :: ys => by
    show (((x.1 == y.1) && ((x.2 == y.2) && true)) && PyData.eqvAll (toPys (xs.map pr)) (toPys (ys.map pr))) = _
    rw [eqv_prs xs ys]
    obtain ⟨a, b⟩ := x
    obtain ⟨c, d⟩ := y
    by_cases h : a = c <;> by_cases h2 : b = d <;> by_cases h3 : xs = ys <;> simp [h, h2, h3]
theorem ne_prs {o o' : Bool} (xs ys : List (Int × Int)) : neD (.node .lst o (xs.map pr)) (.node .lst o' (ys.map pr)) = some (.bl (!decide (xs = ys))) := by
  unfold neD
  rw [eqOk_fp (fp_lst (fp_prs xs)) (by decide), eqOk_fp (fp_lst (fp_prs ys)) (by decide)]
  show some (D.bl (!PyData.eqvAll (toPys (xs.map pr)) (toPys (ys.map pr)))) = _
  rw [eqv_prs]
theorem eq_prs {o o' : Bool} (xs ys : List (Int × Int)) : eqD (.node .lst o (xs.map pr)) (.node .lst o' (ys.map pr)) = some (.bl (decide (xs = ys))) := by
  unfold eqD
  rw [eqOk_fp (fp_lst (fp_prs xs)) (by decide), eqOk_fp (fp_lst (fp_prs ys)) (by decide)]
  show some (D.bl (PyData.eqvAll (toPys (xs.map pr)) (toPys (ys.map pr)))) = _
  rw [eqv_prs]
theorem seq_nx {f g : Sv} {r r1 : Rho} (h : f r = .nx r1) : cSeq f g r = g r1 := by
  rw [q_seq, h]; rfl
theorem seq_rt {f g : Sv} {r r1 : Rho} {x : R} (h : f r = .rt x r1) : cSeq f g r = .rt x r1 := by
  rw [q_seq, h]; rfl
theorem set_same {r : Rho} {i : Nat} {d : D} (h : r[i]? = some (some d)) : r.set i (some d) = r := by
  refine List.ext_getElem? fun j => ?_
  by_cases hj : i = j
  · subst hj
    rw [List.getElem?_set_self (List.getElem?_eq_some_iff.mp h).1, h]
  · rw [List.getElem?_set_ne hj]
theorem opd_loc' {r : Rho} {i : Nat} {d : D} (h : r[i]? = some (some d)) : opd r (.loc i) = some d := by
  show (match r[i]? with | some (some d) => some d | _ => none) = _
  rw [h]
theorem touch_fz {r : Rho} {i : Nat} {k : Kd} {o : Bool} {ys : List D} (h : r[i]? = some (some (.node k o ys))) (f : frzs ys = ys) : touch r (.loc i) = r := by
  show (match r[i]? with | some (some d) => r.set i (some (frzB d)) | _ => r) = r
  rw [h]
  show r.set i (some (.node k o (frzs ys))) = r
  rw [f]
  exact set_same h
theorem add_fz {r : Rho} {x y : R} {o o' : Bool} {xs ys : List D} (h1 : opd r x = some (.node .lst o xs)) (h2 : opd r y = some (.node .lst o' ys)) (f1 : frzs xs = xs) (f2 : frzs ys = ys) (hl : xs.length + ys.length ≤ 16777216) (t1 : touch r x = r) (t2 : touch r y = r) :
    gAdd x y r = .ok (.val (.node .lst true (xs ++ ys))) r := by
  rw [q_addL h1 h2 hl, f1, f2, t2, t1]
theorem add_vv {r : Rho} {o o' : Bool} (xs ys : List Int) (hl : xs.length + ys.length ≤ 16777216) : gAdd (.val (.node .lst o (xs.map .int))) (.val (.node .lst o' (ys.map .int))) r = .ok (.val (.node .lst true ((xs ++ ys).map .int))) r := q_addLI xs ys hl
theorem atI_nat {α : Type} {xs : List α} (i : Nat) : atI xs (i : Int) = xs[i]? := by
  unfold atI ixN
  have z1 : (0 : Int) ≤ (i : Int) := by omega
  rw [if_pos z1]
  by_cases h : i < xs.length
  · rw [if_pos (show (i : Int) < (xs.length : Nat) by omega), Int.toNat_natCast]; rfl
  · rw [if_neg (show ¬ (i : Int) < (xs.length : Nat) by omega), List.getElem?_eq_none (by omega)]; rfl
theorem at_map {f : Int → D} {xs : List Int} {i : Nat} (h : i < xs.length) : atI (xs.map f) (i : Int) = some (f xs[i]) := by
  rw [atI_nat, List.getElem?_map, List.getElem?_eq_getElem h]; rfl
theorem within_le {n : Int} (h1 : -1000000000 ≤ n) (h2 : n ≤ 1000000000) : within n = true := by unfold within; simp; omega
theorem pop_fz {r : Rho} {i : Nat} {xs : List D} {d : D} (h : r[i]? = some (some (.node .lst true (xs ++ [d])))) (f : frzs (xs ++ [d]) = xs ++ [d]) : cPop i r = .ok (.val d) (r.set i (some (.node .lst true xs))) := by
  unfold cPop
  rw [h]
  have e : (frzs (xs ++ [d]))[(xs ++ [d]).length - 1]? = some d := by rw [f]; simp
  have e2 : (frzs (xs ++ [d])).dropLast = xs := by rw [f]; simp
  simp only [e, e2, List.set_set]
theorem ix_fz {r : Rho} {i : Nat} {k : Int} {o : Bool} {xs : List D} {d : D} (h : r[i]? = some (some (.node .lst o xs))) (f : frzs xs = xs) (hd : atI xs k = some d) (fd : frz d = d) : gIx (.loc i) (.val (.int k)) r = .ok (.val d) r := by
  have a : opd r (.loc i) = some (.node .lst o xs) := opd_loc' h
  simp only [q_ix, a, q_opd1, hd, q_pick, fd, touch_fz h f]
  split <;> rfl
@[simp] theorem q_aug {i : Nat} {g : G2} {fb : Ev} {r : Rho} : cAug i g fb r = match r[i]? with
  | some (some d) => if atom d = true then (fb r).st fun y r1 => (g (.val d) y r1).st fun z r2 => match z with
    | .val d' => .nx (r2.set i (some d'))
    | .loc _ => .bad else .bad
  | _ => .bad := rfl
@[simp] theorem q_iAdd {n m : Int} : iAdd (.int n) (.int m) = some (.int (n + m)) := rfl
theorem ext_fz {r : Rho} {i : Nat} {o : Bool} {xs ys : List D} (h : r[i]? = some (some (.node .lst true xs))) (f1 : frzs xs = xs) (f2 : frzs ys = ys) (hl : xs.length + ys.length ≤ 16777216) : extK i (.val (.node .lst o ys)) r = .ok (.val .non) (r.set i (some (.node .lst true (xs ++ ys)))) := by
  unfold extK
  have a : opd r (.val (.node .lst o ys)) = some (.node .lst o ys) := rfl
  have b : touch r (.val (.node .lst o ys)) = r := rfl
  rw [a]
  show (match (touch r (.val (.node .lst o ys)))[i]? with | some (some (.node .lst true ds)) => _ | _ => _) = _
  rw [b, h]
  show (if xs.length + ys.length ≤ 16777216 then _ else _) = _
  rw [if_pos hl, f1, f2, List.set_set]
theorem cvar_loc {r : Rho} {i : Nat} {d : D} (h : r[i]? = some (some d)) (a : atom d = false) : cVar i r = .ok (.loc i) r := by
  rw [q_var, h]
  show (if atom d = true then _ else _) = _
  rw [a]; rfl
theorem cvar_at {r : Rho} {i : Nat} {d : D} (h : r[i]? = some (some d)) (a : atom d = true) : cVar i r = .ok (.val d) r := by
  rw [q_var, h]
  show (if atom d = true then _ else _) = _
  rw [a]; rfl
theorem g2_ok {r : Rho} {f : D → D → Option D} {x y : R} {d e z : D} (h1 : opd r x = some d) (h2 : opd r y = some e) (h : f d e = some z) (a : atom z = true) : g2 f x y r = .ok (.val z) r := by
  rw [q_g2, h1, h2]
  show (match f d e with | some z => if atom z = true then EO.ok (R.val z) r else .bad | none => .bad) = _
  rw [h]
  show (if atom z = true then EO.ok (R.val z) r else .bad) = _
  rw [if_pos a]
theorem bin_ok {fa fb : Ev} {g : G2} {r r1 r2 : Rho} {x y : R} {o : EO} (h1 : fa r = .ok x r1) (h2 : fb r1 = .ok y r2) (h : g x y r2 = o) : cBin g fa fb r = o := by
  rw [q_bin, h1, bd_ok, h2, bd_ok, h]
theorem ifs_ok {fa : Ev} {f g : Sv} {r r1 : Rho} {b : Bool} {o : SO} (h : fa r = .ok (.val (.bl b)) r1) (h2 : (if b = true then f r1 else g r1) = o) : cIfS fa f g r = o := by
  rw [q_ifs, h, q_st1]
  cases b <;> exact h2
theorem call1 {F : List D → FO} {fa : Ev} {r r1 : Rho} {x : R} {z d : D} (h : fa r = .ok x r1) (ho : opd r1 x = some z) (hF : F [frz z] = .ok d) (nl : noL d = true) : cCall 1 F (cCons fa cNil) r = .ok (.val d) r1 := by
  have fz : frzs [z] = [frz z] := rfl
  rw [q_call, q_cons, h]
  show callK F [x] r1 = _
  rw [q_callK, q_opds1, ho, q_opds0]
  show (match F (frzs [z]) with | .ok d => if noL d = true then EO.ok (.val d) r1 else .ok (.val d) (settles r1 [x]) | .exc c => .exc c r1 | .bad => .bad) = _
  rw [fz, hF]
  show (if noL d = true then EO.ok (.val d) r1 else _) = _
  rw [if_pos nl]
theorem call2 {F : List D → FO} {fa fb : Ev} {r r1 r2 : Rho} {x y : R} {z w d : D} (h : fa r = .ok x r1) (h2 : fb r1 = .ok y r2) (ho : opd r2 x = some z) (ho2 : opd r2 y = some w) (hF : F [frz z, frz w] = .ok d) (nl : noL d = true) : cCall 2 F (cCons fa (cCons fb cNil)) r = .ok (.val d) r2 := by
  have fz : frzs [z, w] = [frz z, frz w] := rfl
  rw [q_call, q_cons, h]
  show (match cCons fb cNil r1 with | .ok xs r2 => AO.ok (x :: xs) r2 | .exc c r2 => .exc c r2 | .bad => .bad).bd _ = _
  rw [q_cons, h2]
  show callK F [x, y] r2 = _
  rw [q_callK, q_opds1, ho, q_opds1, ho2, q_opds0]
  show (match F (frzs [z, w]) with | .ok d => if noL d = true then EO.ok (.val d) r2 else .ok (.val d) (settles r2 [x, y]) | .exc c => .exc c r2 | .bad => .bad) = _
  rw [fz, hF]
  show (if noL d = true then EO.ok (.val d) r2 else _) = _
  rw [if_pos nl]
theorem asg_ok {fa : Ev} {r r1 : Rho} {i : Nat} {d : D} (h : fa r = .ok (.val d) r1) : cAsg (.nm i) fa r = .nx (r1.set i (some d)) := by
  rw [q_asg, q_set, h, bd_ok]
  rfl
theorem for_ok {t : Tg} {fi : Iv} {f : Sv} {r r1 : Rho} {ds : List D} {o : SO} (h : fi r = .ok ds r1) (h2 : forL t f ds r1 = o) : cFor t fi f r = o := by
  rw [q_for, h]
  exact h2
theorem it_lst {r : Rho} {i : Nat} {o : Bool} {xs : List D} (h : r[i]? = some (some (.node .lst o xs))) (f : frzs xs = xs) : iLst (cVar i) r = .ok xs (r.set i (some (.node .lst false xs))) := by
  have e : frz (.node .lst o xs) = .node .lst false xs := by show D.node .lst false (frzs xs) = _; rw [f]
  rw [q_iLst, q_set, cvar_loc h rfl, bd_ok]
  show (match (match opd r (.loc i) with | some d => EO.ok (.val (frz d)) (settle r (.loc i)) | none => .bad) with | .ok (.val (.node .lst _ ds)) r1 => IO.ok ds r1 | .ok (.val (.node .rd _ ds)) r1 => IO.ok ds r1 | .exc c r1 => .exc c r1 | _ => .bad) = _
  rw [opd_loc' h, q_settle2, h]
  show (match EO.ok (R.val (frz (.node .lst o xs))) (r.set i (some (frz (.node .lst o xs)))) with | .ok (.val (.node .lst _ ds)) r1 => IO.ok ds r1 | .ok (.val (.node .rd _ ds)) r1 => IO.ok ds r1 | .exc c r1 => .exc c r1 | _ => .bad) = _
  rw [e]
theorem cutD_some (xs : List D) (a b : Nat) : VL.cutD xs (some (a : Int)) (some (b : Int)) = (xs.drop a).take (b - a) := by
  unfold VL.cutD
  show (xs.drop (HT.sIx xs.length 0 (some ((a : Nat) : Int)))).take (HT.sIx xs.length xs.length (some ((b : Nat) : Int)) - HT.sIx xs.length 0 (some ((a : Nat) : Int))) = _
  rw [HT.sIx_nat, HT.sIx_nat]
  by_cases h : a ≤ xs.length
  · rw [Nat.min_eq_left h]
    by_cases h2 : b ≤ xs.length
    · rw [Nat.min_eq_left h2]
    · rw [Nat.min_eq_right (by omega), List.take_of_length_le (by rw [List.length_drop]; omega), List.take_of_length_le (by rw [List.length_drop]; omega)]
  · rw [Nat.min_eq_right (show xs.length ≤ a by omega), List.drop_length, List.drop_of_length_le (show xs.length ≤ a by omega), List.take_nil, List.take_nil]
theorem cutD_to (xs : List D) (b : Nat) : VL.cutD xs none (some (b : Int)) = xs.take b := by
  unfold VL.cutD
  show (xs.drop (HT.sIx xs.length 0 none)).take (HT.sIx xs.length xs.length (some ((b : Nat) : Int)) - HT.sIx xs.length 0 none) = _
  rw [HT.sIx_nat, HT.sIx_none, List.drop_zero, Nat.sub_zero]
  by_cases h2 : b ≤ xs.length
  · rw [Nat.min_eq_left h2]
  · rw [Nat.min_eq_right (by omega), List.take_length, List.take_of_length_le (by omega)]
theorem cutD_of (xs : List D) (a : Nat) : VL.cutD xs (some (a : Int)) none = xs.drop a := by
  unfold VL.cutD
  show (xs.drop (HT.sIx xs.length 0 (some ((a : Nat) : Int)))).take (HT.sIx xs.length xs.length none - HT.sIx xs.length 0 (some ((a : Nat) : Int))) = _
  rw [HT.sIx_nat, HT.sIx_none]
  by_cases h : a ≤ xs.length
  · rw [Nat.min_eq_left h, List.take_of_length_le (by rw [List.length_drop]; omega)]
  · rw [Nat.min_eq_right (by omega), List.drop_length, List.drop_of_length_le (by omega), List.take_nil]
theorem sl_ok {fa : Ev} {lo hi : Option Ev} {r r1 : Rho} {x : R} {k : Kd} {o : Bool} {xs : List D} {l h : Option Int} (hk : k = .lst ∨ k = .rd) (e : fa r = .ok x r1) (ho : opd r1 x = some (.node k o xs)) (f : frzs xs = xs) (t : touch r1 x = r1)
    (hl : ∀ {k : Option Int → Rho → EO}, part lo r1 k = k l r1) (hh : ∀ {k : Option Int → Rho → EO}, part hi r1 k = k h r1) : cSl fa lo hi r = .ok (.val (.node .lst true (VL.cutD xs l h))) r1 := by
  rw [q_sl, e, bd_ok, hl, hh, q_gSl, ho]
  rcases hk with z | z <;> subst z
  · show EO.ok (.val (.node .lst true (VL.cutD (frzs xs) l h))) (touch r1 x) = _
    rw [f, t]
  · show EO.ok (.val (.node .lst true (VL.cutD (frzs xs) l h))) (touch r1 x) = _
    rw [f, t]
theorem or_no {fa fb : Ev} {r : Rho} {o : EO} (h : fa r = .ok (.val (.bl false)) r) (h2 : fb r = o) : cOr fa fb r = o := by
  rw [q_or, h, bd_ok]
  exact h2
theorem and_yes {fa fb : Ev} {r : Rho} {o : EO} (h : fa r = .ok (.val (.bl true)) r) (h2 : fb r = o) : cAnd fa fb r = o := by
  rw [q_and, h, bd_ok]
  exact h2
theorem not_ok {fa : Ev} {r r1 : Rho} {b : Bool} (h : fa r = .ok (.val (.bl b)) r1) : cNot fa r = .ok (.val (.bl (!b))) r1 := by
  rw [q_not, h, bd_ok]
theorem guard_no {fa : Ev} {f : Sv} {r : Rho} (h : fa r = .ok (.val (.bl false)) r) : cIfS fa f cSkip r = .nx r := ifs_ok h rfl
theorem app_ok {fa : Ev} {r r1 : Rho} {i : Nat} {d : D} {ds : List D} (hi : isLst r i = true) (h : fa r = .ok (.val d) r1) (h2 : r1[i]? = some (some (.node .lst true ds))) (hl : ds.length < 16777216) : cExpr (cApp i fa) r = .nx (r1.set i (some (.node .lst true (ds ++ [d])))) := by
  rw [q_expr, q_app, if_pos hi, q_set, h, bd_ok]
  show (appK i (.val d) r1).st _ = _
  rw [q_appK, h2]
  show (if ds.length < 16777216 then EO.ok (.val .non) (r1.set i (some (.node .lst true (ds ++ [d])))) else .bad).st _ = _
  rw [if_pos hl]
  rfl
theorem frz_lst {o : Bool} {xs : List D} (f : frzs xs = xs) : frz (.node .lst o xs) = .node .lst false xs := by
  show D.node .lst false (frzs xs) = _
  rw [f]
section
variable {fa fb : Ev} {r r1 r2 : Rho} {i j : Int}
theorem mod_ok (h1 : fa r = .ok (.val (.int i)) r1) (h2 : fb r1 = .ok (.val (.int j)) r2) (hj : 0 < j) : cBin gMod fa fb r = .ok (.val (.int (i % j))) r2 :=
  bin_ok h1 h2 (g2_ok rfl rfl (by rw [q_fI, if_pos (posOk_of hj)]) rfl)
theorem div_ok (h1 : fa r = .ok (.val (.int i)) r1) (h2 : fb r1 = .ok (.val (.int j)) r2) (hj : 0 < j) (hj2 : j < 1073741824) : cBin gDiv fa fb r = .ok (.val (.int (i / j))) r2 :=
  bin_ok h1 h2 (g2_ok rfl rfl (by rw [q_fI, if_pos (divOk_of' hj hj2)]) rfl)
theorem mul_ok (h1 : fa r = .ok (.val (.int i)) r1) (h2 : fb r1 = .ok (.val (.int j)) r2) (hm : mulOk i j = true) : cBin gMul fa fb r = .ok (.val (.int (i * j))) r2 :=
  bin_ok h1 h2 (by rw [q_mulI, if_pos hm])
theorem add_ok (h1 : fa r = .ok (.val (.int i)) r1) (h2 : fb r1 = .ok (.val (.int j)) r2) : cBin gAdd fa fb r = .ok (.val (.int (i + j))) r2 := bin_ok h1 h2 q_addI
theorem sub_ok (h1 : fa r = .ok (.val (.int i)) r1) (h2 : fb r1 = .ok (.val (.int j)) r2) : cBin VL.gSub fa fb r = .ok (.val (.int (i - j))) r2 := bin_ok h1 h2 (g2_ok rfl rfl rfl rfl)
theorem lt_ok (h1 : fa r = .ok (.val (.int i)) r1) (h2 : fb r1 = .ok (.val (.int j)) r2) : cBin gLt fa fb r = .ok (.val (.bl (decide (i < j)))) r2 := bin_ok h1 h2 (g2_ok rfl rfl rfl rfl)
theorem le_ok (h1 : fa r = .ok (.val (.int i)) r1) (h2 : fb r1 = .ok (.val (.int j)) r2) : cBin gLe fa fb r = .ok (.val (.bl (decide (i ≤ j)))) r2 := bin_ok h1 h2 (g2_ok rfl rfl rfl rfl)
theorem gt_ok (h1 : fa r = .ok (.val (.int i)) r1) (h2 : fb r1 = .ok (.val (.int j)) r2) : cBin gGt fa fb r = .ok (.val (.bl (decide (j < i)))) r2 := bin_ok h1 h2 (g2_ok rfl rfl rfl rfl)
theorem ge_ok (h1 : fa r = .ok (.val (.int i)) r1) (h2 : fb r1 = .ok (.val (.int j)) r2) : cBin gGe fa fb r = .ok (.val (.bl (decide (j ≤ i)))) r2 := bin_ok h1 h2 (g2_ok rfl rfl rfl rfl)
theorem eq_ok (h1 : fa r = .ok (.val (.int i)) r1) (h2 : fb r1 = .ok (.val (.int j)) r2) : cBin gEq fa fb r = .ok (.val (.bl (decide (i = j)))) r2 := bin_ok h1 h2 (g2_ok rfl rfl q_eqI rfl)
theorem ne_ok (h1 : fa r = .ok (.val (.int i)) r1) (h2 : fb r1 = .ok (.val (.int j)) r2) : cBin gNe fa fb r = .ok (.val (.bl (!decide (i = j)))) r2 := bin_ok h1 h2 (g2_ok rfl rfl q_neI rfl)
theorem b1_ok {f : D → Option D} {x : R} {d z : D} (h : fa r = .ok x r1) (ho : opd r1 x = some d) (hf : f d = some z) (a : atom z = true) : cB (b1 f) (cCons fa cNil) r = .ok (.val z) r1 := by
  rw [q_B, q_cons, h]
  show (b1 f [x] r1) = _
  rw [q_b1, ho]
  show (match f d with | some z => if atom z = true then EO.ok (.val z) r1 else .bad | none => .bad) = _
  rw [hf]
  show (if atom z = true then EO.ok (.val z) r1 else .bad) = _
  rw [if_pos a]
theorem ixd_ok {o : Bool} {xs : List Int} {n : Nat} (h1 : fa r = .ok (.val (.node .lst o (xs.map .int))) r1) (h2 : fb r1 = .ok (.val (.int (n : Int))) r2) (hn : n < xs.length) : cBin gIx fa fb r = .ok (.val (.int xs[n])) r2 := by
  refine bin_ok h1 h2 ?_
  rw [q_ix]
  show (match atI (xs.map D.int) (n : Int) with | some d => pick r2 _ d | none => EO.bad) = _
  rw [at_map hn]
  rfl
theorem ifs_yes {fa : Ev} {f g : Sv} {o : SO} (h : fa r = .ok (.val (.bl true)) r1) (h2 : f r1 = o) : cIfS fa f g r = o := ifs_ok h h2
theorem ifs_not {fa : Ev} {f g : Sv} {o : SO} (h : fa r = .ok (.val (.bl false)) r1) (h2 : g r1 = o) : cIfS fa f g r = o := ifs_ok h h2
theorem ret_ok {fa : Ev} {x : R} (h : fa r = .ok x r1) : cRet fa r = .rt x r1 := by
  rw [q_ret, h]; rfl
end
theorem pow_ok (i j : Int) (h : powOk i j = true) (r : Rho) : gPow (.val (.int i)) (.val (.int j)) r = .ok (.val (.int (i ^ j.toNat))) r :=
  g2_ok rfl rfl (by rw [q_fI, if_pos h]) rfl
theorem runF_ok {n : Nat} {f : Sv} {ds : List D} {x : R} {r : Rho} {d : D} (h : f (startR n ds) = .rt x r) (ho : opd r x = some d) : runF n f ds = .ok d := by
  unfold runF
  rw [h]
  show (match opd r x with | some d => FO.ok d | none => .bad) = _
  rw [ho]
end VL

namespace VL
open PySem PySem.Spec PyProof.Rows L2
section
variable {X : Cx} {G : GX} {C : Fc} {W : WX} {ow ow' : Ow} {r : Rho} {T T1 T2 : List (D × V)} {s : L2.St} {H H' : Hp} {fa fb fc : Ev} {f g : Sv}
end
end VL

namespace VL
open PySem PySem.Spec PyProof.Rows L2
section
variable {X : Cx} {G : GX} {C : Fc} {W : WX} {ow ow' : Ow} {r : Rho} {T T1 T2 : List (D × V)} {s : L2.St} {H H' : Hp} {fa fb fc : Ev} {f g : Sv} {fs : Av}
def enumD : Nat → List D → List D
  | _, [] => []
  | n, d :: ds => .node .tup false [.int (n : Nat), d] :: enumD (n + 1) ds
theorem frz_at {ds : List D} {i : Nat} {d : D} (e : frzs ds = ds) (h : ds[i]? = some d) : frz d = d := by
  have := congrArg (·[i]?) e
  simp only [frzs_map, List.getElem?_map, h, Option.map_some] at this
  exact Option.some.inj this
def gEn (r : Rho) (xs : List R) : IO := match xs with
  | [.val (.node .lst _ ds)] => .ok (enumD 0 (frzs ds)) r
  | [.val (.node .rd _ ds)] => .ok (enumD 0 (frzs ds)) r
  | _ => .bad
def rgD (a b : Int) : List D := (List.range (b - a).toNat).map fun i => .int (a + (i : Nat))
theorem rgD_ints (a b : Int) : rgD a b = ((List.range (b - a).toNat).map fun i => a + ((i : Nat) : Int)).map D.int := by
  unfold rgD; rw [List.map_map]; rfl
def rgOk (a b : Int) : Bool := within a && within b && decide ((b - a).toNat ≤ 16777216)
def gLr1 (x : R) (r : Rho) : EO := match opd r x with
  | some (.int n) => if rgOk 0 n = true then .ok (.val (.node .lst true (rgD 0 n))) r else .bad
  | _ => .bad
def cListRg1 (fa : Ev) : Ev := fun r => (fa r).bd gLr1
theorem rg_fin {x : List D} {a b : Int} {Q : VK} (S : StW G C ow r T s H) (hq : ∀ v H', Post G C r T s H' (.val (.node .lst true (rgD a b))) v → Q v H') : ∀ p, H p = none → Q (.ref p) (upd H p (.lst (rgV a b))) := by
  refine S.made (l := ⟨.fo, []⟩) (i := 0) (ds := rgD a b) ?_ ?_ hq
  · rw [rgD_ints, frzs_ints]
  · have e : rgV a b = ((List.range (b - a).toNat).map fun i => a + ((i : Nat) : Int)).map V.int := by unfold rgV; rw [List.map_map]; rfl
    rw [rgD_ints, e]
    exact reps_ints _ _ _
theorem rgOk_of {a b : Int} (h : rgOk a b = true) : RgOk a b := by
  unfold rgOk at h
  simp only [Bool.and_eq_true, decide_eq_true_eq] at h
  obtain ⟨⟨h1, h2⟩, h3⟩ := h
  have h1 := VL.within_of h1
  have h2 := VL.within_of h2
  exact ⟨h1.1, h1.2, h2.1, h2.2, by simpa using h3⟩
theorem ve_listRg1 {a : Expr} {p p2 pos pos2 : Pos} (hc : X.calm = true) (hl : Gl X "list") (hlm : X.mg "list" = none) (hg : Gl X "range") (hm : X.mg "range" = none) (ha : VE X G C W a fa)
    (na : starEach [a] X.env = (false, eval a X.env) :: starEach [] X.env := by rfl) (nb : starEach [.Call (.Name "range" p) [a] [] pos] X.env = (false, eval (.Call (.Name "range" p) [a] [] pos) X.env) :: starEach [] X.env := by rfl) : VE X G C W (.Call (.Name "list" p2) [.Call (.Name "range" p) [a] [] pos] [] pos2) (cListRg1 fa) := by
  refine PE.imp (pe_listRg hc hl hlm (prg_1 hg hm ha na) nb) fun s H Q h => ?_
  obtain ⟨r, T, S, g⟩ := h
  refine one S g fun x v r1 H1 P g1 => ?_
  unfold gLr1 at g1
  split at g1
  · rename_i n e1
    split at g1
    · rename_i hr
      obtain ⟨ow, S1⟩ := P.1
      have ev := rep_int (opd_rep (T2 := []) (by simpa using S1) P.2 e1)
      exact ⟨n, ev, rgOk_of hr, rg_fin (x := []) S1.drop g1⟩
    · exact g1.elim
  · exact g1.elim
def remK (i : Nat) (x : R) (r1 : Rho) : EO := match opd r1 x, r1[i]? with
  | some (.int k), some (some (.node .lst true ds)) => (match intsOf ds with
    | some ns => (match ns.findIdx? (fun n => n == k) with
      | some j => .ok (.val .non) ((r1.set i (some (.node .lst true (frzs ds)))).set i (some (.node .lst true ((ns.eraseIdx j).map .int))))
      | none => .bad)
    | none => .bad)
  | _, _ => .bad
end
def ins1 (x : Int) : List Int → List Int
  | [] => [x]
  | y :: ys => if x ≤ y then x :: y :: ys else y :: ins1 x ys
section
variable {X : Cx} {G : GX} {C : Fc} {W : WX} {ow ow' : Ow} {r : Rho} {T T1 T2 : List (D × V)} {s : L2.St} {H H' : Hp} {fa fb fc : Ev} {f g : Sv} {fs : Av}
def maxL : List Int → Option Int
  | [] => none
  | x :: xs => some (xs.foldl max x)
theorem foldl_max (xs : List Int) : ∀ x : Int, x ≤ xs.foldl max x ∧ (∀ y ∈ xs, y ≤ xs.foldl max x) ∧ (xs.foldl max x = x ∨ xs.foldl max x ∈ xs) := by
  induction xs with
  | nil => exact fun x => ⟨Int.le_refl x, fun y hy => by simp at hy, .inl rfl⟩
  | cons z xs ih =>
    intro x
    obtain ⟨h1, h2, h3⟩ := ih (max x z)
    refine ⟨Int.le_trans (Int.le_max_left x z) h1, fun y hy => ?_, ?_⟩
    · rcases List.mem_cons.mp hy with e | e
      · rw [e]; exact Int.le_trans (Int.le_max_right x z) h1
      · exact h2 y e
    · rcases h3 with e | e
      · show xs.foldl max (max x z) = x ∨ xs.foldl max (max x z) ∈ z :: xs
        rw [e]
        rcases Int.le_total x z with q | q
        · right; rw [Int.max_eq_right q]; exact List.mem_cons_self
        · left; exact Int.max_eq_left q
      · exact .inr (List.mem_cons_of_mem _ e)
def lstInts : D → Option (List Int)
  | .node .lst _ ds => intsOf ds
  | _ => none
def maxD (d : D) : Option D := (lstInts d).bind fun ns => (maxL ns).map .int
theorem lstInts_rep {d : D} {ns : List Int} {l : Loc} {v : V} (K : PySem.W.Frag) (e : lstInts d = some ns) (h : Rep G ow H d l v) : ∃ a, v = .ref a ∧ SqL K H a (ns.map V.int) := by
  cases d with
  | node k o xs =>
    cases k with
    | lst =>
      obtain ⟨a, vs, ev, h1, h2, h3⟩ := h
      exact ⟨a, ev, by rw [← ints_rep e h3]; exact SqL.of h1⟩
    | _ => cases e
  | _ => cases e
theorem cs_maxL (hc : X.calm = true) : CallS X (.builtin "max") (b1 maxD) := by
  refine CallS.scal (cr_max hc) fun G hG ow H d z l v Q h e q => ?_
  unfold maxD at e
  cases e1 : lstInts d with
  | none => rw [e1] at e; cases e
  | some ns =>
    rw [e1] at e
    obtain ⟨a, ev, hs⟩ := lstInts_rep X.K e1 h
    cases ns with
    | nil => cases e
    | cons x xs =>
      cases e
      refine ⟨a, x :: xs, by rw [ev], hs, by simp, fun m hm hy => ?_⟩
      obtain ⟨h1, h2, h3⟩ := foldl_max xs x
      have e : m = xs.foldl max x := by
        refine Int.le_antisymm ?_ ?_
        · rcases List.mem_cons.mp hm with e | e
          · rw [e]; exact h1
          · exact h2 m e
        · rcases h3 with e | e
          · rw [e]; exact hy x List.mem_cons_self
          · exact hy _ (List.mem_cons_of_mem _ e)
      rw [e]
      exact q _ fun _ _ => rfl
end
end VL

namespace VL
open PySem PySem.Spec PyProof.Rows L2
def chL (g : Int → Int → Bool) (j : Int) (w : R) (r : Rho) : EO := match opd r w with
  | some (.int k) => .ok (.val (.bl (g j k))) r
  | _ => .bad
def chK (f g : Int → Int → Bool) (fc : Ev) (x y : R) (r : Rho) : EO := match opd r x, opd r y with
  | some (.int i), some (.int j) => if f i j = true then (fc r).bd (chL g j) else .ok (.val (.bl false)) r
  | _, _ => .bad
def cChain (f g : Int → Int → Bool) (fa fb fc : Ev) : Ev := fun r => (fa r).bd fun x r1 => (fb r1).bd (chK f g fc x)
section
variable {X : Cx} {G : GX} {C : Fc} {W : WX} {ow ow' : Ow} {r : Rho} {T T1 T2 : List (D × V)} {s : L2.St} {H H' : Hp} {fa fb fc : Ev} {fs : Av} {f g : Int → Int → Bool}
theorem chain_in {Q : VK} (h : tV G C W (cChain f g fa fb fc) s H Q) : tChain (rI0 fun i j => .bl (f i j)) (rI0 fun i j => .bl (g i j)) (tV G C W fa) (tV G C W fb) (tV G C W fc) s H Q := by
  obtain ⟨r, T, S, h⟩ := h
  refine two S h fun x y v u r2 H2 S2 lx ly g2 => ?_
  unfold chK at g2
  split at g2
  · rename_i i j e1 e2
    have S2' := S2
    obtain ⟨ow, S2⟩ := S2
    have ev := rep_int (opd_rep S2 lx e1)
    have eu := rep_int (opd_rep (T := T ++ pushR x v) (T2 := []) (by rw [List.append_nil, List.append_assoc]; exact S2) ly e2)
    refine ⟨i, j, ev, eu, f i j, rfl, ?_⟩
    split at g2
    · rename_i hf
      rw [if_pos hf]
      refine one S2'.drop g2 fun w u' r3 H3 P g3 => ?_
      unfold chL at g3
      split at g3
      · rename_i k e3
        obtain ⟨ow3, S3⟩ := P.1
        have ew := rep_int (opd_rep (T2 := []) (by simpa using S3) P.2 e3)
        exact ⟨j, k, eu, ew, g3 _ _ ⟨StOk.pushB _ ⟨_, S3.drop⟩, trivial⟩⟩
      · exact g3.elim
    · rename_i hf
      rw [if_neg hf]
      exact g2 _ _ ⟨StOk.pushB _ S2'.drop, trivial⟩
  · exact g2.elim
theorem vt_chain {op op' : CmpOp} {a b c : Expr} {pos : Pos} (ho : OpR X (compareOp op) (rI0 fun i j => .bl (f i j))) (ho' : OpR X (compareOp op') (rI0 fun i j => .bl (g i j))) (ha : VE X G C W a fa) (hb : VE X G C W b fb) (hc : VE X G C W c fc)
    (hm : lastMarks [op, op'] [b, c] = false := by with_unfolding_all rfl) : VT X G C W (.Compare a [op, op'] [b, c] pos) (cChain f g fa fb fc) :=
  PT.imp (pt_chain ho ho' ha hb hc hm) fun s H Q h => chain_in (tV_bl h)
end
theorem chain_ok {f g : Int → Int → Bool} {fa fb fc : Ev} {r r1 r2 : Rho} {i j k : Int} (h1 : fa r = .ok (.val (.int i)) r1) (h2 : fb r1 = .ok (.val (.int j)) r2) (h3 : fc r2 = .ok (.val (.int k)) r2) : cChain f g fa fb fc r = .ok (.val (.bl (f i j && g j k))) r2 := by
  unfold cChain
  rw [h1, bd_ok, h2, bd_ok]
  unfold chK
  show (if f i j = true then (fc r2).bd (chL g j) else EO.ok (.val (.bl false)) r2) = _
  rw [h3, bd_ok]
  cases h : f i j with
  | true => rw [if_pos rfl]; rfl
  | false => rw [if_neg (by decide)]; rfl
@[simp] theorem q_iEn {fs : Av} {r : Rho} {o : Bool} {ds : List D} {r1 : Rho} (h : fs r = .ok [.val (.node .lst o ds)] r1) : iRng gEn fs r = .ok (enumD 0 (frzs ds)) r1 := by
  rw [q_iRng, h]; rfl
theorem listRg1_ok {fa : Ev} {r r1 : Rho} {n : Int} (h : fa r = .ok (.val (.int n)) r1) (hr : rgOk 0 n = true) : cListRg1 fa r = .ok (.val (.node .lst true (rgD 0 n))) r1 := by
  unfold cListRg1
  rw [h, bd_ok]
  show (if rgOk 0 n = true then _ else _) = _
  rw [if_pos hr]
end VL

namespace VL
open PySem PySem.Spec PyProof.Rows L2
def lcO (i n : Nat) (t : Tg) (fc : Option Ev) (fe : Ev) (vs : List Nat) : Nat → List D → Rho → LO
  | 0, acc, r => (match r[i]? with
    | some (some (.node .lst true ds)) => if ds.length = n then .ok acc r else .bad
    | _ => .bad)
  | k + 1, acc, r => (match r[i]? with
    | some (some (.node .lst true ds)) => if ds.length = n then (match ds[n - (k + 1)]? with
      | some d => (match tgt t (frz d) (r.set i (some (.node .lst true (frzs ds)))) with
        | none => .bad
        | some r1 => (match tstR fc r1 with
          | .ok (.val (.bl true)) r2 => (match cSet fe r2 with
            | .ok (.val e) r3 => if acc.length < 16777216 then lcO i n t fc fe vs k (acc ++ [e]) (wipeR r3 vs) else .bad
            | _ => .bad)
          | .ok (.val (.bl false)) r2 => lcO i n t fc fe vs k acc (wipeR r2 vs)
          | _ => .bad))
      | none => .bad) else .bad
    | _ => .bad)
def cLcO (i : Nat) (vs : List Nat) (t : Tg) (fc : Option Ev) (fe : Ev) : Ev := fun r => match r[i]? with
  | some (some (.node .lst true ds)) => if i ∈ vs then .bad else (match lcO i ds.length t fc fe vs ds.length [] (wipeR r vs) with
    | .ok acc r2 => .ok (.val (.node .lst true acc)) (backR r r2 vs)
    | .bad => .bad)
  | _ => .bad
section
variable {X : Cx} {G : GX} {C : Fc} {W : WX} {ow ow' : Ow} {r : Rho} {T T1 T2 : List (D × V)} {s : L2.St} {H H' : Hp} {fa fb fc : Ev} {f g : Sv} {fs : Av}
end
theorem lcL_map {t : Tg} {fc : Option Ev} {fe : Ev} {vs : List Nat} {r0 : Rho} {p : D → Bool} {q : D → D} : ∀ (ds acc : List D), acc.length + ds.length < 16777216 →
    (∀ d ∈ ds, ∃ r1, tgt t d r0 = some r1 ∧ ∃ r2, tstR fc r1 = .ok (.val (.bl (p d))) r2 ∧ wipeR r2 vs = r0 ∧ (p d = true → ∃ r3, cSet fe r2 = .ok (.val (q d)) r3 ∧ wipeR r3 vs = r0)) → lcL t fc fe vs ds acc r0 = .ok (acc ++ (ds.filter p).map q) r0
  | [], acc, _, _ => by simp [lcL]
  | d :: ds, acc, hl, hs => by
    simp only [List.length_cons] at hl
    obtain ⟨r1, e1, r2, e2, e3, e4⟩ := hs d List.mem_cons_self
    unfold lcL
    rw [e1]
    show (match tstR fc r1 with | .ok (.val (.bl true)) r2 => (match cSet fe r2 with | .ok (.val e) r3 => if acc.length < 16777216 then lcL t fc fe vs ds (acc ++ [e]) (wipeR r3 vs) else .bad | _ => .bad) | .ok (.val (.bl false)) r2 => lcL t fc fe vs ds acc (wipeR r2 vs) | _ => LO.bad) = _
    rw [e2]
    cases hp : p d with
    | true =>
      obtain ⟨r3, e5, e6⟩ := e4 hp
      show (match cSet fe r2 with | .ok (.val e) r3 => if acc.length < 16777216 then lcL t fc fe vs ds (acc ++ [e]) (wipeR r3 vs) else .bad | _ => LO.bad) = _
      rw [e5]
      show (if acc.length < 16777216 then lcL t fc fe vs ds (acc ++ [q d]) (wipeR r3 vs) else LO.bad) = _
      rw [if_pos (by omega), e6, lcL_map ds (acc ++ [q d]) (by rw [List.length_append, List.length_singleton]; omega) (fun x hx => hs x (List.mem_cons_of_mem _ hx)), List.filter_cons_of_pos (by rw [hp]), List.map_cons, List.append_assoc]
      rfl
    | false =>
      show lcL t fc fe vs ds acc (wipeR r2 vs) = _
      rw [e3, lcL_map ds acc (by omega) (fun x hx => hs x (List.mem_cons_of_mem _ hx)), List.filter_cons_of_neg (by rw [hp]; decide)]
theorem lc_map {fi : Iv} {t : Tg} {fc : Option Ev} {fe : Ev} {vs : List Nat} {ds : List D} {r r1 r0 : Rho} {p : D → Bool} {q : D → D} (hi : fi r = .ok ds r1) (h0 : wipeR r1 vs = r0) (hl : ds.length < 16777216)
    (hs : ∀ d ∈ ds, ∃ r1, tgt t d r0 = some r1 ∧ ∃ r2, tstR fc r1 = .ok (.val (.bl (p d))) r2 ∧ wipeR r2 vs = r0 ∧ (p d = true → ∃ r3, cSet fe r2 = .ok (.val (q d)) r3 ∧ wipeR r3 vs = r0)) : cLc vs t fi fc fe r = .ok (.val (.node .lst true ((ds.filter p).map q))) (backR r1 r0 vs) := by
  rw [q_lc, hi]
  show (match lcL t fc fe vs ds [] (wipeR r1 vs) with | .ok acc r2 => EO.ok (.val (.node .lst true acc)) (backR r1 r2 vs) | .bad => .bad) = _
  rw [h0, lcL_map ds [] (by simpa using hl) hs]
  rfl
end VL
namespace VL
open PySem PySem.Spec PyProof.Rows L2
section
variable {X : Cx} {G : GX} {C : Fc} {W : WX} {ow ow' : Ow} {r : Rho} {T T1 T2 : List (D × V)} {s : L2.St} {H H' : Hp}
end
end VL
namespace VL
open PySem PySem.Spec PyProof.Rows L2
def cPar (is : List Nat) (fs : Av) : Sv := fun r => match fs r with
  | .ok xs r1 => (match valsR xs with
    | some ds => if is.length = ds.length then .nx (setAll r1 is ds) else .bad
    | none => .bad)
  | .exc c r1 => .exc c r1
  | .bad => .bad
section
variable {X : Cx} {G : GX} {C : Fc} {W : WX} {ow ow' : Ow} {r : Rho} {T T1 T2 : List (D × V)} {s : L2.St} {H H' : Hp} {fs : Av}
end
theorem par_ok {is : List Nat} {fs : Av} {r r1 : Rho} {xs : List R} {ds : List D} (h : fs r = .ok xs r1) (h2 : valsR xs = some ds) (hl : is.length = ds.length) : cPar is fs r = .nx (setAll r1 is ds) := by
  unfold cPar
  rw [h]
  show (match valsR xs with | some ds => if is.length = ds.length then SO.nx (setAll r1 is ds) else .bad | none => .bad) = _
  rw [h2]
  show (if is.length = ds.length then SO.nx (setAll r1 is ds) else .bad) = _
  rw [if_pos hl]
end VL

namespace VL
open PySem PySem.Spec PyProof.Rows L2
section
variable {X : Cx} {G : GX} {C : Fc} {W : WX} {ow ow' : Ow} {r : Rho} {T T1 T2 : List (D × V)} {s : L2.St} {H H' : Hp} {fa fb fc : Ev} {f g : Sv} {fs : Av}
def zipD (ds es : List D) : List D := List.zipWith (fun d e => D.node .tup false [d, e]) ds es
theorem zipD_get (ds es : List D) (i : Nat) (d : D) (h : (zipD ds es)[i]? = some d) : ∃ x y, ds[i]? = some x ∧ es[i]? = some y ∧ d = .node .tup false [x, y] := by
  unfold zipD at h
  rw [List.getElem?_zipWith] at h
  cases h1 : ds[i]? with
  | none => rw [h1] at h; cases h
  | some x =>
    cases h2 : es[i]? with
    | none => rw [h1, h2] at h; cases h
    | some y =>
      rw [h1, h2] at h
      cases h
      exact ⟨x, y, rfl, rfl, rfl⟩
theorem cur_zip {K : PySem.W.Frag} {ds es : List D} {a b : Addr} (e1 : frzs ds = ds) (e2 : frzs es = es) : CurOk G C (Itz K a b) (zipD ds es) fun _ => [(.node .lst false ds, .ref a), (.node .lst false es, .ref b)] := by
  refine ⟨fun i d r T s H hd S => ?_, fun r T s H S => ?_⟩
  · obtain ⟨x0, y0, hx, hy, rfl⟩ := zipD_get ds es i d hd
    obtain ⟨ow, S⟩ := S
    have za := S.tm T.length (.node .lst false ds) (.ref a) (by simp)
    have zb := S.tm (T.length + 1) (.node .lst false es) (.ref b) (by rw [List.getElem?_append_right (by omega)]; simp)
    obtain ⟨a', vs, ev, h1, h2, h3⟩ := za
    cases ev
    obtain ⟨b', us, eu, k1, k2, k3⟩ := zb
    cases eu
    obtain ⟨x, x1, x2⟩ := h3.get i x0 hx
    obtain ⟨y, y1, y2⟩ := k3.get i y0 hy
    refine ⟨⟨vs, us, x, y, SqL.of h1, SqL.of k1, x1, y1⟩, fun v H' z => ?_⟩
    obtain ⟨p, x', y', ev, hp, eH, ha, hb⟩ := z
    subst ev eH
    have ex := ha vs (SqL.of h1)
    rw [x1] at ex
    cases ex
    have ey := hb us (SqL.of k1)
    rw [y1] at ey
    cases ey
    have fx := frz_at e1 hx
    have fy := frz_at e2 hy
    have e' : frzs [x0, y0] = [x0, y0] := by show [frz x0, frz y0] = _; rw [fx, fy]
    exact StOk.alloc false ⟨ow, S.pushFs e' (l := ⟨.fo, []⟩) (i := 0) (vs := [x, y]) ⟨_, _, rfl, Rep.moveF _ fx (fun _ _ z q => ⟨z, q⟩) (fun _ _ z _ => z) x2, _, _, rfl, Rep.moveF _ fy (fun _ _ z q => ⟨z, q⟩) (fun _ _ z _ => z) y2, rfl⟩⟩ rfl hp holds_tup (fun z => nomatch z)
  · obtain ⟨ow, S⟩ := S
    have za := S.tm T.length (.node .lst false ds) (.ref a) (by simp)
    have zb := S.tm (T.length + 1) (.node .lst false es) (.ref b) (by rw [List.getElem?_append_right (by omega)]; simp)
    obtain ⟨a', vs, ev, h1, h2, h3⟩ := za
    cases ev
    obtain ⟨b', us, eu, k1, k2, k3⟩ := zb
    cases eu
    refine ⟨vs, us, SqL.of h1, SqL.of k1, ?_⟩
    rw [← h3.length, ← k3.length]
    unfold zipD
    rw [List.length_zipWith]
    omega
def gZip (r : Rho) (xs : List R) : IO := match xs with
  | [.val (.node .lst _ ds), .val (.node .lst _ es)] => .ok (zipD (frzs ds) (frzs es)) r
  | _ => .bad
theorem vi_zip {e e2 : Expr} {p pos tpos : Pos} {elts : List Expr} {kk : Nat} (hg : Gl X "zip") (hm : X.mg "zip" = none) (ha : VA X G C W [e, e2] fs)
    (hs : starEach [e, e2] X.env = (false, eval e X.env) :: starEach [e2] X.env := by rfl) (hpl : (backTo pos (starEach [e2] X.env)).any (·.1) = false := by rfl) : VI X G C W (.Tuple elts kk tpos) (.Call (.Name "zip" p) [e, e2] [] pos) (iRng gZip fs) := by
  refine PI.imp (pi_zip hg hm ha hs hpl) fun s H R h => ?_
  obtain ⟨r, T, S, h⟩ := h
  refine tV_rng S h fun xs vs r1 H1 S1 l1 g => ?_
  unfold gZip at g
  split at g
  · rename_i o ds o' es
    match vs, l1 with
    | [v, u], l1 =>
      obtain ⟨ow, S1⟩ := S1
      have S1 : StW G C ow r1 (T ++ [(D.node .lst o ds, v), (D.node .lst o' es, u)]) s H1 := by simpa [pushs, pushR] using S1
      have S2 := StW.frzTm (T1 := T) (d := D.node .lst o ds) (v := v) (T2 := [(D.node .lst o' es, u)]) S1
      have S3 := StW.frzTm (T1 := T ++ [(frz (D.node .lst o ds), v)]) (d := D.node .lst o' es) (v := u) (T2 := []) (by simpa using S2)
      generalize free (free ow (.tm T.length)) (.tm (T ++ [(frz (D.node .lst o ds), v)]).length) = ow3 at S3
      have S3 : StW G C ow3 r1 (T ++ [(frz (D.node .lst o ds), v), (frz (D.node .lst o' es), u)]) s H1 := by simpa using S3
      have za := S3.tm T.length (frz (.node .lst o ds)) v (by simp)
      have zb := S3.tm (T.length + 1) (frz (.node .lst o' es)) u (by rw [List.getElem?_append_right (by omega)]; simp)
      obtain ⟨a, ws, ev, h1, h2, h3⟩ := za
      subst ev
      obtain ⟨b, us, eu, k1, k2, k3⟩ := zb
      subst eu
      exact ⟨a, b, ws, us, rfl, SqL.of h1, SqL.of k1, g _ _ _ (cur_zip (frzs_frzs ds) (frzs_frzs es)) ⟨_, S3⟩⟩
    | [], l1 => exact l1.elim
    | [_], l1 => exact l1.2.elim
    | _ :: _ :: _ :: _, l1 => exact l1.2.2.elim
  · exact g.elim
end
theorem it_zip {fa fb : Ev} {r r1 r2 : Rho} {o o' : Bool} {ds es : List D} (h : cSet fa r = .ok (.val (.node .lst o ds)) r1) (h2 : cSet fb r1 = .ok (.val (.node .lst o' es)) r2) (f : frzs ds = ds) (f2 : frzs es = es) : iRng gZip (cCons (cSet fa) (cCons (cSet fb) cNil)) r = .ok (zipD ds es) r2 := by
  rw [q_iRng, q_cons, h]
  show (match (match cCons (cSet fb) cNil r1 with | .ok xs r2 => AO.ok (R.val (.node .lst o ds) :: xs) r2 | .exc c r2 => .exc c r2 | .bad => .bad) with | .ok xs r1 => gZip r1 xs | .exc c r1 => .exc c r1 | .bad => .bad) = _
  rw [q_cons, h2]
  show IO.ok (zipD (frzs ds) (frzs es)) r2 = _
  rw [f, f2]
end VL

namespace VL
open PySem PySem.Spec PyProof.Rows L2
section
variable {X : Cx} {G : GX} {C : Fc} {W : WX} {ow ow' : Ow} {r : Rho} {T T1 T2 : List (D × V)} {s : L2.St} {H H' : Hp}
end
end VL

namespace VL
open PySem PySem.Spec PyProof.Rows L2
def rel (φ : Loc → Option Loc) (ow : Ow) : Ow := fun a => (ow a).bind φ
section
variable {X : Cx} {G : GX} {C : Fc} {W : WX} {ow ow' : Ow} {r : Rho} {T T1 T2 : List (D × V)} {s : L2.St} {H H' : Hp} {fa fb fc : Ev} {f g : Sv} {φ : Loc → Option Loc}
theorem rel_none {a : Addr} (h : ow a = none) : rel φ ow a = none := by unfold rel; rw [h]; rfl
theorem rel_some {a : Addr} {l : Loc} (h : ow a = some l) : rel φ ow a = φ l := by unfold rel; rw [h]; rfl
theorem rel_of {a : Addr} {l : Loc} (h : rel φ ow a = some l) : ∃ l0, ow a = some l0 ∧ φ l0 = some l := by
  unfold rel at h
  cases e : ow a with
  | none => rw [e] at h; cases h
  | some l0 => rw [e] at h; exact ⟨l0, rfl, h⟩
theorem Rep.rel {d : D} {l l' : Loc} {v : V} (h : Rep G ow H d l v) (hφ : ∀ q, φ (l.app q) = some (l'.app q)) : Rep G (VL.rel φ ow) H d l' v :=
  h.mono d (fun _ _ z _ => z) (fun _ _ z _ => z) (fun _ _ _ z => rel_none z) fun a o q _ z => (rel_some z).trans (hφ q)
theorem OwnAt.rel {k : Kd} {o : Bool} {l l' : Loc} {a : Addr} (h : OwnAt k o l (ow a)) (hφ : φ l = some l') : OwnAt k o l' (VL.rel φ ow a) := by
  rcases h.cases with e | e
  · exact .ofR e
  · refine .mk ?_
    cases o with
    | true => rw [rel_some (l := l) (by simpa using e), hφ]; rfl
    | false => rw [rel_none (by simpa using e)]; rfl
theorem StW.reloc {r' : Rho} {T' : List (D × V)} (S : StW G C ow r T s H) (hl : r'.length = r.length) (hf : ∀ l, l.b = .fo → φ l = some l)
    (hsl : ∀ (i : Nat) (d : D), r'[i]? = some (some d) → ∃ v, s[i]? = some (some v) ∧ Rep G (VL.rel φ ow) H d ⟨.sl i, []⟩ v) (htm : ∀ (j : Nat) (d : D) (v : V), T'[j]? = some (d, v) → Rep G (VL.rel φ ow) H d ⟨.tm j, []⟩ v) : StW G C (VL.rel φ ow) r' T' s H where
  len := hl.trans S.len
  sl := hsl
  tm := htm
  old := S.old
  own := fun a l q => by
    obtain ⟨l0, e, q⟩ := rel_of q
    rcases S.own a l0 e with z | z
    · rw [hf l0 z] at q; cases q; exact .inl z
    · exact .inr z
  fo := fun a q => by rw [rel_some (S.fo a q)]; exact hf _ rfl
  mu := fun a l q => by obtain ⟨l0, e, _⟩ := rel_of q; exact S.mu a l0 e
  pin := S.pin
  tabs := S.tabs
def liftF (n i m : Nat) : Loc → Option Loc
  | ⟨.sl j, p⟩ => if j = i ∧ p.head? = some m then some ⟨.tm n, p.tail⟩ else some ⟨.sl j, p⟩
  | ⟨.tm j, p⟩ => if j < n then some ⟨.tm j, p⟩ else none
  | ⟨.fo, p⟩ => some ⟨.fo, p⟩
theorem liftF_fo {n i m : Nat} : ∀ l : Loc, l.b = .fo → liftF n i m l = some l := fun ⟨b, p⟩ h => by
  have h : b = .fo := h
  subst h; rfl
theorem liftF_tm {n i m j : Nat} {p : List Nat} (h : j < n) : liftF n i m ⟨.tm j, p⟩ = some ⟨.tm j, p⟩ := if_pos h
theorem liftF_sl {n i m j : Nat} {p : List Nat} (h : j ≠ i) : liftF n i m ⟨.sl j, p⟩ = some ⟨.sl j, p⟩ := if_neg fun z => h z.1
theorem liftF_in {n i m : Nat} {p : List Nat} (h : p.head? ≠ some m) : liftF n i m ⟨.sl i, p⟩ = some ⟨.sl i, p⟩ := if_neg fun z => h z.2
theorem liftF_at {n i m : Nat} {p : List Nat} : liftF n i m ⟨.sl i, m :: p⟩ = some ⟨.tm n, p⟩ := if_pos ⟨rfl, rfl⟩
theorem getT {p : D × V} {j : Nat} {d : D} {v : V} (q : (T ++ [p])[j]? = some (d, v)) : (j < T.length ∧ T[j]? = some (d, v)) ∨ (j = T.length ∧ p = (d, v)) := by
  by_cases hj : j < T.length
  · rw [List.getElem?_append_left hj] at q
    exact .inl ⟨hj, q⟩
  · rw [List.getElem?_append_right (by omega)] at q
    have e : j = T.length := by
      have := (List.getElem?_eq_some_iff.mp q).1
      simp at this; omega
    subst e
    simp at q
    exact .inr ⟨rfl, q⟩
theorem StW.lift {i m : Nat} {k : Kd} {o : Bool} {ds : List D} {d : D} (S : StW G C ow r T s H) (q : r[i]? = some (some (.node k o ds))) (hd : ds[m]? = some d) :
    ∃ a vs v, s[i]? = some (some (.ref a)) ∧ Holds G H a k vs ∧ OwnAt k o ⟨.sl i, []⟩ (ow a) ∧ vs.length = ds.length ∧ vs[m]? = some v ∧ Reps G ow H ds ⟨.sl i, []⟩ 0 vs ∧ StW G C (VL.rel (liftF T.length i m) ow) (r.set i (some (.node k o (ds.set m .any)))) (T ++ [(d, v)]) s H := by
  obtain ⟨v', z1, a, vs, ev, z2, z3, z4⟩ := S.sl i _ q
  subst ev
  obtain ⟨v, hv, hr⟩ := z4.get m d hd
  have hi : i < r.length := (List.getElem?_eq_some_iff.mp q).1
  refine ⟨a, vs, v, z1, z2, z3, z4.length.symm, hv, z4, S.reloc (by simp) liftF_fo (fun j d' y => ?_) fun j d' w y => ?_⟩
  · by_cases hj : j = i
    · subst hj
      rw [List.getElem?_set_self hi] at y
      cases y
      refine ⟨_, z1, a, vs, rfl, z2, z3.rel (liftF_in (by simp)), Reps.of_get (by simp [z4.length]) fun j' d' v' y1 y2 => ?_⟩
      by_cases hm : j' = m
      · subst hm
        rw [List.getElem?_set_self (List.getElem?_eq_some_iff.mp hd).1] at y1
        cases y1
        trivial
      · rw [List.getElem?_set_ne (Ne.symm hm)] at y1
        obtain ⟨v2, e1, e2⟩ := z4.get j' d' y1
        rw [y2] at e1
        cases e1
        refine e2.rel fun p => ?_
        simp only [Loc.sub, Loc.app]
        exact liftF_in (by simp; omega)
    · rw [List.getElem?_set_ne (Ne.symm hj)] at y
      obtain ⟨w, y1, y2⟩ := S.sl j d' y
      exact ⟨w, y1, y2.rel fun p => liftF_sl hj⟩
  · rcases getT y with ⟨hj, y⟩ | ⟨hj, y⟩
    · exact (S.tm j d' w y).rel fun p => liftF_tm hj
    · cases y
      subst hj
      refine hr.rel fun p => ?_
      simp only [Loc.sub, Loc.app, Nat.zero_add, List.nil_append, List.singleton_append]
      exact liftF_at
def pullF (n i : Nat) : Loc → Option Loc
  | ⟨.sl j, p⟩ => if j = i then some ⟨.tm n, p⟩ else some ⟨.sl j, p⟩
  | ⟨.tm j, p⟩ => if j < n then some ⟨.tm j, p⟩ else none
  | ⟨.fo, p⟩ => some ⟨.fo, p⟩
theorem StW.pull {i : Nat} {d : D} (S : StW G C ow r T s H) (q : r[i]? = some (some d)) : ∃ v, s[i]? = some (some v) ∧ StW G C (VL.rel (pullF T.length i) ow) (r.set i (some .any)) (T ++ [(d, v)]) s H := by
  obtain ⟨v, z1, z2⟩ := S.sl i _ q
  have hi : i < r.length := (List.getElem?_eq_some_iff.mp q).1
  refine ⟨v, z1, S.reloc (by simp) (fun ⟨b, p⟩ h => by have h : b = .fo := h; subst h; rfl) (fun j d' y => ?_) fun j d' w y => ?_⟩
  · by_cases hj : j = i
    · subst hj
      rw [List.getElem?_set_self hi] at y
      cases y
      exact ⟨v, z1, trivial⟩
    · rw [List.getElem?_set_ne (Ne.symm hj)] at y
      obtain ⟨w, y1, y2⟩ := S.sl j d' y
      exact ⟨w, y1, y2.rel fun p => if_neg hj⟩
  · rcases getT y with ⟨hj, y⟩ | ⟨hj, y⟩
    · exact (S.tm j d' w y).rel fun p => if_pos hj
    · cases y
      subst hj
      exact z2.rel fun p => if_pos rfl
def backF (n i m : Nat) : Loc → Option Loc
  | ⟨.sl j, p⟩ => if j = i ∧ p.head? = some m then none else some ⟨.sl j, p⟩
  | ⟨.tm j, p⟩ => if j = n then some ⟨.sl i, m :: p⟩ else if j < n then some ⟨.tm j, p⟩ else none
  | ⟨.fo, p⟩ => some ⟨.fo, p⟩
theorem StW.giveBack {i m : Nat} {k : Kd} {o : Bool} {ds : List D} {d : D} {v : V} {a : Addr} {vs : List V} (S : StW G C ow r (T ++ [(d, v)]) s H) (q : r[i]? = some (some (.node k o ds))) (ha : s[i]? = some (some (.ref a))) (hk : isR k ≠ true) (hh : Holds G H a k vs) (hv : vs[m]? = some v)
    (hu : ∀ us, Holds G H a k us → us = vs) : StW G C (VL.rel (backF T.length i m) ow) (r.set i (some (.node k o (ds.set m d)))) T s H := by
  obtain ⟨v', z1, a', vs', ev, z2, z3, z4⟩ := S.sl i _ q
  rw [ha] at z1
  cases z1
  cases ev
  have ee := hu _ z2
  subst ee
  have hi : i < r.length := (List.getElem?_eq_some_iff.mp q).1
  refine StW.reloc (StW.drop S) (by simp) (fun ⟨b, p⟩ h => by have h : b = .fo := h; subst h; rfl) (fun j d' y => ?_) fun j d' w y => ?_
  · by_cases hj : j = i
    · subst hj
      rw [List.getElem?_set_self hi] at y
      cases y
      refine ⟨_, ha, a, vs', rfl, z2, z3.rel (if_neg (by simp)), Reps.of_get (by simp [z4.length]) fun j' d' v' y1 y2 => ?_⟩
      by_cases hm : j' = m
      · subst hm
        have hlt : j' < ds.length := by
          have := (List.getElem?_eq_some_iff.mp y1).1
          simpa using this
        rw [List.getElem?_set_self hlt] at y1
        cases y1
        rw [hv] at y2
        cases y2
        refine (StW.last S).rel fun p => ?_
        simp only [Loc.sub, Loc.app, Nat.zero_add, List.nil_append, List.singleton_append]
        exact if_pos rfl
      · rw [List.getElem?_set_ne (Ne.symm hm)] at y1
        obtain ⟨v2, e1, e2⟩ := z4.get j' d' y1
        rw [y2] at e1
        cases e1
        refine e2.rel fun p => ?_
        simp only [Loc.sub, Loc.app]
        exact if_neg (by simp; omega)
    · rw [List.getElem?_set_ne (Ne.symm hj)] at y
      obtain ⟨w, y1, y2⟩ := S.sl j d' y
      exact ⟨w, y1, y2.rel fun p => if_neg fun z => hj z.1⟩
  · have hj : j < T.length := (List.getElem?_eq_some_iff.mp y).1
    refine ((StW.drop S).tm j d' w y).rel fun p => ?_
    show (if j = T.length then _ else if j < T.length then _ else _) = _
    rw [if_neg (by omega), if_pos hj]
    rfl
def Fc.bod (C : Fc) (H : Hp) (ow : Ow) (i j : Nat) (u v : V) : Fc := ⟨H, fun b => ∃ l, ow b = some l ∧ l.b ≠ .fo ∧ l.b ≠ .sl i, fun b => C.fo b ∨ ∃ p, ow b = some ⟨.sl i, p⟩, (j, v) :: (i, u) :: C.pin⟩
def lendF (i : Nat) : Loc → Option Loc := fun l => if l.b = .sl i then some ⟨.fo, []⟩ else some l
theorem StW.lend {i j : Nat} {u v : V} (S : StW G C ow r T s H) (hi : s[i]? = some (some u)) (hj : s[j]? = some (some v)) : StW G (C.bod H ow i j u v) (VL.rel (lendF i) ow) (r.set i (some .any)) T s H where
  len := by simpa using S.len
  sl := fun i' d q => by
    by_cases he : i' = i
    · subst he
      have hlt : i' < r.length := by
        have := (List.getElem?_eq_some_iff.mp q).1
        simpa using this
      rw [List.getElem?_set_self hlt] at q
      cases q
      exact ⟨u, hi, trivial⟩
    · rw [List.getElem?_set_ne (Ne.symm he)] at q
      obtain ⟨w, y1, y2⟩ := S.sl i' d q
      exact ⟨w, y1, y2.rel fun p => if_neg fun z => he (by injection z)⟩
  tm := fun n d w q => (S.tm n d w q).rel fun p => if_neg fun z => nomatch z
  old := fun a o _ z => .inl z
  own := fun b l q => by
    obtain ⟨l0, e, q⟩ := rel_of q
    unfold lendF at q
    split at q
    · cases q; exact .inl rfl
    · rename_i n
      cases q
      by_cases hf : l.b = .fo
      · exact .inl hf
      · exact .inr (.inr ⟨l, e, hf, n⟩)
  fo := fun b q => by
    rcases q with q | ⟨p, q⟩
    · rw [rel_some (S.fo b q)]; exact if_neg fun z => nomatch z
    · rw [rel_some q]; exact if_pos rfl
  mu := fun b l q => by obtain ⟨l0, e, _⟩ := rel_of q; exact S.mu b l0 e
  pin := fun p hp => by
    rcases List.mem_cons.mp hp with z | hp
    · rw [z]; exact hj
    rcases List.mem_cons.mp hp with z | hp
    · rw [z]; exact hi
    · exact S.pin p hp
  tabs := S.tabs
end
end VL

namespace VL
open PySem PySem.Spec PyProof.Rows L2
def fcQ (H : Hp) (ow0 : Ow) (q : Nat) (v0 : V) : Fc := ⟨H, fun a => ∃ p, ow0 a = some ⟨.sl q, p⟩, fun a => ow0 a = some ⟨.fo, []⟩, [(q, v0)]⟩
def spQ (G : GX) (q n : Nat) (F : D → List D → MO) : Sp := fun vs H Q E => ∃ (d0 : D) (ds : List D) (v0 : V) (us1 us2 : List V) (ow0 : Ow), vs = us1 ++ v0 :: us2 ∧ us1.length = q ∧ ds.length = n ∧ frzs ds = ds ∧ Rep G ow0 H d0 ⟨.sl q, []⟩ v0 ∧ Reps G ow0 H ds ⟨.fo, []⟩ 0 (us1 ++ us2) ∧
  (∀ a l, ow0 a = some l → OwnO (H a) ∧ (l.b = .sl q ∨ l = ⟨.fo, []⟩)) ∧ LamX.Tabs G.T H ∧ match F d0 ds with
  | .ok d d0' => ∀ v H' (ow1 : Ow) (b : Bs), (∀ a o, (∀ p, ow0 a ≠ some ⟨.sl q, p⟩) → H a = some o → Kt (H' a) o) → b ≠ .fo → b ≠ .sl q → Rep G ow1 H' d ⟨b, []⟩ v → Rep G ow1 H' d0' ⟨.sl q, []⟩ v0 →
      (∀ a l, ow1 a = some l → l.b ≠ .fo → H a = none ∨ ∃ p, ow0 a = some ⟨.sl q, p⟩) → (∀ a, ow0 a = some ⟨.fo, []⟩ → ow1 a = some ⟨.fo, []⟩) → (∀ a l, ow1 a = some l → OwnO (H' a)) → LamX.Tabs G.T H' → Q v H'
  | .bad => False
theorem spQ_len {G : GX} {q n : Nat} {F : D → List D → MO} {vs : List V} {H : Hp} {Q : VK} {E : XK} (h : spQ G q n F vs H Q E) : vs.length = n + 1 := by
  obtain ⟨d0, ds, v0, us1, us2, ow0, e, _, h1, _, _, h4, _⟩ := h
  have := h4.length
  rw [List.length_append] at this
  rw [e, List.length_append, List.length_cons]
  omega
def putQ (q : Nat) (d0 : D) (ds : List D) : List D := ds.take q ++ d0 :: ds.drop q
def runQ (q n : Nat) (f : Sv) (d0 : D) (ds : List D) : MO := match f (startR n (putQ q d0 ds)) with
  | .rt (.val d) r => (match r[q]? with
    | some (some d0') => .ok d d0'
    | _ => .bad)
  | .rt (.loc i) r => if i = q then .bad else (match opd r (.loc i), r[q]? with
    | some d, some (some d0') => .ok d d0'
    | _, _ => .bad)
  | .nx r => (match r[q]? with
    | some (some d0') => .ok .non d0'
    | _ => .bad)
  | _ => .bad
section
variable {G : GX} {H H' : Hp} {ow ow0 : Ow}
theorem startQ_ok {N : List Str} {d0 : D} {ds : List D} {v0 : V} {us1 us2 : List V} {q : Nat} (ht : LamX.Tabs G.T H) (hq : us1.length = q) (hm : ∀ a l, ow0 a = some l → OwnO (H a) ∧ (l.b = .sl q ∨ l = ⟨.fo, []⟩)) (e : frzs ds = ds) (h0 : Rep G ow0 H d0 ⟨.sl q, []⟩ v0) (h : Reps G ow0 H ds ⟨.fo, []⟩ 0 (us1 ++ us2)) : StW G (fcQ H ow0 q v0) ow0 (startR N.length (putQ q d0 ds)) [] (L2.start N (us1 ++ v0 :: us2)) H := by
  have hlen := h.length
  rw [List.length_append] at hlen
  have part : ∀ (i' : Nat) (i : Nat) (d : D), ds[i']? = some d → (us1 ++ v0 :: us2)[i]? = (us1 ++ us2)[i']? → ∃ v, (L2.start N (us1 ++ v0 :: us2))[i]? = some (some v) ∧ Rep G ow0 H d ⟨.sl i, []⟩ v := fun i' i d q2 ev => by
    obtain ⟨v, h1, h2⟩ := h.get i' d q2
    have f : frz d = d := by
      have := congrArg (·[i']?) e
      simp only [frzs_map, List.getElem?_map, q2, Option.map_some] at this
      exact Option.some.inj this
    exact ⟨v, start_get (by rw [ev]; exact h1), Rep.moveF d f (fun a o z q => ⟨z, q⟩) (fun _ _ z _ => z) h2⟩
  exact {
  len := by
    unfold startR L2.start putQ
    simp
    omega
  sl := fun i d y => by
    have y' := startR_get y
    unfold putQ at y'
    by_cases h1 : i < q
    · rw [List.getElem?_append_left (by rw [List.length_take]; omega), List.getElem?_take_of_lt h1] at y'
      exact part i i d y' (by rw [List.getElem?_append_left (by omega), List.getElem?_append_left (by omega)])
    · by_cases h2 : i = q
      · subst h2
        rw [List.getElem?_append_right (by rw [List.length_take]; omega), List.length_take, Nat.min_eq_left (by omega), Nat.sub_self] at y'
        simp at y'
        subst y'
        exact ⟨v0, start_get (by rw [List.getElem?_append_right (by omega), hq, Nat.sub_self]; rfl), h0⟩
      · obtain ⟨m, hm⟩ : ∃ m, i = q + 1 + m := ⟨i - q - 1, by omega⟩
        subst hm
        rw [List.getElem?_append_right (by rw [List.length_take]; omega), List.length_take, Nat.min_eq_left (by omega), show q + 1 + m - q = m + 1 by omega, List.getElem?_cons_succ, List.getElem?_drop] at y'
        refine part (q + m) (q + 1 + m) d y' ?_
        rw [List.getElem?_append_right (by omega), List.getElem?_append_right (by omega), hq, show q + 1 + m - q = m + 1 by omega, List.getElem?_cons_succ, show q + m - q = m by omega]
  tm := fun j d v q => by simp at q
  old := fun a o _ z => .inl z
  own := fun a l y => by
    obtain ⟨_, z | z⟩ := hm a l y
    · obtain ⟨lb, lp⟩ := l
      have z : lb = .sl q := z
      subst z
      exact .inr (.inr ⟨lp, y⟩)
    · subst z; exact .inl rfl
  fo := fun a y => y
  mu := fun a l y => (hm a l y).1
  pin := fun p hp => by
    have e : p = (q, v0) := by simpa [fcQ] using hp
    subst e
    exact start_get (by rw [List.getElem?_append_right (by omega), hq, Nat.sub_self]; rfl)
  tabs := ht }
end
section
variable {P : Program} {w : World} {K : PySem.W.Frag} {mg : Str → Option Value} {base : Heap} {G : GX}
end
section
variable {X : Cx} {G : GX} {C : Fc} {W : WX} {ow ow' : Ow} {r : Rho} {T T1 T2 : List (D × V)} {s : L2.St} {H H' : Hp} {fs : Av}
def homeF (n i : Nat) : Loc → Option Loc
  | ⟨.sl j, p⟩ => if j = i then none else some ⟨.sl j, p⟩
  | ⟨.tm j, p⟩ => if j = n then some ⟨.sl i, p⟩ else if j < n then some ⟨.tm j, p⟩ else none
  | ⟨.fo, p⟩ => some ⟨.fo, p⟩
theorem StW.home {i : Nat} {d : D} {v : V} (S : StW G C ow r (T ++ [(d, v)]) s H) (hv : s[i]? = some (some v)) : StW G C (VL.rel (homeF T.length i) ow) (r.set i (some d)) T s H := by
  refine StW.reloc (StW.drop S) (by simp) (fun ⟨b, p⟩ h => by have h : b = .fo := h; subst h; rfl) (fun j d' y => ?_) fun j d' w y => ?_
  · by_cases hj : j = i
    · subst hj
      have hlt : j < r.length := by
        have := (List.getElem?_eq_some_iff.mp y).1
        simpa using this
      rw [List.getElem?_set_self hlt] at y
      cases y
      exact ⟨v, hv, (StW.last S).rel fun p => if_pos rfl⟩
    · rw [List.getElem?_set_ne (Ne.symm hj)] at y
      obtain ⟨w, y1, y2⟩ := S.sl j d' y
      exact ⟨w, y1, y2.rel fun p => if_neg hj⟩
  · have hj : j < T.length := (List.getElem?_eq_some_iff.mp y).1
    refine ((StW.drop S).tm j d' w y).rel fun p => ?_
    show (if j = T.length then _ else if j < T.length then _ else _) = _
    rw [if_neg (by omega), if_pos hj]
    rfl
def lentT (ow : Ow) (m q : Nat) : Ow := fun a => match ow a with
  | some l => if l.b = .tm m then some ⟨.sl q, l.p⟩ else some ⟨.fo, []⟩
  | none => none
def paidT (ow ow1 : Ow) (m n q : Nat) : Ow := fun a => match ow1 a with
  | some l => if l.b = .fo then ow a else if l.b = .sl q then some ⟨.tm m, l.p⟩ else some ⟨.tm n, l.p⟩
  | none => none
theorem lentT_none {m q : Nat} {a : Addr} : lentT ow m q a = none ↔ ow a = none := by
  unfold lentT
  cases ow a with
  | none => simp
  | some l => by_cases h : l.b = .tm m <;> simp [h]
theorem lentT_tm {m q : Nat} {a : Addr} {p : List Nat} : lentT ow m q a = some ⟨.sl q, p⟩ ↔ ow a = some ⟨.tm m, p⟩ := by
  unfold lentT
  cases ow a with
  | none => simp
  | some l =>
    obtain ⟨lb, lp⟩ := l
    by_cases h : lb = .tm m <;> simp [h]
theorem lentT_fo {m q : Nat} {a : Addr} {l : Loc} (h : ow a = some l) (n : l.b ≠ .tm m) : lentT ow m q a = some ⟨.fo, []⟩ := by
  unfold lentT; rw [h]; simp [n]
theorem tempQ {q n : Nat} {F : D → List D → MO} {d0 : D} {v0 : V} {ds : List D} {us1 us2 : List V} {Q : VK} {E : XK} (S2 : StW G C ow r (T ++ [(d0, v0)]) s H) (hq : us1.length = q) (hn : ds.length = n) (hf : frzs ds = ds) (hr : Reps G ow H ds ⟨.fo, []⟩ 0 (us1 ++ us2))
    (h : match F d0 ds with
      | .ok d d0' => ∀ v H', StOk G C r (T ++ [(d0', v0)] ++ [(d, v)]) s H' → (∀ a o, H a = some o → (∀ p, ow a ≠ some ⟨.tm T.length, p⟩) → Kt (H' a) o) → Q v H'
      | .bad => False) : spQ G q n F (us1 ++ v0 :: us2) H Q E := by
  have z2 : Rep G ow H d0 ⟨.tm T.length, []⟩ v0 := S2.last
  refine ⟨d0, ds, v0, us1, us2, lentT ow T.length q, rfl, hq, hn, hf, ?_, ?_, ?_, S2.tabs, ?_⟩
  · refine Rep.mono (l := ⟨.tm T.length, []⟩) d0 (fun _ _ z _ => z) (fun _ _ z _ => z) (fun a o _ n => lentT_none.mpr n) (fun a o p _ n => ?_) z2
    exact lentT_tm.mpr n
  · exact Reps.moveF _ hf (fun a o z n => ⟨z, lentT_none.mpr n⟩) (fun _ _ z _ => z) hr
  · intro a m y
    unfold lentT at y
    cases x : ow a with
    | none => rw [x] at y; cases y
    | some m' =>
      rw [x] at y
      refine ⟨S2.mu a m' x, ?_⟩
      simp only at y
      split at y
      · cases y; exact .inl rfl
      · cases y; exact .inr rfl
  · cases e3 : F d0 ds with
    | bad => simp only [e3] at h
    | ok d d0' =>
      simp only [e3] at h
      intro v H' ow1 b k1 b1 b2 hr h0 k2 k3 k4 k5
      have kept : ∀ a o, H a = some o → (∀ p, ow a ≠ some ⟨.tm T.length, p⟩) → Kt (H' a) o := fun a o q n => k1 a o (fun p z => n p (lentT_tm.mp z)) q
      refine h v H' ⟨paidT ow ow1 T.length (T.length + 1) q, ?_⟩ kept
      have exn : ∀ a o, H a = some o → ¬ OwnO (some o) → Kt (H' a) o := fun a o q n => kept a _ q fun p z => by
        have m := S2.mu a _ z
        rw [q] at m
        exact n m
      have none_ : ∀ a o, H a = some o → ow a = none → paidT ow ow1 T.length (T.length + 1) q a = none := fun a o q n => by
        unfold paidT
        cases y : ow1 a with
        | none => rfl
        | some m =>
          by_cases hf : m.b = .fo
          · simp only [hf, if_true]; exact n
          · rcases k2 a m y hf with z | ⟨p, z⟩
            · rw [z] at q; cases q
            · rw [lentT_tm.mp z] at n; cases n
      have same_ : ∀ a m, ow a = some m → m.b ≠ .tm T.length → paidT ow ow1 T.length (T.length + 1) q a = some m := fun a m q n => by
        unfold paidT
        rw [k3 a (lentT_fo q n)]
        simp [q]
      have hpush : StW G C (paidT ow ow1 T.length (T.length + 1) q) r (T ++ [(d0', v0)]) s H' := by
        refine ⟨S2.len, fun i' d' y => ?_, fun j' d' w y => ?_, fun a o n y => ?_, fun a m y => ?_, fun a y => ?_, fun a m y => ?_, S2.pin, k5⟩
        · obtain ⟨w, y1, y2⟩ := S2.sl i' d' y
          refine ⟨w, y1, Rep.mono (l := ⟨.sl i', []⟩) d' (fun a o z u => kept a o z fun p z2 => ?_) (fun a o z n => exn a o z n) (fun a o z n => none_ a o z n) (fun a o p _ n => ?_) y2⟩
          · rcases u with u | ⟨p', u⟩
            · rw [u] at z2; cases z2
            · rw [u] at z2
              have z2 := Option.some.inj z2
              unfold Loc.app at z2
              injection z2 with z3 _
              cases z3
          · exact same_ a _ n (fun z => nomatch z)
        · rcases getT y with ⟨hj, y⟩ | ⟨hj, y⟩
          · have z := (StW.drop S2).tm j' d' w y
            refine Rep.mono (l := ⟨.tm j', []⟩) d' (fun a o z u => kept a o z fun p z2 => ?_) (fun a o z n => exn a o z n) (fun a o z n => none_ a o z n) (fun a o p _ n => ?_) z
            · rcases u with u | ⟨p', u⟩
              · rw [u] at z2; cases z2
              · rw [u] at z2
                have z2 := Option.some.inj z2
                unfold Loc.app at z2
                injection z2 with z3 _
                injection z3 with z3
                omega
            · exact same_ a _ n (fun z => by unfold Loc.app at z; injection z with z; omega)
          · cases y
            subst hj
            refine Rep.mono (l := ⟨.sl q, []⟩) d0' (fun _ _ z _ => z) (fun _ _ z _ => z) (fun a o _ n => by unfold paidT; rw [n]) (fun a o p _ n => ?_) h0
            have n' : ow1 a = some ⟨.sl q, [] ++ p⟩ := n
            unfold paidT
            rw [n']
            simp [Loc.app]
        · refine (S2.old a o n y).bind fun u0 y0 => kept a u0 y0 fun p z => ?_
          rcases S2.own a _ z with z2 | z2 | z2
          · cases z2
          · rw [z2] at y; cases y
          · exact n z2
        · unfold paidT at y
          cases y1 : ow1 a with
          | none => rw [y1] at y; cases y
          | some m' =>
            rw [y1] at y
            by_cases hf : m'.b = .fo
            · simp only [hf, if_true] at y
              exact S2.own a m y
            · refine .inr ?_
              rcases k2 a m' y1 hf with z | ⟨p, z⟩
              · cases e : C.H0 a with
                | none => exact .inl rfl
                | some u =>
                  by_cases hi : C.io a
                  · exact .inr hi
                  · exact ((S2.old a u hi e).on z).elim
              · rcases S2.own a _ (lentT_tm.mp z) with z2 | z2
                · cases z2
                · exact z2
        · exact same_ a _ (S2.fo a y) (fun z => nomatch z)
        · unfold paidT at y
          cases y1 : ow1 a with
          | none => rw [y1] at y; cases y
          | some m' => exact k4 a m' y1
      refine hpush.push (Rep.mono (l := ⟨b, []⟩) d (fun _ _ z _ => z) (fun _ _ z _ => z) (fun a o _ n => by unfold paidT; rw [n]) (fun a o p _ n => ?_) hr)
      have n' : ow1 a = some ⟨b, [] ++ p⟩ := n
      unfold paidT
      rw [n']
      simp [Loc.app, b1, b2]
theorem locs_split : ∀ {xs1 : List R} {x0 : R} {xs2 : List R} {vs : List V}, LocsOk s (xs1 ++ x0 :: xs2) vs → ∃ us1 v0 us2, vs = us1 ++ v0 :: us2 ∧ us1.length = xs1.length ∧ us2.length = xs2.length ∧ LocsOk s (xs1 ++ xs2) (us1 ++ us2) ∧ LocsOk s (xs2 ++ xs1) (us2 ++ us1) ∧ LocOk s v0 x0 ∧ pushs (xs1 ++ x0 :: xs2) vs = pushs xs1 us1 ++ (pushR x0 v0 ++ pushs xs2 us2) ∧ pushs (xs1 ++ xs2) (us1 ++ us2) = pushs xs1 us1 ++ pushs xs2 us2 ∧ pushs (xs2 ++ xs1) (us2 ++ us1) = pushs xs2 us2 ++ pushs xs1 us1 := by
  have app : ∀ {xs ys : List R} {us ws : List V}, xs.length = us.length → LocsOk s xs us → LocsOk s ys ws → LocsOk s (xs ++ ys) (us ++ ws) ∧ pushs (xs ++ ys) (us ++ ws) = pushs xs us ++ pushs ys ws := by
    intro xs
    induction xs with
    | nil =>
      intro ys us ws hl _ h2
      have : us = [] := by simpa using hl.symm
      subst this
      exact ⟨h2, rfl⟩
    | cons x xs ih =>
      intro ys us ws hl h1 h2
      cases us with
      | nil => simp at hl
      | cons u us =>
        obtain ⟨a, b⟩ := ih (by simpa using hl) h1.2 h2
        refine ⟨⟨h1.1, a⟩, ?_⟩
        show pushR x u ++ pushs (xs ++ ys) (us ++ ws) = (pushR x u ++ pushs xs us) ++ pushs ys ws
        rw [b, List.append_assoc]
  have spl : ∀ {xs1 : List R} {x0 : R} {xs2 : List R} {vs : List V}, LocsOk s (xs1 ++ x0 :: xs2) vs → ∃ us1 v0 us2, vs = us1 ++ v0 :: us2 ∧ us1.length = xs1.length ∧ us2.length = xs2.length ∧ LocsOk s xs1 us1 ∧ LocsOk s xs2 us2 ∧ LocOk s v0 x0 ∧ pushs (xs1 ++ x0 :: xs2) vs = pushs xs1 us1 ++ (pushR x0 v0 ++ pushs xs2 us2) := by
    intro xs1
    induction xs1 with
    | nil =>
      intro x0 xs2 vs h
      cases vs with
      | nil => exact h.elim
      | cons v vs => exact ⟨[], v, vs, rfl, rfl, h.2.length.symm, trivial, h.2, h.1, rfl⟩
    | cons x xs ih =>
      intro x0 xs2 vs h
      cases vs with
      | nil => exact h.elim
      | cons v vs =>
        obtain ⟨us1, v0, us2, e, l1, l2, h1, h2, h3, h4⟩ := ih h.2
        refine ⟨v :: us1, v0, us2, by rw [e]; rfl, by simp [l1], l2, ⟨h.1, h1⟩, h2, h3, ?_⟩
        show pushR x v ++ pushs (xs ++ x0 :: xs2) vs = (pushR x v ++ pushs xs us1) ++ _
        rw [h4, List.append_assoc]
  intro xs1 x0 xs2 vs h
  obtain ⟨us1, v0, us2, e, l1, l2, h1, h2, h3, h4⟩ := spl h
  obtain ⟨a1, b1⟩ := app l1.symm h1 h2
  obtain ⟨a2, b2⟩ := app l2.symm h2 h1
  exact ⟨us1, v0, us2, e, l1, l2, a1, a2, h3, h4, b1, b2⟩
theorem valsR_app : ∀ {xs ys : List R} {ds es : List D}, valsR xs = some ds → valsR ys = some es → valsR (xs ++ ys) = some (ds ++ es)
  | [], ys, ds, es, h1, h2 => by cases h1; exact h2
  | .loc _ :: _, _, _, _, h1, _ => by cases h1
  | .val d :: xs, ys, ds, es, h1, h2 => by
    unfold valsR at h1
    cases e : valsR xs with
    | none => rw [e] at h1; cases h1
    | some ds' =>
      rw [e] at h1
      cases h1
      show (match valsR (xs ++ ys) with | some ds => some (d :: ds) | none => none) = _
      rw [valsR_app e h2]; rfl
def callKQ (q n : Nat) (F : D → List D → MO) (xs : List R) (r : Rho) : EO := if xs.length = n + 1 then (match xs.drop q with
  | .loc i :: rest => (match valsR (xs.take q), valsR rest, r[i]? with
    | some ds1, some ds2, some (some d0) => (match F d0 (frzs (ds1 ++ ds2)) with
      | .ok d d0' => .ok (.val d) (r.set i (some d0'))
      | .bad => .bad)
    | _, _, _ => .bad)
  | .val d0 :: rest => (match valsR (xs.take q), valsR rest with
    | some ds1, some ds2 => (match F d0 (frzs (ds1 ++ ds2)) with
      | .ok d _ => .ok (.val d) r
      | .bad => .bad)
    | _, _ => .bad)
  | [] => .bad) else .bad
def cCallQ (q n : Nat) (F : D → List D → MO) (fs : Av) : Ev := fun r => (fs r).bd (callKQ q n F)
theorem callQ_go {q n : Nat} {F : D → List D → MO} {Q : VK} {xs : List R} {vs : List V} {E : XK} (hqn : q ≤ n) (S : StOk G C r (T ++ pushs xs vs) s H) (l : LocsOk s xs vs) (h : Goes G C W T s Q (callKQ q n F xs r)) : spQ G q n F vs H Q E := by
  unfold callKQ at h
  split at h
  · rename_i hlen
    obtain ⟨x0, rest, hd⟩ : ∃ x0 rest, xs.drop q = x0 :: rest := by
      cases e : xs.drop q with
      | nil => have := congrArg List.length e; rw [List.length_drop] at this; simp at this; omega
      | cons x y => exact ⟨x, y, rfl⟩
    have hx : xs = xs.take q ++ x0 :: rest := by rw [← hd, List.take_append_drop]
    rw [hd] at h
    have htl : (xs.take q).length = q := by rw [List.length_take]; omega
    generalize hxs : xs.take q = xs1 at h hx htl
    subst hx
    obtain ⟨us1, v0, us2, ev, l1, l2, a1, a2, l0, e1, e2, e3⟩ := locs_split l
    rw [e1] at S
    subst ev
    have hrest : rest.length + q = n := by rw [List.length_append, List.length_cons] at hlen; omega
    cases x0 with
    | loc i =>
      simp only at h
      cases y1 : valsR xs1 with
      | none => simp only [y1] at h; exact h.elim
      | some ds1 =>
        cases y2 : valsR rest with
        | none => simp only [y1, y2] at h; exact h.elim
        | some ds2 =>
          cases y3 : r[i]? with
          | none => simp only [y1, y2, y3] at h; exact h.elim
          | some o =>
            cases o with
            | none => simp only [y1, y2, y3] at h; exact h.elim
            | some d0 =>
              simp only [y1, y2, y3] at h
              obtain ⟨ow, S⟩ := S
              have y12 := valsR_app y1 y2
              obtain ⟨g1, g2, g3⟩ := valsR_frz (r := r) y12
              obtain ⟨ow2, S2, r1, r2, r3⟩ := StW.settles (T := T) (xs := xs1 ++ rest) (vs := us1 ++ us2) (show StW G C ow r (T ++ pushs (xs1 ++ rest) (us1 ++ us2)) s H by rw [e2]; exact S) a1 g1
              rw [g2] at S2
              obtain ⟨v', z1, S3⟩ := S2.pull y3
              have l0 : s[i]? = some (some v0) := l0
              rw [l0] at z1
              cases z1
              refine tempQ (ds := frzs (ds1 ++ ds2)) S3 (by omega) (by rw [frzs_length, g3, List.length_append]; omega) (frzs_frzs _) (Reps.moveF _ (frzs_frzs _) (fun a o z n => ⟨z, rel_none n⟩) (fun _ _ z _ => z) (r1 ⟨.fo, []⟩ 0)) ?_
              cases y4 : F d0 (frzs (ds1 ++ ds2)) with
              | bad => simp only [y4] at h; exact h.elim
              | ok d d0' =>
                simp only [y4] at h
                intro v H' S4 _
                refine h v H' ⟨?_, trivial⟩
                have S5 : StOk G C (r.set i (some .any)) (T ++ ([(d0', v0)] ++ [(d, v)])) s H' := by simpa using S4
                have S6 := S5.swap
                obtain ⟨ow6, S6⟩ := S6
                have S7 : StW G C ow6 (r.set i (some .any)) ((T ++ [(d, v)]) ++ [(d0', v0)]) s H' := by simpa using S6
                have S8 := S7.home l0
                rw [List.set_set] at S8
                exact ⟨_, S8⟩
    | val d0 =>
      simp only at h
      cases y1 : valsR xs1 with
      | none => simp only [y1] at h; exact h.elim
      | some ds1 =>
        cases y2 : valsR rest with
        | none => simp only [y1, y2] at h; exact h.elim
        | some ds2 =>
          simp only [y1, y2] at h
          have S1 : StOk G C r ((T ++ [(d0, v0)]) ++ pushs (rest ++ xs1) (us2 ++ us1)) s H := by
            rw [e3]
            have z := StOk.swap (T := T) (A := pushs xs1 us1) (B := [(d0, v0)] ++ pushs rest us2) S
            simpa using z
          obtain ⟨ow, S1⟩ := S1
          have y21 := valsR_app y2 y1
          obtain ⟨g1, g2, g3⟩ := valsR_frz (r := r) y21
          have k1 := (valsR_frz (r := r) y1).2.2
          have k2 := (valsR_frz (r := r) y2).2.2
          obtain ⟨ow2, S2, r1, r2, r3⟩ := StW.settles S1 a2 g1
          rw [g2] at S2
          refine tempQ (ds := frzs (ds1 ++ ds2)) S2 (by omega) (by rw [frzs_length, List.length_append]; omega) (frzs_frzs _) ?_ ?_
          · have r1 := r1 ⟨.fo, []⟩ 0
            refine Reps.of_get (by rw [frzs_length, List.length_append, List.length_append]; omega) fun j d v x1 x2 => ?_
            have fd : frz d = d := by
              rw [frzs_map, List.getElem?_map] at x1
              cases z : (ds1 ++ ds2)[j]? with
              | none => rw [z] at x1; cases x1
              | some d1 => rw [z] at x1; cases x1; exact frz_frz d1
            have main : ∀ j', (frzs (ds2 ++ ds1))[j']? = some d → (us2 ++ us1)[j']? = some v → Rep G ow2 H d (Loc.sub ⟨.fo, []⟩ (0 + j)) v := fun j' w1 w2 => by
              obtain ⟨v', w3, w4⟩ := r1.get j' d w1
              rw [w2] at w3
              cases w3
              exact Rep.moveF d fd (fun a o z n => ⟨z, n⟩) (fun _ _ z _ => z) w4
            rw [frzs_map, List.map_append] at x1
            by_cases hj : j < ds1.length
            · rw [List.getElem?_append_left (by simpa using hj)] at x1
              rw [List.getElem?_append_left (by omega)] at x2
              refine main (ds2.length + j) ?_ ?_
              · rw [frzs_map, List.map_append, List.getElem?_append_right (by simp), List.length_map, Nat.add_sub_cancel_left]
                exact x1
              · rw [List.getElem?_append_right (by omega), show ds2.length + j - us2.length = j by omega]
                exact x2
            · rw [List.getElem?_append_right (by simpa using hj), List.length_map] at x1
              rw [List.getElem?_append_right (by omega)] at x2
              refine main (j - ds1.length) ?_ ?_
              · rw [frzs_map, List.map_append, List.getElem?_append_left (by
                  have := (List.getElem?_eq_some_iff.mp x1).1
                  exact this)]
                exact x1
              · rw [List.getElem?_append_left (by
                  have := (List.getElem?_eq_some_iff.mp x1).1
                  simp at this; omega), show j - ds1.length = j - us1.length by omega]
                exact x2
          · cases y4 : F d0 (frzs (ds1 ++ ds2)) with
            | bad => simp only [y4] at h; exact h.elim
            | ok d d0' =>
              simp only [y4] at h
              intro v H' S4 _
              exact h v H' (Post.slide (T2 := [(d0', v0)]) (x := .val d) ⟨S4, trivial⟩)
  · exact h.elim
theorem ve_callQ {q n k : Nat} {F : D → List D → MO} {f : Addr} {fd : FuncData} {ps : List Str} {x : Str} {p pos : Pos} {e : Expr} {es : List Expr} (tk : Takes X W) (Fk : FnOk X.prog X.w X.K X.mg X.base (L2.CX X.prog X.w) k f fd ps (spQ G q n F)) (hqn : q ≤ n) (hr : Room k X.A) (hg : Gl X x) (hm : X.mg x = some (.ref f))
    (hk : PySem.W.keepIn X.K (.ref f) = true) (hb : Binds X.K fd ps []) (ha : VA X G C W (e :: es) fs) (hdb : (x == ("__debug__" : Str)) = false := by decide) (he : starEach (e :: es) X.env = (false, eval e X.env) :: starEach es X.env := by rfl) (hpl : (backTo pos (starEach es X.env)).any (·.1) = false := by rfl) :
    VE X G C W (.Call (.Name x p) (e :: es) [] pos) (cCallQ q n F fs) := by
  refine PE.imp (pe_callS Fk hr hg hm hk hb (fun σ => passAt tk σ) ha hdb he hpl) fun s H Q h => ?_
  obtain ⟨r, T, S, g⟩ := h
  exact many (T2 := []) (by simpa using S) g fun xs vs r1 H1 S1 l1 g1 => callQ_go hqn (by simpa using S1) l1 g1
end
end VL

namespace VL
open PySem PySem.Spec PyProof.Rows L2
section
variable {X : Cx} {G : GX} {C : Fc} {W : WX} {ow ow' : Ow} {r : Rho} {T T1 T2 : List (D × V)} {s : L2.St} {H H' : Hp} {fa fb fc fk : Ev} {fs : Av} {f g : Sv}
def unl0 (ow ow3 : Ow) (i : Nat) : Ow := fun b => match ow3 b with
  | none => none
  | some ⟨.fo, _⟩ => (match ow b with
    | some ⟨.fo, p⟩ => some ⟨.fo, p⟩
    | some ⟨.sl i', p⟩ => if i' = i then some ⟨.sl i, p⟩ else none
    | _ => none)
  | some ⟨.sl j', p⟩ => if j' = i then none else some ⟨.sl j', p⟩
  | some ⟨.tm n, p⟩ => some ⟨.tm n, p⟩
theorem unl0_none {ow3 : Ow} {i : Nat} {b : Addr} (h : ow3 b = none) : unl0 ow ow3 i b = none := by unfold unl0; rw [h]
theorem unl0_tm {ow3 : Ow} {i n : Nat} {p : List Nat} {b : Addr} (h : ow3 b = some ⟨.tm n, p⟩) : unl0 ow ow3 i b = some ⟨.tm n, p⟩ := by unfold unl0; rw [h]
theorem unl0_sl {ow3 : Ow} {i n : Nat} {p : List Nat} {b : Addr} (h : ow3 b = some ⟨.sl n, p⟩) (h1 : n ≠ i) : unl0 ow ow3 i b = some ⟨.sl n, p⟩ := by
  unfold unl0; rw [h]
  show (if n = i then none else some (Loc.mk (.sl n) p)) = _
  rw [if_neg h1]
theorem unl0_i {ow3 : Ow} {i : Nat} {p q : List Nat} {b : Addr} (h : ow3 b = some ⟨.fo, q⟩) (h1 : ow b = some ⟨.sl i, p⟩) : unl0 ow ow3 i b = some ⟨.sl i, p⟩ := by
  unfold unl0; rw [h, h1]
  show (if i = i then some (Loc.mk (.sl i) p) else none) = _
  rw [if_pos rfl]
theorem unl0_of {ow3 : Ow} {i : Nat} {b : Addr} {l : Loc} (h : unl0 ow ow3 i b = some l) : (∃ l3, ow3 b = some l3) ∧ ((∃ l0, ow b = some l0 ∧ (l.b = .fo ∨ l0.b ≠ .fo)) ∨ ∃ l3, ow3 b = some l3 ∧ l3.b ≠ .fo) := by
  unfold unl0 at h
  cases e : ow3 b with
  | none => rw [e] at h; cases h
  | some l3 =>
    refine ⟨⟨l3, rfl⟩, ?_⟩
    rw [e] at h
    obtain ⟨b3, p3⟩ := l3
    cases b3 with
    | fo =>
      cases e2 : ow b with
      | none => rw [e2] at h; cases h
      | some l0 =>
        rw [e2] at h
        obtain ⟨b0, p0⟩ := l0
        refine .inl ⟨_, rfl, ?_⟩
        cases b0 with
        | fo => cases h; exact .inl rfl
        | sl n => exact .inr fun z => nomatch z
        | tm n => exact .inr fun z => nomatch z
    | sl n => exact .inr ⟨_, rfl, fun z => nomatch z⟩
    | tm n => exact .inr ⟨_, rfl, fun z => nomatch z⟩
theorem StW.unlend0 {i : Nat} {k : Kd} {o : Bool} {ds : List D} {a : Addr} {vs : List V} {ow3 : Ow} {r3 : Rho} {T3 : List (D × V)} {s3 : L2.St} {H3 : Hp} (S : StW G C ow r T s H) (q : r[i]? = some (some (.node k o ds))) (hk : isR k ≠ true) (ha : s[i]? = some (some (.ref a)))
    (hH : Holds G H a k vs) (hu : ∀ us, Holds G H a k us → us = vs) (S3 : StW G (C.bod H ow i i (.ref a) (.ref a)) ow3 r3 T3 s3 H3) :
    StW G C (unl0 ow ow3 i) (r3.set i (some (.node k o ds))) T3 s3 H3 ∧ Holds G H3 a k vs ∧ s3[i]? = some (some (.ref a)) := by
  obtain ⟨w, z1, a', vs', ev, z2, z3, z4⟩ := S.sl i _ q
  rw [ha] at z1
  cases z1
  cases ev
  have ee := hu _ z2
  subst ee
  have oa : ow a = if o = true then some ⟨.sl i, []⟩ else none := z3.cases.resolve_left hk
  have keep : ∀ b o, H b = some o → ¬ (C.bod H ow i i (.ref a) (.ref a)).io b → Kt (H3 b) o := fun b o e n => S3.old b o n e
  have nset : ∀ b p, ow b = some ⟨.sl i, p⟩ → ¬ (C.bod H ow i i (.ref a) (.ref a)).io b := fun b p e n => by
    obtain ⟨l, e2, _, n2⟩ := n
    rw [e] at e2
    cases e2
    exact n2 rfl
  have nnone : ∀ b, ow b = none → ¬ (C.bod H ow i i (.ref a) (.ref a)).io b := fun b e n => by
    obtain ⟨l, e2, _, _⟩ := n
    rw [e] at e2; cases e2
  have fo3 : ∀ b p, ow b = some ⟨.sl i, p⟩ → ow3 b = some ⟨.fo, []⟩ := fun b p e => S3.fo b (.inr ⟨p, e⟩)
  have nown : ∀ b o, H b = some o → ow b = none → unl0 ow ow3 i b = none := fun b o e n => by
    cases e3 : ow3 b with
    | none => exact unl0_none e3
    | some l3 =>
      obtain ⟨b3, p3⟩ := l3
      rcases S3.own b _ e3 with z | z | z
      · have z : b3 = .fo := z
        subst z
        unfold unl0
        rw [e3, n]
      · have z : H b = none := z
        rw [z] at e; cases e
      · exact absurd z (nnone b n)
  have p3i : s3[i]? = some (some (.ref a)) := S3.pin (i, .ref a) (List.mem_cons_of_mem _ List.mem_cons_self)
  have na : ¬ (C.bod H ow i i (.ref a) (.ref a)).io a := by
    cases o with
    | true => exact nset a [] (by simpa using oa)
    | false => exact nnone a (by simpa using oa)
  have hH3 : Holds G H3 a k vs' := by
    obtain ⟨ob, hob, _⟩ := hH.there hk
    exact hH.keep fun o z => keep a o z na
  refine ⟨⟨by simpa using S3.len, fun i' d y => ?_, fun n d w y => ?_, fun b o n y => ?_, fun b l y => ?_, fun b y => ?_, fun b l y => ?_, fun p hp => S3.pin p (List.mem_cons_of_mem _ (List.mem_cons_of_mem _ hp)), S3.tabs⟩, hH3, p3i⟩
  · by_cases hi : i' = i
    · subst hi
      have hlt : i' < r3.length := by
        have := (List.getElem?_eq_some_iff.mp y).1
        simpa using this
      rw [List.getElem?_set_self hlt] at y
      cases y
      refine ⟨_, p3i, a, vs', rfl, hH3, .mk ?_, Reps.of_get z4.length fun n d v' y1 y2 => ?_⟩
      · obtain ⟨ob, hob, _⟩ := hH.there hk
        cases o with
        | true =>
          have oa' : ow a = some ⟨.sl i', []⟩ := by simpa using oa
          rw [unl0_i (fo3 a _ oa') oa']; rfl
        | false =>
          have oa' : ow a = none := by simpa using oa
          rw [nown a ob hob oa']; rfl
      · obtain ⟨v2, e1, e2⟩ := z4.get n d y1
        rw [y2] at e1
        cases e1
        refine e2.mono d (fun b o z u => keep b o z ?_) (fun b o z u => keep b o z ?_) (fun b o z n => nown b o z n) fun b o p _ z => ?_
        · rcases u with u | ⟨p, u⟩
          · exact nnone b u
          · exact nset b _ u
        · rintro ⟨l, x1, _, _⟩
          have := S.mu b l x1
          rw [z] at this
          exact u this
        · exact unl0_i (fo3 b _ z) z
    · rw [List.getElem?_set_ne (Ne.symm hi)] at y
      obtain ⟨w, y1, y2⟩ := S3.sl i' d y
      refine ⟨w, y1, y2.mono d (fun _ _ z _ => z) (fun _ _ z _ => z) (fun _ _ _ z => unl0_none z) fun b o p _ z => ?_⟩
      exact unl0_sl z hi
  · exact Rep.mono (l := ⟨.tm n, []⟩) d (fun _ _ z _ => z) (fun _ _ z _ => z) (fun _ _ _ z => unl0_none z) (fun b o p _ z => unl0_tm (p := [] ++ p) z) (S3.tm n d w y)
  · refine (S.old b o n y).bind fun u0 y0 => keep b u0 y0 ?_
    rintro ⟨l, x1, x2, _⟩
    rcases S.own b l x1 with z | z | z
    · exact x2 z
    · rw [z] at y; cases y
    · exact n z
  · have back : ∀ l0, ow b = some l0 → l0.b ≠ .fo → C.H0 b = none ∨ C.io b := fun l0 e n => (S.own b l0 e).resolve_left n
    rcases (unl0_of y).2 with ⟨l0, e, h | h⟩ | ⟨l3, e, h⟩
    · exact .inl h
    · exact .inr (back l0 e h)
    · refine .inr ?_
      rcases S3.own b l3 e with z | z | z
      · exact absurd z h
      · have z : H b = none := z
        cases e0 : C.H0 b with
        | none => exact .inl rfl
        | some o =>
          by_cases hi : C.io b
          · exact .inr hi
          · exact ((S.old b o hi e0).on z).elim
      · obtain ⟨l0, x1, x2, _⟩ := z
        exact back l0 x1 x2
  · have e3 := S3.fo b (.inl y)
    unfold unl0
    rw [e3, S.fo b y]
  · obtain ⟨⟨l3, e3⟩, _⟩ := unl0_of y
    exact S3.mu b l3 e3
def seqK : Kd → Bool
  | .lst => true
  | .tup => true
  | _ => false
theorem seqK_of {k : Kd} (h : seqK k = true) : k = .lst ∨ k = .tup := by
  cases k <;> first | exact .inl rfl | exact .inr rfl | cases h
theorem seqK_one {k : Kd} {a : Addr} {us vs : List V} (h : seqK k = true) (h1 : Holds G H a k us) (h2 : Holds G H a k vs) : us = vs := by
  rcases seqK_of h with e | e
  · subst e
    have h1 : H a = some (.lst us) := h1
    have h2 : H a = some (.lst vs) := h2
    rw [h1] at h2; cases h2; rfl
  · subst e
    have h1 : H a = some (.tup us) := h1
    have h2 : H a = some (.tup vs) := h2
    rw [h1] at h2; cases h2; rfl
theorem seqK_ix {K : PySem.W.Frag} {k : Kd} {a : Addr} {vs : List V} {i : Int} {w : V} {Q : VK} (h : seqK k = true) (h1 : Holds G H a k vs) (h2 : atI vs i = some w) (hq : Q w H) : L2.rIx K (.ref a) (.int i) H Q := by
  rcases seqK_of h with e | e
  · subst e
    exact .inl ⟨a, vs, i, w, rfl, rfl, SqL.of h1, h2, hq⟩
  · subst e
    exact .inr (.inl ⟨a, vs, i, w, rfl, rfl, SqT.of h1, h2, hq⟩)
def isSeq (r : Rho) (i : Nat) : Bool := match r[i]? with
  | some (some (.node k _ _)) => seqK k
  | _ => false
theorem isSeq_at {i : Nat} (h : isSeq r i = true) : ∃ k o ds, r[i]? = some (some (.node k o ds)) ∧ seqK k = true := by
  unfold isSeq at h
  split at h
  · rename_i k o ds e; exact ⟨k, o, ds, e, h⟩
  · cases h
def spot (r : Rho) (i : Nat) (y : R) : Option (Kd × Bool × List D × Nat × D) := match y, r[i]? with
  | .val (.int kk), some (some (.node k o ds)) => if seqK k = true then (match ixN ds.length kk with
    | some m => (match ds[m]? with
      | some d => some (k, o, ds, m, d)
      | none => none)
    | none => none) else none
  | _, _ => none
theorem spot_of {i : Nat} {y : R} {k : Kd} {o : Bool} {ds : List D} {m : Nat} {d : D} (h : spot r i y = some (k, o, ds, m, d)) : ∃ kk, y = .val (.int kk) ∧ r[i]? = some (some (.node k o ds)) ∧ seqK k = true ∧ ixN ds.length kk = some m ∧ ds[m]? = some d := by
  unfold spot at h
  split at h
  · rename_i kk k' o' ds' e
    split at h
    · rename_i hk
      split at h
      · rename_i m' em
        split at h
        · rename_i d' ed
          cases h
          exact ⟨kk, rfl, e, hk, em, ed⟩
        · cases h
      · cases h
    · cases h
  · cases h
theorem spot_go {i : Nat} {y : R} {u : V} {k : Kd} {o : Bool} {ds : List D} {m : Nat} {d : D} (P : Post G C r T s H y u) (h : spot r i y = some (k, o, ds, m, d)) : ∃ kk a vs w ow2, u = .int kk ∧ s[i]? = some (some (.ref a)) ∧ Holds G H a k vs ∧ atI vs kk = some w ∧ vs[m]? = some w ∧
    StW G C ow2 (r.set i (some (.node k o (ds.set m .any)))) (T ++ [(d, w)]) s H ∧ StW G (C.bod H ow2 i i (.ref a) (.ref a)) (VL.rel (lendF i) ow2) (r.set i (some .any)) (T ++ [(d, w)]) s H := by
  obtain ⟨kk, ey, q, hk, em, ed⟩ := spot_of h
  subst ey
  obtain ⟨⟨ow, S⟩, _⟩ := P
  have eu : u = .int kk := StW.last S
  obtain ⟨a, vs, w, w1, hA, oA, hl, hv, rx, S2⟩ := (StW.drop S).lift q ed
  have hat : atI vs kk = some w := by
    unfold atI
    rw [hl, em]
    exact hv
  have S3 := S2.lend w1 w1
  rw [List.set_set] at S3
  exact ⟨kk, a, vs, w, _, eu, w1, hA, hat, hv, S2, S3⟩
end
theorem callQ_loc {q n i : Nat} {F : D → List D → MO} {fs : Av} {r r1 : Rho} {xs rest : List R} {ds1 ds2 : List D} {d d0 d0' : D} (h : fs r = .ok xs r1) (hn : xs.length = n + 1) (hd : xs.drop q = .loc i :: rest) (h1 : valsR (xs.take q) = some ds1) (h2 : valsR rest = some ds2) (h3 : r1[i]? = some (some d0)) (hF : F d0 (frzs (ds1 ++ ds2)) = .ok d d0') : cCallQ q n F fs r = .ok (.val d) (r1.set i (some d0')) := by
  unfold cCallQ
  rw [h]
  show callKQ q n F xs r1 = _
  unfold callKQ
  simp only [if_pos hn, hd, h1, h2, h3, hF]
section
variable {P : Program} {w : World} {K : PySem.W.Frag} {mg : Str → Option Value} {base : Heap} {G : GX}
theorem fnQ2 {x qual : Str} {st : Stmt} {f : Addr} {fd : FuncData} {N ps : List Str} {k q n : Nat} {fb : Sv} (F : Fun K x qual st f fd) (S : FnScope N ps (defScope st)) (hps : ps.length = n + 1)
    (hbody : ∀ (cdv : Value) (A : Around) (outer : List Env) (s : Shared) (H : Hp) (E : XK) (C : Fc), Room k (A.deeper (envOfC qual (defScope st) s.heap.objs.size f cdv)) → (∀ p ∈ C.pin, p.1 = q) → VSs (cxOf (L2.CX P w) P w K mg base N qual (defScope st) f cdv A outer s H E) G C (fun cls d _ H => E cls d H) (defBody st) fb) :
    FnOk P w K mg base (L2.CX P w) (k + 1) f fd ps (spQ G q n (runQ q N.length fb)) := by
  refine F.okX S (fun vs H Q E h => (spQ_len h).trans hps.symm) (fun cdv A outer s H vs Q E hr h => ?_)
  obtain ⟨d0, ds, v0, us1, us2, ow0, ev, hq, h1, h2, h3, h4, h5, ht, h6⟩ := h
  subst ev
  refine ⟨_, hbody cdv A outer s H E (fcQ H ow0 q v0) hr (fun p hp => by
    have e : p = (q, v0) := by simpa [fcQ] using hp
    rw [e]), ?_⟩
  refine ⟨startR N.length (putQ q d0 ds), [], ⟨_, startQ_ok (N := N) ht hq h5 h2 h3 h4⟩, ?_⟩
  have fin : ∀ {d d0' : D} {v : V} {r : Rho} {T : List (D × V)} {s' : L2.St} {H' : Hp} {ow : Ow} {b : Bs}, StW G (fcQ H ow0 q v0) ow r T s' H' → r[q]? = some (some d0') → b ≠ .fo → b ≠ .sl q → Rep G ow H' d ⟨b, []⟩ v →
      (∀ v H' (ow1 : Ow) (b : Bs), (∀ a o, (∀ p, ow0 a ≠ some ⟨.sl q, p⟩) → H a = some o → Kt (H' a) o) → b ≠ .fo → b ≠ .sl q → Rep G ow1 H' d ⟨b, []⟩ v → Rep G ow1 H' d0' ⟨.sl q, []⟩ v0 →
      (∀ a l, ow1 a = some l → l.b ≠ .fo → H a = none ∨ ∃ p, ow0 a = some ⟨.sl q, p⟩) → (∀ a, ow0 a = some ⟨.fo, []⟩ → ow1 a = some ⟨.fo, []⟩) → (∀ a l, ow1 a = some l → OwnO (H' a)) → LamX.Tabs G.T H' → Q v H') → Q v H' :=
    fun {d d0' v r T s' H' ow b} S' h0 b1 b2 hr hq => by
      obtain ⟨v0', z1, z2⟩ := S'.sl q d0' h0
      have p0 := S'.pin (q, v0) (by simp [fcQ])
      have p0 : s'[q]? = some (some v0) := p0
      rw [p0] at z1
      cases z1
      exact hq v H' ow b (fun a o n y => S'.old a o (fun ⟨p, z⟩ => n p z) y) b1 b2 hr z2 (fun a l y n => (S'.own a l y).elim (fun z => absurd z n) id) (fun a y => S'.fo a y) S'.mu S'.tabs
  unfold runQ at h6
  cases e : fb (startR N.length (putQ q d0 ds)) with
  | nx r =>
    rw [e] at h6
    intro s' H' S'
    cases e2 : r[q]? with
    | none => simp only [e2] at h6
    | some o =>
      cases o with
      | none => simp only [e2] at h6
      | some d0' =>
        simp only [e2] at h6
        obtain ⟨ow, S'⟩ := S'
        exact fin (d := .non) (b := .tm 0) S' e2 (fun z => nomatch z) (fun z => nomatch z) rfl h6
  | rt x r =>
    rw [e] at h6
    intro s' v H' P'
    obtain ⟨⟨ow, S'⟩, l⟩ := P'
    cases x with
    | val d =>
      cases e2 : r[q]? with
      | none => simp only [e2] at h6
      | some o =>
        cases o with
        | none => simp only [e2] at h6
        | some d0' =>
          simp only [e2] at h6
          have z := opd_rep (x := .val d) (T := []) (T2 := []) (by simpa using S') l rfl
          exact fin (b := .tm 0) S' e2 (fun z => nomatch z) (fun z => nomatch z) z h6
    | loc i =>
      by_cases hi : i = q
      · simp only [hi, if_true] at h6
      · simp only [hi, if_false] at h6
        cases e3 : opd r (.loc i) with
        | none => simp only [e3] at h6
        | some d =>
          cases e2 : r[q]? with
          | none => simp only [e3, e2] at h6
          | some o =>
            cases o with
            | none => simp only [e3, e2] at h6
            | some d0' =>
              simp only [e3, e2] at h6
              have z := opd_rep (x := .loc i) (T := []) (T2 := []) (by simpa using S') l e3
              exact fin (b := .sl i) S' e2 (fun z => nomatch z) (fun z => hi (by injection z)) z h6
  | exc c r => rw [e] at h6; exact h6.elim
  | bk r => rw [e] at h6; exact h6.elim
  | ct r => rw [e] at h6; exact h6.elim
  | bad => rw [e] at h6; exact h6.elim
end
theorem pinQ {C : Fc} {q : Nat} (h : ∀ p ∈ C.pin, p.1 = q) (i : Nat) (hi : i ≠ q) : ∀ p ∈ C.pin, p.1 ≠ i := fun p hp z => hi ((h p hp).symm.trans z).symm
theorem pinQo {C : Fc} {q : Nat} (h : ∀ p ∈ C.pin, p.1 = q) (l : List Nat) (hl : q ∉ l) : ∀ p ∈ C.pin, p.1 ∉ l := fun p hp z => hl (by rw [h p hp] at z; exact z)
end VL

namespace VL
open PySem PySem.Spec PyProof.Rows L2
def Fc.reads (C : Fc) (H : Hp) : Fc := ⟨H, fun _ => False, C.fo, C.pin⟩
theorem pinP {C C' : Fc} {i : Nat} (h : ∀ p ∈ C.pin, p.1 ≠ i) (e : C'.pin = C.pin) : ∀ p ∈ C'.pin, p.1 ≠ i := by rw [e]; exact h
theorem pinPo {C C' : Fc} {l : List Nat} (h : ∀ p ∈ C.pin, p.1 ∉ l) (e : C'.pin = C.pin) : ∀ p ∈ C'.pin, p.1 ∉ l := by rw [e]; exact h
def frzR (r : Rho) : Rho := r.map fun o => o.map frz
def frzT (T : List (D × V)) : List (D × V) := T.map fun p => (frz p.1, p.2)
def onlyFo (ow : Ow) : Ow := fun a => match ow a with
  | some l => if l.b = .fo then some l else none
  | none => none
section
variable {X : Cx} {G : GX} {C : Fc} {W : WX} {ow ow' : Ow} {r : Rho} {T T1 T2 : List (D × V)} {s : L2.St} {H H' : Hp} {fa fb fc : Ev} {fs : Av} {f g : Sv}
theorem onlyFo_none {a : Addr} (h : ow a = none) : onlyFo ow a = none := by unfold onlyFo; rw [h]
theorem onlyFo_not {a : Addr} {l : Loc} (h : ow a = some l) (n : l.b ≠ .fo) : onlyFo ow a = none := by unfold onlyFo; rw [h]; exact if_neg n
theorem onlyFo_fo {a : Addr} {l : Loc} (h : ow a = some l) (n : l.b = .fo) : onlyFo ow a = some l := by unfold onlyFo; rw [h]; exact if_pos n
theorem onlyFo_of {a : Addr} {l : Loc} (h : onlyFo ow a = some l) : ow a = some l ∧ l.b = .fo := by
  unfold onlyFo at h
  cases e : ow a with
  | none => rw [e] at h; cases h
  | some m =>
    rw [e] at h
    by_cases n : m.b = .fo
    · have h : (if m.b = .fo then some m else none) = some l := h
      rw [if_pos n] at h; cases h; exact ⟨rfl, n⟩
    · have h : (if m.b = .fo then some m else none) = some l := h
      rw [if_neg n] at h; cases h
theorem StW.reads (S : StW G C ow r T s H) : StW G (C.reads H) (onlyFo ow) (frzR r) (frzT T) s H where
  len := by simpa [frzR] using S.len
  sl := fun i d q => by
    unfold frzR at q
    rw [List.getElem?_map] at q
    cases e : r[i]? with
    | none => rw [e] at q; cases q
    | some o =>
      rw [e] at q
      cases o with
      | none => cases q
      | some d0 =>
        cases q
        obtain ⟨v, y1, y2⟩ := S.sl i d0 e
        refine ⟨v, y1, Rep.frz (l := ⟨.sl i, []⟩) d0 (fun a o z q => ⟨z, ?_⟩) (fun _ _ z _ => z) y2⟩
        rcases q with q | ⟨p, q⟩
        · exact onlyFo_none q
        · exact onlyFo_not q (fun z => nomatch z)
  tm := fun j d v q => by
    unfold frzT at q
    rw [List.getElem?_map] at q
    cases e : T[j]? with
    | none => rw [e] at q; cases q
    | some p =>
      rw [e] at q
      obtain ⟨d0, v0⟩ := p
      cases q
      refine Rep.frz (l := ⟨.tm j, []⟩) d0 (fun a o z q => ⟨z, ?_⟩) (fun _ _ z _ => z) (S.tm j d0 _ e)
      rcases q with q | ⟨p, q⟩
      · exact onlyFo_none q
      · exact onlyFo_not q (fun z => nomatch z)
  old := fun a o _ z => .inl z
  own := fun a l q => .inl (onlyFo_of q).2
  fo := fun a q => onlyFo_fo (S.fo a q) rfl
  mu := fun a l q => S.mu a l (onlyFo_of q).1
  pin := S.pin
  tabs := S.tabs
def cPure (fa : Ev) : Ev := fun r => match fa (frzR r) with
  | .ok (.val d) _ => if noL d = true then .ok (.val d) r else .bad
  | .exc c _ => .exc c r
  | _ => .bad
theorem pure_go {Q : VK} (h : tV G C W (cPure fa) s H Q) : ∃ C' : Fc, C'.pin = C.pin ∧ tV G C' W fa s H Q := by
  obtain ⟨r, T, ⟨ow, S⟩, g⟩ := h
  refine ⟨C.reads H, rfl, frzR r, frzT T, ⟨_, S.reads⟩, ?_⟩
  have g : Goes G C W T s Q (cPure fa r) := g
  unfold cPure at g
  cases e : fa (frzR r) with
  | bad => simp only [e] at g; exact g.elim
  | exc c r1 =>
    simp only [e] at g
    intro H1 S1
    obtain ⟨ow1, S1⟩ := S1
    have hx : Ext H H1 := fun a o z => S1.old a o (fun z => z) z
    exact g H1 ⟨ow, S.ext hx S1.tabs⟩
  | ok x r1 =>
    simp only [e] at g
    cases x with
    | loc i => exact g.elim
    | val d =>
      simp only at g
      split at g
      · rename_i hno
        intro v H1 P1
        obtain ⟨⟨ow1, S1⟩, _⟩ := P1
        have hx : Ext H H1 := fun a o z => S1.old a o (fun z => z) z
        have lt : (frzT T).length = T.length := by simp [frzT]
        have hd : Rep G ow1 H1 d ⟨.tm (frzT T).length, []⟩ v := S1.last
        rw [lt] at hd
        have hr : Rep G (VL.aft H ow ow1 T.length) H1 d ⟨.tm T.length, []⟩ v := Rep.aft (l := ⟨.tm T.length, []⟩) d (fun a k vs _ z y q nz => by
          rcases y with y | y
          · cases k with
            | tup =>
              cases y2 : ow a with
              | none => rfl
              | some m =>
                have mu := S.mu a m y2
                cases z2 : H a with
                | none => exact absurd z2 nz
                | some u =>
                  rw [z2] at mu
                  have z3 := (hx a u z2).get mu.nt
                  rw [show H1 a = some (.tup vs) from z] at z3
                  cases z3
                  exact mu.elim
            | _ => cases y
          · rw [hno] at y; cases y) (fun a m q n => by
            rcases S1.own a m q with z | z | z
            · exact absurd z n
            · exact z
            · exact z.elim) (fun z => nomatch z) rfl rfl hd
        exact g v H1 ⟨⟨_, S.aft hx S1.tabs S1.mu hr⟩, trivial⟩
      · exact g.elim
theorem ve_pure {e : Expr} (h : ∀ C' : Fc, C'.pin = C.pin → VE X G C' W e fa) : VE X G C W e (cPure fa) := ⟨fun pins s σ H Q I w => by
  obtain ⟨C', e', w⟩ := pure_go w
  exact (h C' e').run pins s σ H Q I w⟩
theorem pure_goT {Q : Bool → Hp → Prop} (h : tVT G C W (cPure fa) s H Q) : ∃ C' : Fc, C'.pin = C.pin ∧ tVT G C' W fa s H Q := by
  obtain ⟨r, T, ⟨ow, S⟩, g⟩ := h
  refine ⟨C.reads H, rfl, frzR r, frzT T, ⟨_, S.reads⟩, ?_⟩
  unfold cPure at g
  cases e : fa (frzR r) with
  | bad => simp only [e] at g
  | exc c r1 =>
    simp only [e] at g
    intro H1 S1
    obtain ⟨ow1, S1⟩ := S1
    exact g H1 ⟨ow, S.ext (fun a o z => S1.old a o (fun z => z) z) S1.tabs⟩
  | ok x r1 =>
    simp only [e] at g
    cases x with
    | loc i => exact g.elim
    | val d =>
      simp only at g
      by_cases hno : noL d = true
      · rw [if_pos hno] at g
        cases d with
        | bl b =>
          intro H1 S1
          obtain ⟨ow1, S1⟩ := S1
          exact g H1 ⟨ow, S.ext (fun a o z => S1.old a o (fun z => z) z) S1.tabs⟩
        | _ => exact g.elim
      · rw [if_neg hno] at g
        exact g.elim
theorem vt_pure {e : Expr} (h : ∀ C' : Fc, C'.pin = C.pin → VT X G C' W e fa) : VT X G C W e (cPure fa) := ⟨fun pins s σ H Q I w => by
  obtain ⟨C', e', w⟩ := pure_goT w
  exact (h C' e').run pins s σ H Q I w⟩
end
theorem pure_ok {fa : Ev} {r r1 : Rho} {d : D} (h : fa (frzR r) = .ok (.val d) r1) (hn : noL d = true) : cPure fa r = .ok (.val d) r := by
  unfold cPure
  rw [h]
  exact if_pos hn
section
variable {X : Cx} {G : GX} {C : Fc} {W : WX}
end
end VL

namespace VL
open PySem PySem.Spec PyProof.Rows L2
section
variable {X : Cx} {G : GX} {C : Fc} {W : WX} {fa : Ev}
end
section
variable {X : Cx} {G : GX} {C : Fc} {W : WX} {fk : Ev}
end
end VL

namespace VL
open PySem PySem.Spec PyProof.Rows L2
section
variable {X : Cx} {G : GX} {C : Fc} {W : WX} {ow ow' : Ow} {r : Rho} {T T1 T2 : List (D × V)} {s : L2.St} {H H' : Hp} {fa fb fc fk fj : Ev} {fs : Av} {f g : Sv}
def scal : D → Bool
  | .int _ => true
  | .bl _ => true
  | .non => true
  | .str _ => true
  | _ => false
end
mutual
theorem Rep.own3 {G : GX} {H' : Hp} : ∀ (d : D) {l l' : Loc} {v : V} {ow1 ow3 : Ow}, (∀ a k vs, isR k ≠ true → Holds G H' a k vs → (isTup k = true ∨ VL.noL d = false) → ow1 a = none → ow3 a = none) → (∀ a p, ow1 a = some (l.app p) → ow3 a = some (l'.app p)) → Rep G ow1 H' d l v → Rep G ow3 H' d l' v
  | .any, _, _, _, _, _, _, _, _ => trivial
  | .non, _, _, _, _, _, _, _, h => h
  | .bl _, _, _, _, _, _, _, _, h => h
  | .int _, _, _, _, _, _, _, _, h => h
  | .str _, _, _, _, _, _, _, _, h => h
  | .exc _, _, _, _, _, _, _, _, h => h
  | .ty _, _, _, _, _, _, _, _, h => h
  | .cls _, _, _, _, _, _, _, _, h => h
  | .node k o xs, l, l', v, ow1, ow3, hz, hn, h => by
    obtain ⟨a, vs, ev, h1, h2, h3⟩ := h
    have un : VL.noLs xs = false → VL.noL (.node k o xs) = false := fun z => by
      show ((o || isTup k) && VL.noLs xs) = false
      rw [z, Bool.and_false]
    refine ⟨a, vs, ev, h1, ?_, Reps.own3 xs (fun a k' vs' nr z y => hz a k' vs' nr z (y.imp id un)) hn h3⟩
    by_cases hrd : isR k = true
    · exact .ofR hrd
    have h2 := h2.cases.resolve_left hrd
    refine .mk ?_
    cases o with
    | true =>
      have q : ow1 a = some l := by simpa using h2
      have e0 : l.app [] = l := by unfold Loc.app; rw [List.append_nil]
      have e1 : l'.app [] = l' := by unfold Loc.app; rw [List.append_nil]
      have z := hn a [] (by rw [e0]; exact q)
      rw [e1] at z
      rw [z]; simp
    | false =>
      have q : ow1 a = none := by simpa using h2
      have hk : isTup k = true ∨ VL.noL (.node k false xs) = false := by
        cases e : isTup k with
        | true => exact .inl rfl
        | false =>
          refine .inr ?_
          show ((false || isTup k) && VL.noLs xs) = false
          rw [e]; rfl
      rw [hz a k vs hrd h1 hk q]; simp
theorem Reps.own3 {G : GX} {H' : Hp} : ∀ (ds : List D) {l l' : Loc} {i : Nat} {vs : List V} {ow1 ow3 : Ow}, (∀ a k vs, isR k ≠ true → Holds G H' a k vs → (isTup k = true ∨ VL.noLs ds = false) → ow1 a = none → ow3 a = none) → (∀ a p, ow1 a = some (l.app p) → ow3 a = some (l'.app p)) → Reps G ow1 H' ds l i vs → Reps G ow3 H' ds l' i vs
  | [], _, _, _, _, _, _, _, _, h => h
  | d :: ds, l, l', i, vs, ow1, ow3, hz, hn, h => by
    obtain ⟨v, ws, ev, h1, h2⟩ := h
    have u1 : VL.noL d = false → VL.noLs (d :: ds) = false := fun z => by show (VL.noL d && VL.noLs ds) = false; rw [z]; rfl
    have u2 : VL.noLs ds = false → VL.noLs (d :: ds) = false := fun z => by show (VL.noL d && VL.noLs ds) = false; rw [z, Bool.and_false]
    refine ⟨v, ws, ev, Rep.own3 (l := l.sub i) (l' := l'.sub i) d (fun a k vs nr z y => hz a k vs nr z (y.imp id u1)) (fun a p q => ?_) h1, Reps.own3 ds (fun a k vs nr z y => hz a k vs nr z (y.imp id u2)) hn h2⟩
    have e : ∀ m : Loc, (m.sub i).app p = m.app (i :: p) := fun m => by unfold Loc.sub Loc.app; simp
    rw [e] at q ⊢
    exact hn a _ q
end
section
variable {X : Cx} {G : GX} {C : Fc} {W : WX} {ow ow' : Ow} {r : Rho} {T T1 T2 : List (D × V)} {s : L2.St} {H H' : Hp} {fa fb fc : Ev} {fs : Av} {f g : Sv}
end
theorem or_yes {fa fb : Ev} {r r1 : Rho} (h : fa r = .ok (.val (.bl true)) r1) : cOr fa fb r = .ok (.val (.bl true)) r1 := by
  rw [q_or, h, bd_ok]
section
variable {X : Cx}
end
end VL

namespace VL
open PySem PySem.Spec PyProof.Rows L2
section
variable {G : GX} {H H' : Hp} {ow ow0 : Ow}
end
section
variable {P : Program} {w : World} {K : PySem.W.Frag} {mg : Str → Option Value} {base : Heap} {G : GX}
end
section
variable {X : Cx} {G : GX} {C : Fc} {W : WX} {ow ow' : Ow} {r : Rho} {T T1 T2 : List (D × V)} {s : L2.St} {H H' : Hp} {fs : Av}
end
end VL

namespace VL
open PySem PySem.Spec PyProof.Rows L2
end VL

namespace VL
open PySem PySem.Spec PyProof.Rows L2
end VL

namespace VL
open PySem PySem.Spec PyProof.Rows L2
def dix (ks : List L2.Key) (k : L2.Key) : Option Nat := ks.findIdx? fun x => decide (x = k)
theorem dix_cons (x : L2.Key) (ks : List L2.Key) (k : L2.Key) : dix (x :: ks) k = if x = k then some 0 else (dix ks k).map (· + 1) := by
  unfold dix
  rw [List.findIdx?_cons]
  by_cases h : x = k
  · rw [decide_eq_true h, if_pos h]; rfl
  · rw [decide_eq_false h, if_neg h]
    rfl
theorem valV_zip (k : L2.Key) : ∀ {ks : List L2.Key} {vs : List V}, ks.length = vs.length → valV (ks.zip vs) k = (dix ks k).bind fun j => vs[j]?
  | [], _, _ => rfl
  | x :: ks, [], h => by simp at h
  | x :: ks, v :: vs, h => by
    rw [dix_cons]
    show valV ((x, v) :: ks.zip vs) k = _
    by_cases e : x = k
    · rw [valV_pos (p := (x, v)) e, if_pos e]; rfl
    · rw [valV_neg (p := (x, v)) e, if_neg e, valV_zip k (by simpa using h)]
      cases dix ks k <;> rfl
theorem dix_lt {ks : List L2.Key} {k : L2.Key} {j : Nat} (h : dix ks k = some j) : j < ks.length ∧ ks[j]? = some k := by
  unfold dix at h
  rw [List.findIdx?_eq_some_iff_getElem] at h
  obtain ⟨h1, h2, _⟩ := h
  exact ⟨h1, by rw [List.getElem?_eq_getElem h1, of_decide_eq_true h2]⟩
theorem dix_none {ks : List L2.Key} {k : L2.Key} : dix ks k = none ↔ k ∉ ks := by
  unfold dix
  rw [List.findIdx?_eq_none_iff]
  exact ⟨fun h m => by have := h k m; simp at this, fun h x hx => decide_eq_false fun e => h (e ▸ hx)⟩
theorem map_off {β : Type} (k : L2.Key) (v : β) : ∀ (kvs : List (L2.Key × β)), k ∉ kvs.map (·.1) → (kvs.map fun kv => if kv.1 = k then (kv.1, v) else kv) = kvs
  | [], _ => rfl
  | p :: r, h => by
    rw [List.map_cons] at h ⊢
    rw [if_neg (fun e => h (by rw [← e]; exact List.mem_cons_self)), map_off k v r (fun m => h (List.mem_cons_of_mem _ m))]
theorem zip_fst {β : Type} : ∀ {ks : List L2.Key} {vs : List β}, ks.length = vs.length → (ks.zip vs).map (·.1) = ks
  | [], _, _ => rfl
  | _ :: _, [], h => by simp at h
  | k :: ks, v :: vs, h => by
    show k :: (ks.zip vs).map (·.1) = k :: ks
    rw [zip_fst (by simpa using h)]
theorem putK_at (k : L2.Key) (v : V) : ∀ {ks : List L2.Key} {vs : List V} {j : Nat}, ks.length = vs.length → ks.Nodup → dix ks k = some j → ((ks.zip vs).map fun kv => if kv.1 = k then (kv.1, v) else kv) = ks.zip (vs.set j v)
  | [], _, _, _, _, h => by cases h
  | x :: ks, [], _, h, _, _ => by simp at h
  | x :: ks, u :: vs, j, hl, hn, h => by
    rw [dix_cons] at h
    have hl' : ks.length = vs.length := by simpa using hl
    by_cases e : x = k
    · rw [if_pos e] at h
      cases h
      show (if x = k then (x, v) else (x, u)) :: (ks.zip vs).map _ = (x, v) :: ks.zip vs
      rw [if_pos e, map_off k v _ (by rw [zip_fst hl', ← e]; exact (List.nodup_cons.mp hn).1)]
    · rw [if_neg e] at h
      cases e2 : dix ks k with
      | none => rw [e2] at h; cases h
      | some i =>
        rw [e2] at h
        cases h
        show (if x = k then (x, v) else (x, u)) :: (ks.zip vs).map _ = (x, u) :: ks.zip (vs.set i v)
        rw [if_neg e, putK_at k v hl' (List.nodup_cons.mp hn).2 e2]
theorem put_some {k : L2.Key} {v : V} {ks : List L2.Key} {vs : List V} {j : Nat} (hl : ks.length = vs.length) (hn : ks.Nodup) (h : dix ks k = some j) : putK (ks.zip vs) k v = ks.zip (vs.set j v) := by
  unfold putK
  rw [if_pos (by rw [valV_any, valV_zip k hl, h]; show (vs[j]?).isSome = true; rw [List.getElem?_eq_getElem (by have := (dix_lt h).1; omega)]; rfl)]
  exact putK_at k v hl hn h
theorem put_none {k : L2.Key} {v : V} {ks : List L2.Key} {vs : List V} (hl : ks.length = vs.length) (h : dix ks k = none) : putK (ks.zip vs) k v = (ks ++ [k]).zip (vs ++ [v]) := by
  rw [putK_new v (by rw [valV_zip k hl, h]; rfl), List.zip_append hl]
  rfl
section
variable {X : Cx} {G : GX} {C : Fc} {W : WX} {ow ow' : Ow} {r : Rho} {T T1 T2 : List (D × V)} {s : L2.St} {H H' : Hp} {fa fb fc fk : Ev} {f g : Sv} {fs : Av}
end
end VL

namespace VL
open PySem PySem.Spec PyProof.Rows L2
section
variable {X : Cx} {G : GX} {C : Fc} {W : WX} {ow ow' : Ow} {r : Rho} {T T1 T2 : List (D × V)} {s : L2.St} {H H' : Hp} {fa fb fc fk : Ev} {f : Sv} {g : G2} {fs : Av}
def okD (ks : List L2.Key) : Prop := ks.Nodup ∧ ks.length < 16777216
instance (ks : List L2.Key) : Decidable (okD ks) := by unfold okD; exact inferInstance
end
end VL

namespace VL
open PySem PySem.Spec PyProof.Rows L2
section
variable {X : Cx} {G : GX} {C : Fc} {W : WX} {ow ow' : Ow} {r : Rho} {T T1 T2 : List (D × V)} {s : L2.St} {H H' : Hp} {fa fb fc fk : Ev} {f : Sv} {g : G2} {fs : Av}
end
end VL

namespace VL
open PySem PySem.Spec PyProof.Rows L2
end VL

namespace VL
open PySem PySem.Spec PyProof.Rows L2
section
variable {X : Cx} {G : GX} {C : Fc} {W : WX} {ow ow' : Ow} {r : Rho} {T T1 T2 : List (D × V)} {s : L2.St} {H H' : Hp} {fa fb fc fk : Ev} {fs : Av}
end
end VL

namespace VL
open PySem PySem.Spec PyProof.Rows L2
def IsIl (h : Heap) (v : Value) (ns : List Int) : Prop := ∃ (a : Addr) (items : List Value) (n : Nat), v = .ref a ∧ h.get? a = some (seqObj "list" items.toArray n) ∧ IntsAre items ns
theorem IsIl.type {M : Model} {h : Heap} {v : Value} {ns : List Int} (x : IsIl h v ns) : PySem.W.Looks M h (typeOf v) (.type "list") := by
  obtain ⟨a, items, n, rfl, g, i⟩ := x
  exact (PySem.W.Looks.ld g).andThen .now
section
variable {prog : Program} {w : World} {A : Around} {E : Value → Shared → Prop} {s : Shared}
end
section
variable {prog : Program} {w : World} {A : Around} {s : Shared}
end
abbrev il (o : Bool) (ns : List Int) : D := .node .lst o (ns.map .int)
section
variable {X : Cx} {G : GX} {C : Fc} {W : WX} {ow ow' : Ow} {r : Rho} {T T1 T2 : List (D × V)} {s : L2.St} {H H' : Hp}
end
section
variable {X : Cx} {G : GX} {C : Fc} {W : WX} {ow ow' : Ow} {r : Rho} {T T1 T2 : List (D × V)} {s : L2.St} {H H' : Hp} {fa fb fc : Ev}
end
theorem fp_il (o : Bool) (ns : List Int) : FP 1 (il o ns) := fp_lst (k := 0) fun x hx => by
  obtain ⟨n, _, rfl⟩ := List.mem_map.mp hx
  exact ⟨rfl, Nat.zero_le _⟩
end VL

namespace RT
open PySem PySem.Spec PyProof.Rows L2
section
variable {prog : Program} {w : World} {A : Around} {E : Value → Shared → Prop} {s : Shared}
end
end RT
namespace RT
open PySem PySem.Spec PyProof.Rows L2
section
variable {prog : Program} {w : World} {A : Around} {E : Value → Shared → Prop} {s : Shared}
end
end RT

namespace L2
open PySem PySem.Spec PyProof.Rows RT
section
variable {X : Cx}
end
end L2
namespace VL
open PySem PySem.Spec PyProof.Rows L2
def gLRev (x : R) (r : Rho) : EO := match opd r x with
  | some (.node .lst _ xs) => .ok (.val (.node .lst true (frzs xs).reverse)) (touch r x)
  | some (.node .rd _ xs) => .ok (.val (.node .lst true (frzs xs).reverse)) (touch r x)
  | some (.node .tup _ xs) => if xs.isEmpty = true then .bad else .ok (.val (.node .lst true (frzs xs).reverse)) (touch r x)
  | _ => .bad
def cLRev (fa : Ev) : Ev := fun r => (fa r).bd gLRev
section
variable {X : Cx} {G : GX} {C : Fc} {W : WX} {ow ow' : Ow} {r : Rho} {T T1 T2 : List (D × V)} {s : L2.St} {H H' : Hp} {fa fb fc : Ev}
end
theorem lrev_ok {fa : Ev} {r r1 : Rho} {x : R} {k : Kd} {o : Bool} {xs : List D} (h : fa r = .ok x r1) (ho : opd r1 x = some (.node k o xs)) (hk : k = .lst ∨ k = .rd ∨ (k = .tup ∧ xs ≠ [])) (f : frzs xs = xs) (t : touch r1 x = r1) : cLRev fa r = .ok (.val (.node .lst true xs.reverse)) r1 := by
  unfold cLRev
  rw [h, bd_ok]
  unfold gLRev
  rw [ho]
  rcases hk with z | z | ⟨z, hne⟩ <;> subst z
  · show EO.ok (.val (.node .lst true (frzs xs).reverse)) (touch r1 x) = _
    rw [f, t]
  · show EO.ok (.val (.node .lst true (frzs xs).reverse)) (touch r1 x) = _
    rw [f, t]
  · show (if xs.isEmpty = true then EO.bad else .ok (.val (.node .lst true (frzs xs).reverse)) (touch r1 x)) = _
    rw [if_neg (by cases xs with | nil => exact absurd rfl hne | cons _ _ => exact Bool.false_ne_true), f, t]
end VL

namespace VL
open PySem PySem.Spec PyProof.Rows L2
section
variable {X : Cx} {G : GX} {C : Fc} {W : WX} {ow ow' : Ow} {r : Rho} {T T1 T2 : List (D × V)} {s : L2.St} {H H' : Hp} {fa fb fc : Ev}
end
end VL

namespace VH
abbrev nt (k : Nat) : D := .int (k : Nat)
abbrev L (o : Bool) (ks : List Nat) : D := .node .lst o (ks.map nt)
class Fz (d : D) (d' : outParam D) : Prop where
  e : frz d = d'
class Fzs (ds : List D) (ds' : outParam (List D)) : Prop where
  e : frzs ds = ds'
instance : Fz (.int i) (.int i) := ⟨rfl⟩
instance : Fz (.bl i) (.bl i) := ⟨rfl⟩
instance : Fz .non .non := ⟨rfl⟩
instance : Fz (.str i) (.str i) := ⟨rfl⟩
instance : Fz (.exc i) (.exc i) := ⟨rfl⟩
instance : Fz (.cls i) (.cls i) := ⟨rfl⟩
instance : Fz (.ty i) (.ty i) := ⟨rfl⟩
instance [h : Fzs xs ys] : Fz (.node k o xs) (.node k false ys) := ⟨by show D.node k false (frzs xs) = _; rw [h.e]⟩
instance : Fz (script ns) (script ns) := ⟨by
  show D.node .rd false (frzs (ns.map D.int)) = _
  rw [frzs_ints]; rfl⟩
instance : Fzs [] [] := ⟨rfl⟩
instance [h : Fz x y] [h2 : Fzs xs ys] : Fzs (x :: xs) (y :: ys) := ⟨by show frz x :: frzs xs = _; rw [h.e, h2.e]⟩
instance [h : Fzs xs xs'] [h2 : Fzs ys ys'] : Fzs (xs ++ ys) (xs' ++ ys') := ⟨by rw [frzs_append, h.e, h2.e]⟩
theorem frzs_nt (ks : List Nat) : frzs (ks.map nt) = ks.map nt := by
  rw [frzs_map, List.map_map]
  exact List.map_congr_left fun _ _ => rfl
instance : Fzs (List.map nt ks) (List.map nt ks) := ⟨frzs_nt ks⟩
instance : Fzs (List.map D.int ks) (List.map D.int ks) := ⟨frzs_ints ks⟩
instance : Fzs (List.map pr ks) (List.map pr ks) := ⟨frzs_pr ks⟩
theorem frzs_take (n : Nat) (xs : List D) : frzs (xs.take n) = (frzs xs).take n := by rw [frzs_map, frzs_map, List.map_take]
theorem frzs_drop (n : Nat) (xs : List D) : frzs (xs.drop n) = (frzs xs).drop n := by rw [frzs_map, frzs_map, List.map_drop]
theorem frzs_set (xs : List D) (n : Nat) (d : D) : frzs (xs.set n d) = (frzs xs).set n (frz d) := by rw [frzs_map, frzs_map, List.map_set]
theorem frzs_replicate (n : Nat) (d : D) : frzs (List.replicate n d) = List.replicate n (frz d) := by rw [frzs_map, List.map_replicate]
instance [h : Fzs xs ys] : Fzs (xs.take n) (ys.take n) := ⟨by rw [frzs_take, h.e]⟩
instance [h : Fzs xs ys] : Fzs (xs.drop n) (ys.drop n) := ⟨by rw [frzs_drop, h.e]⟩
instance [h : Fzs xs ys] [h2 : Fz d e] : Fzs (xs.set n d) (ys.set n e) := ⟨by rw [frzs_set, h.e, h2.e]⟩
instance [h2 : Fz d e] : Fzs (List.replicate n d) (List.replicate n e) := ⟨by rw [frzs_replicate, h2.e]⟩
theorem fz {d d' : D} [h : Fz d d'] : frz d = d' := h.e
class Nl (d : D) : Prop where
  e : noL d = true
class Nls (ds : List D) : Prop where
  e : noLs ds = true
instance : Nl (.int i) := ⟨rfl⟩
instance : Nl (.bl i) := ⟨rfl⟩
instance : Nl .non := ⟨rfl⟩
instance : Nl (.str i) := ⟨rfl⟩
instance : Nl (.exc i) := ⟨rfl⟩
instance : Nl (.cls i) := ⟨rfl⟩
instance : Nl (.ty i) := ⟨rfl⟩
instance [h : Nls xs] : Nl (.node k true xs) := ⟨by show ((true || isTup k) && noLs xs) = true; rw [h.e]; rfl⟩
instance (priority := low) [h : Nls xs] : Nl (.node .tup o xs) := ⟨by show ((o || true) && noLs xs) = true; rw [h.e]; cases o <;> rfl⟩
instance : Nls [] := ⟨rfl⟩
instance [h : Nl x] [h2 : Nls xs] : Nls (x :: xs) := ⟨by show (noL x && noLs xs) = true; rw [h.e, h2.e]; rfl⟩
theorem noLs_of {xs : List D} (h : ∀ x ∈ xs, noL x = true) : noLs xs = true := by
  induction xs with
  | nil => rfl
  | cons x xs ih =>
    show (noL x && noLs xs) = true
    rw [h x List.mem_cons_self, ih fun y hy => h y (List.mem_cons_of_mem _ hy)]; rfl
theorem noLs_app {xs ys : List D} (h : noLs xs = true) (h2 : noLs ys = true) : noLs (xs ++ ys) = true := by
  induction xs with
  | nil => exact h2
  | cons x xs ih =>
    have h : (noL x && noLs xs) = true := h
    rw [Bool.and_eq_true] at h
    show (noL x && noLs (xs ++ ys)) = true
    rw [h.1, ih h.2]; rfl
instance [h : Nls xs] [h2 : Nls ys] : Nls (xs ++ ys) := ⟨noLs_app h.e h2.e⟩
theorem noLs_enc {α : Type} {f : α → D} (h : ∀ a, noL (f a) = true) (xs : List α) : noLs (xs.map f) = true := noLs_of fun x hx => by
  obtain ⟨a, _, rfl⟩ := List.mem_map.mp hx
  exact h a
instance : Nls (List.map nt ks) := ⟨noLs_enc (fun _ => rfl) _⟩
instance : Nls (List.map D.int ks) := ⟨noLs_enc (fun _ => rfl) _⟩
instance : Nls (List.map pr ks) := ⟨noLs_prs _⟩
instance [h : Nl d] : Nls (List.replicate n d) := ⟨noLs_of fun x hx => by rw [List.eq_of_mem_replicate hx]; exact h.e⟩
class Fq (k : outParam Nat) (d : D) : Prop where
  e : FP k d
class Fqs (k : outParam Nat) (ds : List D) : Prop where
  e : ∀ x ∈ ds, FP k x
instance : Fq 0 (.int i) := ⟨fp_int i 0⟩
instance : Fq 0 (.bl i) := ⟨fp_bl i 0⟩
instance : Fq 0 .non := ⟨fp_non 0⟩
instance [h : Fqs k xs] : Fq (k + 1) (.node .lst o xs) := ⟨fp_lst h.e⟩
instance [h : Fqs k xs] : Fq (k + 1) (.node .tup o xs) := ⟨fp_tup h.e⟩
instance : Fqs 0 [] := ⟨fun x hx => by cases hx⟩
instance [h : Fq k x] [h2 : Fqs m xs] : Fqs (max k m) (x :: xs) := ⟨fun y hy => by
  rcases List.mem_cons.mp hy with e | hy
  · rw [e]; exact h.e.mono (Nat.le_max_left _ _)
  · exact (h2.e y hy).mono (Nat.le_max_right _ _)⟩
instance [h : Fqs k xs] [h2 : Fqs m ys] : Fqs (max k m) (xs ++ ys) := ⟨fun y hy => by
  rcases List.mem_append.mp hy with hy | hy
  · exact (h.e y hy).mono (Nat.le_max_left _ _)
  · exact (h2.e y hy).mono (Nat.le_max_right _ _)⟩
theorem fqs_enc {α : Type} {f : α → D} {k : Nat} (h : ∀ a, FP k (f a)) (xs : List α) : ∀ x ∈ xs.map f, FP k x := fun x hx => by
  obtain ⟨a, _, rfl⟩ := List.mem_map.mp hx
  exact h a
instance : Fqs 0 (List.map nt ks) := ⟨fqs_enc (fun _ => fp_int _ 0) _⟩
instance : Fqs 0 (List.map D.int ks) := ⟨fqs_enc (fun _ => fp_int _ 0) _⟩
instance : Fqs 1 (List.map pr ks) := ⟨fp_prs ks⟩
def sq3 : Kd → Bool
  | .lst => true
  | .rd => true
  | .tup => true
  | _ => false
def sq2 : Kd → Bool
  | .lst => true
  | .rd => true
  | _ => false
section
variable {fa fb fc : Ev} {fs : Av} {r r1 r2 r3 : Rho} {x y : R} {d e z : D} {b c : Bool} {i j : Int}
theorem cc_d (d : D) (r : Rho) : cC d r = .ok (.val d) r := rfl
theorem set_val (h : fa r = .ok (.val d) r1) : cSet fa r = .ok (.val d) r1 := by
  rw [q_set, h, bd_ok]
theorem set_loc {i : Nat} {d d' : D} (h : r[i]? = some (some d)) (a : atom d = false) (f : Fz d d') (h2 : r.set i (some d') = r1) : cSet (cVar i) r = .ok (.val d') r1 := by
  rw [q_set, cvar_loc h a, bd_ok]
  show (match opd r (.loc i) with | some d => EO.ok (.val (frz d)) (settle r (.loc i)) | none => .bad) = _
  rw [opd_loc' h, q_settle2, h]
  show EO.ok (R.val (frz d)) (r.set i (some (frz d))) = _
  rw [f.e, h2]
theorem cons_ok {xs : List R} (h : fa r = .ok x r1) (h2 : fs r1 = .ok xs r2) : cCons fa fs r = .ok (x :: xs) r2 := by
  rw [q_cons, h]
  show (match fs r1 with | .ok xs r2 => AO.ok (x :: xs) r2 | .exc c r2 => .exc c r2 | .bad => .bad) = _
  rw [h2]
theorem nil_ok (r : Rho) : cNil r = .ok [] r := rfl
theorem lst_ok {xs : List R} {ds : List D} (h : fs r = .ok xs r1) (h2 : valsR xs = some ds) (hl : ds.length ≤ 16777216) : cLst fs r = .ok (.val (.node .lst true ds)) r1 := by
  rw [q_lst, h]
  show (match valsR xs with | some ds => if ds.length ≤ 16777216 then EO.ok (.val (.node .lst true ds)) r1 else .bad | none => .bad) = _
  rw [h2]
  show (if ds.length ≤ 16777216 then EO.ok (.val (.node .lst true ds)) r1 else .bad) = _
  rw [if_pos hl]
theorem tup_ok {xs : List R} {ds : List D} (h : fs r = .ok xs r1) (h2 : valsR xs = some ds) (hl : ds.length ≤ 16777216) : cTup fs r = .ok (.val (.node .tup false ds)) r1 := by
  rw [q_tup, h]
  show (match valsR xs with | some ds => if ds.length ≤ 16777216 then EO.ok (.val (.node .tup false ds)) r1 else .bad | none => .bad) = _
  rw [h2]
  show (if ds.length ≤ 16777216 then EO.ok (.val (.node .tup false ds)) r1 else .bad) = _
  rw [if_pos hl]
theorem call_go {n : Nat} {F : List D → FO} {xs : List R} {ds ds' : List D} (h : fs r = .ok xs r1) (h2 : opds r1 xs = some ds) (hf : Fzs ds ds') (hn : xs.length = n) (hF : F ds' = .ok d) (nl : Nl d) : cCall n F fs r = .ok (.val d) r1 := by
  rw [q_call, h]
  show (if xs.length = n then callK F xs r1 else .bad) = _
  rw [if_pos hn, q_callK, h2]
  show (match F (frzs ds) with | .ok d => if noL d = true then EO.ok (.val d) r1 else .ok (.val d) (settles r1 xs) | .exc c => .exc c r1 | .bad => .bad) = _
  rw [hf.e, hF]
  show (if noL d = true then EO.ok (.val d) r1 else .ok (.val d) (settles r1 xs)) = _
  rw [if_pos nl.e]
theorem call_set {n : Nat} {F : List D → FO} {xs : List R} {ds ds' : List D} (h : fs r = .ok xs r1) (h2 : opds r1 xs = some ds) (hf : Fzs ds ds') (hn : xs.length = n) (hF : F ds' = .ok d) (nl : noL d = false) (hs : settles r1 xs = r2) : cCall n F fs r = .ok (.val d) r2 := by
  rw [q_call, h]
  show (if xs.length = n then callK F xs r1 else .bad) = _
  rw [if_pos hn, q_callK, h2]
  show (match F (frzs ds) with | .ok d => if noL d = true then EO.ok (.val d) r1 else .ok (.val d) (settles r1 xs) | .exc c => .exc c r1 | .bad => .bad) = _
  rw [hf.e, hF]
  show (if noL d = true then EO.ok (.val d) r1 else .ok (.val d) (settles r1 xs)) = _
  rw [if_neg (by rw [nl]; decide), hs]
theorem len_go {k : Kd} {o : Bool} {xs : List D} (h : fa r = .ok x r1) (ho : opd r1 x = some (.node k o xs)) (hk : sq3 k = true) : cB (b1 lenD) (cCons fa cNil) r = .ok (.val (.int xs.length)) r1 :=
  b1_ok h ho (by cases k <;> first | rfl | cases hk) rfl
theorem lenE_go {α : Type} {k : Kd} {o : Bool} {f : α → D} {xs : List α} (h : fa r = .ok x r1) (ho : opd r1 x = some (.node k o (xs.map f))) (hk : sq3 k = true) : cB (b1 lenD) (cCons fa cNil) r = .ok (.val (.int xs.length)) r1 := by
  have e := len_go h ho hk
  rw [List.length_map] at e
  exact e
theorem neg_ok {n : Int} (h : fa r = .ok (.val (.int n)) r1) : cNeg fa r = .ok (.val (.int (-n))) r1 := by
  unfold cNeg
  rw [h]
  rfl
theorem min_ok (h1 : fa r = .ok (.val (.int i)) r1) (h2 : fb r1 = .ok (.val (.int j)) r2) : cB gMin2 (cCons fa (cCons fb cNil)) r = .ok (.val (.int (min i j))) r2 := by
  rw [q_B, cons_ok h1 (cons_ok h2 (nil_ok r2))]
  show gMin2 [.val (.int i), .val (.int j)] r2 = _
  rw [q_min2]
  congr 3
  by_cases hn : j < i
  · rw [if_pos hn]; omega
  · rw [if_neg hn]; omega
theorem and_no (h : fa r = .ok (.val (.bl false)) r1) : cAnd fa fb r = .ok (.val (.bl false)) r1 := by
  rw [q_and, h, bd_ok]
theorem and_go (h : fa r = .ok (.val (.bl true)) r1) {o : EO} (h2 : fb r1 = o) : cAnd fa fb r = o := by
  rw [q_and, h, bd_ok]; exact h2
theorem or_yes (h : fa r = .ok (.val (.bl true)) r1) : cOr fa fb r = .ok (.val (.bl true)) r1 := by
  rw [q_or, h, bd_ok]
theorem or_go (h : fa r = .ok (.val (.bl false)) r1) {o : EO} (h2 : fb r1 = o) : cOr fa fb r = o := by
  rw [q_or, h, bd_ok]; exact h2
theorem and_b (h : fa r = .ok (.val (.bl b)) r) (h2 : fb r = .ok (.val (.bl c)) r) : cAnd fa fb r = .ok (.val (.bl (b && c))) r := by
  rw [q_and, h, bd_ok]
  cases b with
  | true => exact h2
  | false => rfl
theorem or_b (h : fa r = .ok (.val (.bl b)) r) (h2 : fb r = .ok (.val (.bl c)) r) : cOr fa fb r = .ok (.val (.bl (b || c))) r := by
  rw [q_or, h, bd_ok]
  cases b with
  | true => rfl
  | false => exact h2
theorem ife_go {ft : Ev} {o : EO} (h : ft r = .ok (.val (.bl b)) r1) (h2 : (if b = true then fa r1 else fb r1) = o) : cIfE ft fa fb r = o := by
  unfold cIfE
  rw [h, bd_ok]
  cases b <;> exact h2
theorem tru_bl (h : fa r = .ok (.val (.bl b)) r1) : cTru fa r = .ok (.val (.bl b)) r1 := by
  unfold cTru
  rw [h]
  rfl
theorem ix_go {k : Kd} {o : Bool} {xs : List D} {n : Int} (h : fa r = .ok x r1) (h2 : fb r1 = .ok (.val (.int n)) r2) (ho : opd r2 x = some (.node k o xs)) (hk : sq3 k = true) (hd : atI xs n = some d) (fd : Fz d e) (t : touch r2 x = r3) (ht : atom d = true → r3 = r2) : cBin gIx fa fb r = .ok (.val e) r3 := by
  refine bin_ok h h2 ?_
  have z : gIx x (.val (.int n)) r2 = pick r2 x d := by
    rw [q_ix, ho]
    cases k <;> first | (cases hk; done) | (show (match atI xs n with | some d => pick r2 x d | none => EO.bad) = _; rw [hd])
  rw [z, q_pick]
  by_cases a : atom d = true
  · rw [if_pos a, ht a, ← fd.e, frz_atom a]
  · rw [if_neg a, fd.e, t]
theorem at_enc {α : Type} {f : α → D} {xs : List α} {i : Nat} (h : i < xs.length) : atI (xs.map f) (i : Int) = some (f xs[i]) := by
  rw [VL.atI_nat, List.getElem?_map, List.getElem?_eq_getElem h]; rfl
theorem touch_v (d : D) (r : Rho) : touch r (.val d) = r := rfl
theorem touch_l {i : Nat} {k : Kd} {o : Bool} {ys : List D} (h : r[i]? = some (some (.node k o ys))) (f : Fzs ys ys) : touch r (.loc i) = r := touch_fz h f.e
theorem addL_go {o o' : Bool} {xs ys xs' ys' : List D} (h1 : fa r = .ok x r1) (h2 : fb r1 = .ok y r2) (e1 : opd r2 x = some (.node .lst o xs)) (e2 : opd r2 y = some (.node .lst o' ys)) (f1 : Fzs xs xs') (f2 : Fzs ys ys') (hl : xs.length + ys.length ≤ 16777216) (t1 : touch r2 y = r2) (t2 : touch r2 x = r2) : cBin gAdd fa fb r = .ok (.val (.node .lst true (xs' ++ ys'))) r2 := by
  refine bin_ok h1 h2 ?_
  rw [q_addL e1 e2 hl, f1.e, f2.e, t1, t2]
theorem listOf_go {o : Bool} {k : Kd} {xs xs' : List D} (h : fa r = .ok x r1) (ho : opd r1 x = some (.node k o xs)) (hk : sq3 k = true) (f : Fzs xs xs') (t : touch r1 x = r2) : cB gListOf (cCons fa cNil) r = .ok (.val (.node .lst true xs')) r2 := by
  rw [q_B, cons_ok h (nil_ok r1), q_abd1, q_listOf, ho]
  cases k <;> first | (cases hk; done) | (show EO.ok (.val (.node .lst true (frzs xs))) (touch r1 x) = _; rw [f.e, t])
theorem isi_go {n : String} {E : ETab} (h : fa r = .ok x r1) (ho : opd r1 x = some d) (hb : isi1 E d (.ty n) = some b) : cB (gIsi E) (cCons fa (cCons (cC (.ty n)) cNil)) r = .ok (.val (.bl b)) r1 := by
  rw [q_B, cons_ok h (cons_ok (cc_d _ _) (nil_ok r1)), q_abd1]
  show (match opd r1 x with | some d => (match isi1 E d (.ty n) with | some b => EO.ok (.val (.bl b)) r1 | none => .bad) | none => .bad) = _
  rw [ho]
  show (match isi1 E d (.ty n) with | some b => EO.ok (.val (.bl b)) r1 | none => .bad) = _
  rw [hb]
theorem eqD_go (h1 : fa r = .ok x r1) (h2 : fb r1 = .ok y r2) (e1 : opd r2 x = some d) (e2 : opd r2 y = some e) (h : eqD d e = some (.bl b)) : cBin gEq fa fb r = .ok (.val (.bl b)) r2 := bin_ok h1 h2 (g2_ok e1 e2 h rfl)
theorem neD_go (h1 : fa r = .ok x r1) (h2 : fb r1 = .ok y r2) (e1 : opd r2 x = some d) (e2 : opd r2 y = some e) (h : neD d e = some (.bl b)) : cBin gNe fa fb r = .ok (.val (.bl b)) r2 := bin_ok h1 h2 (g2_ok e1 e2 h rfl)
theorem seq_go {f g : Sv} {o : SO} (h : f r = .nx r1) (h2 : g r1 = o) : cSeq f g r = o := (seq_nx h).trans h2
theorem skip_go (r : Rho) : cSkip r = .nx r := rfl
theorem asg_go {i : Nat} (h : cSet fa r = .ok (.val d) r1) (h2 : r1.set i (some d) = r2) : cAsg (.nm i) fa r = .nx r2 := by
  rw [q_asg, h]
  show SO.nx (r1.set i (some d)) = _
  rw [h2]
theorem asgT_go {t : Tg} (h : cSet fa r = .ok (.val d) r1) (h2 : tgt t d r1 = some r2) : cAsg t fa r = .nx r2 := by
  rw [q_asg, h]
  show asgK t (.val d) r1 = _
  rw [q_asgK, h2]
theorem expr_go (h : fa r = .ok x r1) : cExpr fa r = .nx r1 := by
  rw [q_expr, h]; rfl
theorem app_go {i : Nat} {ds : List D} (hi : isLst r i = true) (h : cSet fa r = .ok (.val d) r1) (h2 : r1[i]? = some (some (.node .lst true ds))) (hl : ds.length < 16777216) (h3 : r1.set i (some (.node .lst true (ds ++ [d]))) = r2) : cExpr (cApp i fa) r = .nx r2 := by
  rw [q_expr, q_app, if_pos hi, h, bd_ok]
  show (appK i (.val d) r1).st _ = _
  rw [q_appK, h2]
  show (if ds.length < 16777216 then EO.ok (.val .non) (r1.set i (some (.node .lst true (ds ++ [d])))) else .bad).st _ = _
  rw [if_pos hl, h3]
  rfl
theorem ext_go {i : Nat} {o : Bool} {ds es ds' es' : List D} (hi : isLst r i = true) (h : fa r = .ok x r1) (ho : opd r1 x = some (.node .lst o es)) (ht : touch r1 x = r1) (h2 : r1[i]? = some (some (.node .lst true ds))) (f1 : Fzs ds ds') (f2 : Fzs es es') (hl : ds.length + es.length ≤ 16777216) (h3 : r1.set i (some (.node .lst true (ds' ++ es'))) = r2) : cExpr (cExt i fa) r = .nx r2 := by
  rw [q_expr]
  have e : cExt i fa r = (fa r).bd (extK i) := by
    unfold cExt; rw [if_pos hi]
  rw [e, h, bd_ok]
  have e2 : extK i x r1 = .ok (.val .non) r2 := by
    unfold extK
    rw [ho]
    simp only
    rw [ht, h2]
    simp only
    rw [if_pos hl, f1.e, f2.e, List.set_set, h3]
  rw [e2]
  rfl
theorem ret_go (h : fa r = .ok x r1) : cRet fa r = .rt x r1 := ret_ok h
theorem for_go {t : Tg} {fi : Iv} {f : Sv} {ds : List D} {o : SO} (h : fi r = .ok ds r1) (h2 : forL t f ds r1 = o) : cFor t fi f r = o := for_ok h h2
theorem aug_go {i : Nat} {a c : Int} (h : r[i]? = some (some (.int a))) (h2 : fa r = .ok (.val (.int c)) r1) (h3 : r1.set i (some (.int (a + c))) = r2) : cAug i (g2 iAdd) fa r = .nx r2 := by
  rw [q_aug, h]
  show (if true = true then (fa r).st fun y r1 => (g2 iAdd (.val (.int a)) y r1).st fun z r2 => match z with
    | .val d' => SO.nx (r2.set i (some d'))
    | .loc _ => .bad else .bad) = _
  rw [h2]
  show SO.nx (r1.set i (some (.int (a + c)))) = _
  rw [h3]
theorem augG_go {i : Nat} {g : G2} (h : r[i]? = some (some d)) (a : atom d = true) (h2 : fa r = .ok y r1) (h4 : g (.val d) y r1 = .ok (.val e) r2) (h3 : r2.set i (some e) = r3) : cAug i g fa r = .nx r3 := by
  rw [q_aug, h]
  show (if atom d = true then (fa r).st fun y r1 => (g (.val d) y r1).st fun z r2 => match z with
    | .val d' => SO.nx (r2.set i (some d'))
    | .loc _ => .bad else .bad) = _
  rw [if_pos a, h2]
  show (g (.val d) y r1).st _ = _
  rw [h4]
  show SO.nx (r2.set i (some e)) = _
  rw [h3]
theorem par_go {is : List Nat} {xs : List R} {ds : List D} (h : fs r = .ok xs r1) (h2 : valsR xs = some ds) (hl : is.length = ds.length) (h3 : setAll r1 is ds = r2) : cPar is fs r = .nx r2 := by
  rw [← h3]; exact par_ok h h2 hl
theorem setIx_go {i : Nat} {fk : Ev} {k : Int} {jj : Nat} {ds : List D} (h : cSet fa r = .ok (.val d) r1) (h1 : isLst r1 i = true) (h2 : fk r1 = .ok (.val (.int k)) r2) (h3 : r2[i]? = some (some (.node .lst true ds))) (h4 : ixN ds.length k = some jj) (h5 : r2.set i (some (.node .lst true (ds.set jj d))) = r3) : cSetIx i fk fa r = .nx r3 := by
  rw [q_setIx, h, q_st1, if_pos h1, h2, q_st1, q_setIxK]
  show (match opd r2 (.val (.int k)), r2[i]? with
  | some (.int k), some (some (.node .lst true ds)) => (match ixN ds.length k with
    | some j => SO.nx (r2.set i (some (.node .lst true (ds.set j d))))
    | none => .bad)
  | _, _ => .bad) = _
  rw [h3]
  show (match ixN ds.length k with
    | some j => SO.nx (r2.set i (some (.node .lst true (ds.set j d))))
    | none => .bad) = _
  rw [h4]
  show SO.nx (r2.set i (some (.node .lst true (ds.set jj d)))) = _
  rw [h5]
theorem ixN_nat {n k : Nat} (h : k < n) : ixN n (k : Int) = some k := by
  unfold ixN
  rw [if_pos (by omega), if_pos (by omega), Int.toNat_natCast]
theorem wh_go {ft : Ev} {f : Sv} {n : Nat} (h : ft r = .ok (.val (.bl true)) r1) (h2 : f r1 = .nx r2) : whileL ft f (n + 1) r = whileL ft f n r2 := by
  conv => lhs; unfold whileL
  rw [h]
  show (match f r1 with | .nx r2 => whileL ft f n r2 | .ct r2 => whileL ft f n r2 | .bk r2 => .nx r2 | o => o) = _
  rw [h2]
theorem wh_no {ft : Ev} {f : Sv} {n : Nat} (h : ft r = .ok (.val (.bl false)) r1) : whileL ft f (n + 1) r = .nx r1 := by
  unfold whileL
  rw [h]
  rfl
end
theorem it_rngI {fa : Ev} {r r1 : Rho} {n : Int} (h : fa r = .ok (.val (.int n)) r1) (h1 : within n = true) : iRng rngI1 (cCons fa cNil) r = .ok (rngD 0 1 n.toNat) r1 := by
  rw [q_iRng, cons_ok h (nil_ok r1)]
  show rngI1 r1 [.val (.int n)] = _
  rw [q_rng1, if_pos h1]
theorem it_rng2 {fa fb : Ev} {r r1 r2 : Rho} {n m : Int} (h : fa r = .ok (.val (.int n)) r1) (h2 : fb r1 = .ok (.val (.int m)) r2) (hn : within n = true) (hm : within m = true) : iRng rngI2 (cCons fa (cCons fb cNil)) r = .ok (rngD n 1 (m - n).toNat) r2 := by
  rw [q_iRng, cons_ok h (cons_ok h2 (nil_ok r2))]
  show rngI2 r2 [.val (.int n), .val (.int m)] = _
  rw [q_rng2, if_pos (by rw [hn, hm]; rfl)]
theorem it_lstG {fa : Ev} {r r1 : Rho} {o : Bool} {k : Kd} {ds : List D} (h : cSet fa r = .ok (.val (.node k o ds)) r1) (hk : sq2 k = true) : iLst fa r = .ok ds r1 := by
  rw [q_iLst, h]
  cases k <;> first | (cases hk; done) | rfl
theorem it_enumG {fa : Ev} {r r1 : Rho} {o : Bool} {ds ds' : List D} (h : fa r = .ok (.val (.node .lst o ds)) r1) (f : Fzs ds ds') : iRng gEn (cCons fa cNil) r = .ok (enumD 0 ds') r1 := by
  rw [q_iEn (cons_ok h (nil_ok r1)), f.e]
theorem rng_nt (n : Nat) : rngD 0 1 n = (List.range n).map nt := by
  unfold rngD
  refine List.map_congr_left fun i _ => ?_
  show D.int ((0 : Int) + (i : Nat) * 1) = D.int (i : Nat)
  congr 1; omega
end VH
namespace VH
section
variable {fa fb fc : Ev} {fs : Av} {f g h : Sv} {r r1 r2 r3 : Rho} {x y : R} {d e z : D} {b c : Bool} {i j : Int} {o : SO}
theorem set_0 {a : Option D} {x : Option D} {l : Rho} : (a :: l).set 0 x = x :: l := rfl
theorem set_s {a : Option D} {x : Option D} {l l' : Rho} {n : Nat} (h : l.set n x = l') : (a :: l).set (n + 1) x = a :: l' := by
  rw [List.set_cons_succ, h]
theorem setAll_n (r : Rho) : setAll r [] [] = r := rfl
theorem setAll_c {i : Nat} {is : List Nat} {ds : List D} (h : r.set i (some d) = r1) (h2 : setAll r1 is ds = r2) : setAll r (i :: is) (d :: ds) = r2 := by
  show setAll (r.set i (some d)) is ds = _
  rw [h, h2]
theorem tgt_nm {i : Nat} (h : r.set i (some d) = r1) : tgt (.nm i) d r = some r1 := by
  show some (r.set i (some d)) = _
  rw [h]
theorem tgt_tp {is : List Nat} {o : Bool} {ds : List D} (hl : is.length = ds.length) (h : setAll r is ds = r1) : tgt (.tp is) (.node .tup o ds) r = some r1 := by
  show (if is.length = ds.length then some (setAll r is ds) else none) = _
  rw [if_pos hl, h]
theorem tgt_tl {is : List Nat} {o : Bool} {ds : List D} (hl : is.length = ds.length) (h : setAll r is ds = r1) : tgt (.tl is) (.node .lst o ds) r = some r1 := by
  show (if is.length = ds.length then some (setAll r is ds) else none) = _
  rw [if_pos hl, h]
theorem seq_as (h1 : cSeq f (cSeq g h) r = o) : cSeq (cSeq f g) h r = o := by
  rw [← h1]
  simp only [q_seq]
  cases f r <;> rfl
theorem seq_ret (h1 : fa r = .ok x r1) (h2 : SO.rt x r1 = o) : cSeq (cRet fa) h r = o := by
  rw [seq_rt (ret_ok h1), h2]
theorem seq_yes (h1 : fa r = .ok (.val (.bl b)) r1) (hb : b = true) (h2 : cSeq f h r1 = o) : cSeq (cIfS fa f g) h r = o := by
  subst hb
  rw [← h2]
  simp only [q_seq]
  rw [ifs_yes h1 rfl]
theorem seq_no (h1 : fa r = .ok (.val (.bl b)) r1) (hb : b = false) (h2 : cSeq g h r1 = o) : cSeq (cIfS fa f g) h r = o := by
  subst hb
  rw [← h2]
  simp only [q_seq]
  rw [ifs_not h1 rfl]
theorem ifs_y (h1 : fa r = .ok (.val (.bl b)) r1) (hb : b = true) (h2 : f r1 = o) : cIfS fa f g r = o := by
  subst hb
  exact ifs_yes h1 h2
theorem ifs_n (h1 : fa r = .ok (.val (.bl b)) r1) (hb : b = false) (h2 : g r1 = o) : cIfS fa f g r = o := by
  subst hb
  exact ifs_not h1 h2
theorem seq_sk (h2 : h r = o) : cSeq cSkip h r = o := by
  rw [q_seq, q_skip]; exact h2
theorem seq_ra {k : Nat} (h2 : SO.exc k r = o) : cSeq (cRaise k) h r = o := by
  rw [q_seq, q_raise]; exact h2
theorem runF_go {n : Nat} {ds : List D} (h1 : startR n ds = r) (h2 : f r = .rt x r1) (ho : opd r1 x = some d) : runF n f ds = .ok d := by
  subst h1
  exact runF_ok h2 ho
theorem forL_c {t : Tg} {ds : List D} (h1 : tgt t d r = some r1) (h2 : f r1 = .nx r2) (h3 : forL t f ds r2 = o) : forL t f (d :: ds) r = o := (forL_cons h1 h2).trans h3
end
theorem mulOk_l {i j : Int} (h : i.natAbs < 2 ^ 64) : mulOk i j = true := by
  unfold mulOk
  rw [decide_eq_true h]; rfl
end VH
namespace VH
theorem set_any {r : Rho} {i : Nat} {d : D} (h : r[i]? = some (some d)) (f : frz d = d) : cSet (cVar i) r = .ok (.val d) r := by
  cases ha : atom d with
  | true => rw [q_set, cvar_at h ha, bd_ok]
  | false => exact set_loc h ha ⟨f⟩ (set_same h)
theorem start_c {n : Nat} {d : D} {ds : List D} {r : Rho} (h : startR n ds = r) : startR (n + 1) (d :: ds) = some d :: r := by
  subst h
  unfold startR
  simp
theorem start_n {n : Nat} {r : Rho} (h : startR n [] = r) : startR (n + 1) [] = none :: r := by
  subst h
  unfold startR
  simp [List.replicate_succ]
theorem start_z : startR 0 [] = [] := rfl
end VH
namespace VH
end VH
namespace VH
end VH
namespace VH
theorem touch_g {r r1 : Rho} {i : Nat} {k : Kd} {o : Bool} {ys ys' : List D} (h : r[i]? = some (some (.node k o ys))) (f : Fzs ys ys') (h2 : r.set i (some (.node k o ys')) = r1) : touch r (.loc i) = r1 := by
  rw [q_touch2, h, ← h2, ← f.e]
  rfl
end VH
namespace VH
theorem se_n (r : Rho) : settles r [] = r := rfl
theorem se_v {r r1 : Rho} {d : D} {xs : List R} (h : settles r xs = r1) : settles r (.val d :: xs) = r1 := h
theorem se_l {r r1 r2 : Rho} {i : Nat} {d d' : D} {xs : List R} (h : r[i]? = some (some d)) (f : Fz d d') (h2 : r.set i (some d') = r1) (h3 : settles r1 xs = r2) : settles r (.loc i :: xs) = r2 := by
  rw [q_settles1, q_settle2, h, ← h3, ← h2, ← f.e]
end VH
namespace VH
theorem not_t {fa : Ev} {r r1 : Rho} (h : fa r = .ok (.val (.bl true)) r1) : cNot fa r = .ok (.val (.bl false)) r1 := not_ok h
theorem not_f {fa : Ev} {r r1 : Rho} (h : fa r = .ok (.val (.bl false)) r1) : cNot fa r = .ok (.val (.bl true)) r1 := not_ok h
end VH
namespace VH
theorem wh_y {ft : Ev} {f : Sv} {n : Nat} {r r1 r2 : Rho} {b : Bool} {o : SO} (h : ft r = .ok (.val (.bl b)) r1) (hb : b = true) (h2 : f r1 = .nx r2) (h3 : whileL ft f n r2 = o) : whileL ft f (n + 1) r = o := by
  subst hb
  exact (wh_go h h2).trans h3
theorem wh_n {ft : Ev} {f : Sv} {n : Nat} {r r1 : Rho} {b : Bool} (h : ft r = .ok (.val (.bl b)) r1) (hb : b = false) : whileL ft f (n + 1) r = .nx r1 := by
  subst hb
  exact wh_no h
theorem int_bl {fa : Ev} {r r1 : Rho} {b : Bool} (h : fa r = .ok (.val (.bl b)) r1) : cB (b1 intD) (cCons fa cNil) r = .ok (.val (.int (if b then 1 else 0))) r1 := b1_ok h rfl rfl rfl
theorem int_int {fa : Ev} {r r1 : Rho} {i : Int} (h : fa r = .ok (.val (.int i)) r1) : cB (b1 intD) (cCons fa cNil) r = .ok (.val (.int i)) r1 := b1_ok h rfl rfl rfl
theorem call_any {n : Nat} {F : List D → FO} {fs : Av} {r r1 : Rho} {d : D} {xs : List R} {ds ds' : List D} (h : fs r = .ok xs r1) (h2 : opds r1 xs = some ds) (hf : Fzs ds ds') (hn : xs.length = n) (hF : F ds' = .ok d) (hs : settles r1 xs = r1) : cCall n F fs r = .ok (.val d) r1 := by
  cases nl : noL d with
  | true => exact call_go h h2 hf hn hF ⟨nl⟩
  | false => exact call_set h h2 hf hn hF nl hs
end VH
namespace VH
end VH
namespace VH
theorem nx_to {f : Sv} {r r1 r2 : Rho} (h : f r = .nx r1) (h2 : r1 = r2) : f r = .nx r2 := by rw [← h2]; exact h
end VH
namespace VH
theorem augS_go {fa : Ev} {r r1 r2 : Rho} {i : Nat} {a c : Int} (h : r[i]? = some (some (.int a))) (h2 : fa r = .ok (.val (.int c)) r1) (h3 : r1.set i (some (.int (a - c))) = r2) : cAug i VL.gSub fa r = .nx r2 :=
  augG_go h rfl h2 (g2_ok rfl rfl rfl rfl) h3
theorem augM_go {fa : Ev} {r r1 r2 : Rho} {i : Nat} {a c : Int} (h : r[i]? = some (some (.int a))) (h2 : fa r = .ok (.val (.int c)) r1) (hm : mulOk a c = true) (h3 : r1.set i (some (.int (a * c))) = r2) : cAug i VL.gMul fa r = .nx r2 :=
  augG_go h rfl h2 (by rw [q_mulI, if_pos hm]) h3
theorem pop_go {r r2 : Rho} {i : Nat} {xs ys : List D} {d : D} (h : r[i]? = some (some (.node .lst true ys))) (e : ys = xs ++ [d]) (f : Fzs (xs ++ [d]) (xs ++ [d])) (h3 : r.set i (some (.node .lst true xs)) = r2) : cPop i r = .ok (.val d) r2 := by
  subst e
  rw [← h3]
  exact pop_fz h f.e
theorem lrev_go {fa : Ev} {r r1 : Rho} {o : Bool} {xs : List D} {x : R} {d : D} (h : fa r = .ok x r1) (ho : opd r1 x = some (.node .tup o (d :: xs))) (f : Fzs (d :: xs) (d :: xs)) (t : touch r1 x = r1) : cLRev fa r = .ok (.val (.node .lst true (d :: xs).reverse)) r1 :=
  lrev_ok (k := .tup) (o := o) (xs := d :: xs) h ho (.inr (.inr ⟨rfl, fun h => by cases h⟩)) f.e t
theorem lrevL_go {fa : Ev} {r r1 : Rho} {o : Bool} {xs : List D} {x : R} (h : fa r = .ok x r1) (ho : opd r1 x = some (.node .lst o xs)) (f : Fzs xs xs) (t : touch r1 x = r1) : cLRev fa r = .ok (.val (.node .lst true xs.reverse)) r1 :=
  lrev_ok (k := .lst) (o := o) (xs := xs) h ho (.inl rfl) f.e t
end VH
namespace VH
theorem frzs_reverse (xs : List D) : frzs xs.reverse = (frzs xs).reverse := by rw [frzs_map, frzs_map, List.map_reverse]
instance [h : Fzs xs ys] : Fzs xs.reverse ys.reverse := ⟨by rw [frzs_reverse, h.e]⟩
end VH
namespace VH
theorem nt_lst (o : Bool) (xs : List Nat) : D.node .lst o (xs.map nt) = .node .lst o ((xs.map fun x => ((x : Nat) : Int)).map .int) := by
  rw [List.map_map]; rfl
theorem cast_inj {xs ys : List Nat} : (xs.map fun x => ((x : Nat) : Int)) = (ys.map fun x => ((x : Nat) : Int)) ↔ xs = ys := by
  constructor
  · intro h
    have := congrArg (List.map Int.toNat) h
    simpa [List.map_map, Function.comp_def] using this
  · intro h; rw [h]
theorem neL (o o' : Bool) (xs ys : List Nat) : neD (L o xs) (L o' ys) = some (.bl (!decide (xs = ys))) := by
  rw [L, L, nt_lst, nt_lst, ne_lints]
  congr 3
  exact decide_eq_decide.mpr cast_inj
theorem eqL (o o' : Bool) (xs ys : List Nat) : eqD (L o xs) (L o' ys) = some (.bl (decide (xs = ys))) := by
  rw [L, L, nt_lst, nt_lst, eq_lints]
  congr 2
  exact decide_eq_decide.mpr cast_inj
section
variable {fa fl fh : Ev} {r r1 r2 r3 : Rho} {x : R} {k : Kd} {o : Bool} {xs xs' : List D} {i j : Int}
theorem cutD_ss (xs : List D) (h1 : 0 ≤ i) (h2 : 0 ≤ j) : VL.cutD xs (some i) (some j) = (xs.drop i.toNat).take (j.toNat - i.toNat) := by
  obtain ⟨a, rfl⟩ : ∃ a : Nat, i = a := ⟨i.toNat, by omega⟩
  obtain ⟨b, rfl⟩ : ∃ b : Nat, j = b := ⟨j.toNat, by omega⟩
  exact cutD_some xs a b
theorem cutD_ns (xs : List D) (h2 : 0 ≤ j) : VL.cutD xs none (some j) = xs.take j.toNat := by
  obtain ⟨b, rfl⟩ : ∃ b : Nat, j = b := ⟨j.toNat, by omega⟩
  exact cutD_to xs b
theorem cutD_sn (xs : List D) (h1 : 0 ≤ i) : VL.cutD xs (some i) none = xs.drop i.toNat := by
  obtain ⟨b, rfl⟩ : ∃ b : Nat, i = b := ⟨i.toNat, by omega⟩
  exact cutD_of xs b
theorem part_ok {f : Ev} {r r1 : Rho} {i : Int} {k : Option Int → Rho → EO} (h : f r = .ok (.val (.int i)) r1) : VL.part (some f) r k = k (some i) r1 := by
  show (f r).bd _ = _
  rw [h]
  rfl
theorem sl_ss (h : fa r = .ok x r1) (ho : opd r1 x = some (.node k o xs)) (hk : sq2 k = true) (f : Fzs xs xs') (h1 : fl r1 = .ok (.val (.int i)) r1) (h2 : fh r1 = .ok (.val (.int j)) r1) (t : touch r1 x = r2) (p1 : 0 ≤ i) (p2 : 0 ≤ j) : cSl fa (some fl) (some fh) r = .ok (.val (.node .lst true ((xs'.drop i.toNat).take (j.toNat - i.toNat)))) r2 := by
  rw [q_sl, h, bd_ok, part_ok h1, part_ok h2, q_gSl, ho]
  cases k <;> first | (cases hk; done) | (show EO.ok (.val (.node .lst true (VL.cutD (frzs xs) (some i) (some j)))) (touch r1 x) = _; rw [f.e, t, cutD_ss _ p1 p2])
theorem sl_ns (h : fa r = .ok x r1) (ho : opd r1 x = some (.node k o xs)) (hk : sq2 k = true) (f : Fzs xs xs') (h2 : fh r1 = .ok (.val (.int j)) r1) (t : touch r1 x = r2) (p2 : 0 ≤ j) : cSl fa none (some fh) r = .ok (.val (.node .lst true (xs'.take j.toNat))) r2 := by
  rw [q_sl, h, bd_ok, q_part0, part_ok h2, q_gSl, ho]
  cases k <;> first | (cases hk; done) | (show EO.ok (.val (.node .lst true (VL.cutD (frzs xs) none (some j)))) (touch r1 x) = _; rw [f.e, t, cutD_ns _ p2])
theorem sl_sn (h : fa r = .ok x r1) (ho : opd r1 x = some (.node k o xs)) (hk : sq2 k = true) (f : Fzs xs xs') (h1 : fl r1 = .ok (.val (.int i)) r1) (t : touch r1 x = r2) (p1 : 0 ≤ i) : cSl fa (some fl) none r = .ok (.val (.node .lst true (xs'.drop i.toNat))) r2 := by
  rw [q_sl, h, bd_ok, part_ok h1, q_part0, q_gSl, ho]
  cases k <;> first | (cases hk; done) | (show EO.ok (.val (.node .lst true (VL.cutD (frzs xs) (some i) none))) (touch r1 x) = _; rw [f.e, t, cutD_sn _ p1])
theorem pow_go {fb : Ev} {v : Int} (h1 : fa r = .ok (.val (.int i)) r1) (h2 : fb r1 = .ok (.val (.int j)) r2) (hp : powOk i j = true) (hv : i ^ j.toNat = v) : cBin gPow fa fb r = .ok (.val (.int v)) r2 := by
  rw [← hv]
  exact bin_ok h1 h2 (pow_ok i j hp r2)
theorem sum_go {ns : List Int} (h : fa r = .ok x r1) (ho : opd r1 x = some (.node .lst o (ns.map .int))) : cB (b1 VL.sumD) (cCons fa cNil) r = .ok (.val (.int ns.sum)) r1 := by
  refine b1_ok h ho ?_ rfl
  show (intsOf (ns.map D.int)).map _ = _
  rw [intsOf_map]; rfl
end
theorem lcL_all {α : Type} {enc g : α → D} {t : Tg} {fe : Ev} {vs : List Nat} {r0 : Rho} : ∀ (xs : List α) (acc : List D), acc.length + xs.length < 16777216 →
    (∀ a ∈ xs, ∃ r2, tgt t (enc a) r0 = some r2 ∧ ∃ r3, cSet fe r2 = .ok (.val (g a)) r3 ∧ wipeR r3 vs = r0) → lcL t none fe vs (xs.map enc) acc r0 = .ok (acc ++ xs.map g) r0
  | [], acc, _, _ => by simp [lcL]
  | a :: xs, acc, hl, hs => by
    simp only [List.length_cons] at hl
    obtain ⟨r2, e1, r3, e2, e3⟩ := hs a List.mem_cons_self
    rw [List.map_cons]
    unfold lcL
    rw [e1]
    show (match cSet fe r2 with | .ok (.val e) r3 => if acc.length < 16777216 then lcL t none fe vs (xs.map enc) (acc ++ [e]) (wipeR r3 vs) else .bad | _ => LO.bad) = _
    rw [e2]
    show (if acc.length < 16777216 then lcL t none fe vs (xs.map enc) (acc ++ [g a]) (wipeR r3 vs) else LO.bad) = _
    rw [if_pos (by omega), e3, lcL_all xs (acc ++ [g a]) (by rw [List.length_append, List.length_singleton]; omega) (fun x hx => hs x (List.mem_cons_of_mem _ hx)), List.append_assoc]
    rfl
theorem lc_all {α : Type} {enc g : α → D} {fi : Iv} {t : Tg} {fe : Ev} {vs : List Nat} {r r1 r0 : Rho} (xs : List α) (hi : fi r = .ok (xs.map enc) r1) (h0 : wipeR r1 vs = r0) (hl : xs.length < 16777216)
    (hs : ∀ a ∈ xs, ∃ r2, tgt t (enc a) r0 = some r2 ∧ ∃ r3, cSet fe r2 = .ok (.val (g a)) r3 ∧ wipeR r3 vs = r0) : cLc vs t fi none fe r = .ok (.val (.node .lst true (xs.map g))) (backR r1 r0 vs) := by
  rw [q_lc, hi]
  show (match lcL t none fe vs (xs.map enc) [] (wipeR r1 vs) with | .ok acc r2 => EO.ok (.val (.node .lst true acc)) (backR r1 r2 vs) | .bad => .bad) = _
  rw [h0, lcL_all xs [] (by simpa using hl) hs]
  rfl
end VH

namespace VL
open PySem PySem.Spec PyProof PyProof.Rows L2
section
variable {X : Cx}
end
section
variable {X : Cx} {G : GX} {C : Fc} {W : WX} {ow ow' : Ow} {r : Rho} {T T1 T2 : List (D × V)} {s : L2.St} {H H' : Hp} {fa fb fc : Ev}
end
end VL

namespace VH
section
variable {fa fb fl fh : Ev} {fs : Av} {r r1 r2 r3 : Rho} {x : R} {d : D} {b : Bool} {i j : Int} {k : Kd} {o : Bool} {xs xs' : List D}
theorem isiC_go {c : Nat} {E : ETab} (h : fa r = .ok x r1) (ho : opd r1 x = some d) (hb : isi1 E d (.cls c) = some b) : cB (gIsi E) (cCons fa (cCons (cC (.cls c)) cNil)) r = .ok (.val (.bl b)) r1 := by
  rw [q_B, cons_ok h (cons_ok (cc_d _ _) (nil_ok r1)), q_abd1]
  show (match opd r1 x with | some d => (match isi1 E d (.cls c) with | some b => EO.ok (.val (.bl b)) r1 | none => .bad) | none => .bad) = _
  rw [ho]
  show (match isi1 E d (.cls c) with | some b => EO.ok (.val (.bl b)) r1 | none => .bad) = _
  rw [hb]
theorem it_rng3 {fc : Ev} {z : Int} (h : fa r = .ok (.val (.int i)) r1) (h2 : fb r1 = .ok (.val (.int j)) r2) (h3 : fc r2 = .ok (.val (.int z)) r3) (hc : (decide (z ≠ 0) && decide (z.natAbs < 1073741824) && Builtin.Range.small i j z) = true) : iRng rngI3 (cCons fa (cCons fb (cCons fc cNil))) r = .ok (rngD i z (turns i j z)) r3 := by
  rw [q_iRng, cons_ok h (cons_ok h2 (cons_ok h3 (nil_ok r3)))]
  show (if (decide (z ≠ 0) && decide (z.natAbs < 1073741824) && Builtin.Range.small i j z) = true then IO.ok (rngD i z (turns i j z)) r3 else .bad) = _
  rw [if_pos hc]
end
end VH
namespace VH
end VH
namespace VH
theorem ixA_go {fa fb : Ev} {r r1 r2 : Rho} {x : R} {k : Kd} {o : Bool} {xs : List D} {n : Int} {d : D} (h : fa r = .ok x r1) (h2 : fb r1 = .ok (.val (.int n)) r2) (ho : opd r2 x = some (.node k o xs)) (hk : sq3 k = true) (hd : atI xs n = some d) (a : atom d = true) : cBin gIx fa fb r = .ok (.val d) r2 := by
  refine bin_ok h h2 ?_
  have z : gIx x (.val (.int n)) r2 = pick r2 x d := by
    rw [q_ix, ho]
    cases k <;> first | (cases hk; done) | (show (match atI xs n with | some d => pick r2 x d | none => EO.bad) = _; rw [hd])
  rw [z, q_pick, if_pos a]
end VH

namespace L2
open PySem PySem.Spec PyProof.Rows
section
variable {P : Program} {w : World} {A : Around} {E : Value → Shared → Prop} {s : Shared}
end
section
variable {X : Cx}
end
end L2
namespace VL
open PySem PySem.Spec PyProof.Rows L2
section
variable {X : Cx} {G : GX} {C : Fc} {W : WX} {ow ow' : Ow} {r : Rho} {T T1 T2 : List (D × V)} {s : L2.St} {H H' : Hp} {fa fb fc : Ev}
end
end VL

namespace L2
open PySem PySem.Spec PyProof.Rows
section
variable {X : Cx} {CX : CXT} {k : Nat} {f C : Addr} {fd : FuncData} {ps : List Str} {sp : Sp} {E : L2.St → XK} {x m : Str} {p pos apos : Pos} {e o : Expr} {es : List Expr} {ta : TE} {t : TA}
end
end L2
namespace VL
open PySem PySem.Spec PyProof.Rows L2
section
variable {P : Program} {w : World} {K : PySem.W.Frag} {mg : Str → Option Value} {base : Heap} {G : GX}
end
section
variable {X : Cx} {G : GX} {C : Fc} {W : WX} {ow ow' : Ow} {r : Rho} {T T1 T2 : List (D × V)} {s : L2.St} {H H' : Hp} {fa fo : Ev} {fs : Av}
variable {fb fd fk fz : Ev}
end
end VL
namespace VH
section
variable {fa fb fo fk fz fd : Ev} {fs : Av} {r r1 r2 r3 : Rho} {x : R} {d e : D}
end
end VH

namespace LamY
open PySem PySem.Spec PyProof.Rows L2 LamX
structure LamS1 (sc scope : Scope) (a : Str) : Prop where
  kind : scope.kind = .function
  co : scope.isCoroutine = false
  gen : scope.isGenerator = false
  par : scope.names.lookup a = some .local
  own : ∀ y ∈ scope.names, (y.2 = .local → y.1 = a) ∧ y.2 ≠ .cell
  free : ∀ y ∈ scope.names, y.2 = .free → sc.names.lookup y.1 = some .cell ∨ sc.names.lookup y.1 = some .free
theorem LamS1.has {X : Cx} {scope : Scope} {a : Str} (L : LamS1 X.env.scope scope a) (ok : X.Ok) : ∀ y ∈ scope.names, y.2 = .free → ∃ c, X.env.cells.lookup y.1 = some c := fun y hy e => by
  rcases L.free y hy e with k | k
  · exact ok.has _ (.inl k)
  · exact ok.has _ (.inr k)
section
variable {X : Cx} {pins : List (Addr × Obj)} {σ : L2.St} {H : Hp} {s : Shared}
end
end LamY

namespace LamY
open PySem PySem.Spec PySem.Calls PySem.W PyProof.Rows L2 LamX SrtO
section
variable {prog : Program} {w : World} {A : Around} {E : Value → Shared → Prop} {s : Shared} {a kS : Addr} {keys : Array Value} {e e1 : Nat} {P : PySem.Fin → Shared → Prop} {vs : List Value} {k : Value → List Int}
end
end LamY

namespace LamY
open PySem PySem.Spec PySem.Calls PySem.W PyProof.Rows L2 LamX SrtO
section
variable {X : Cx} {pins pins' : List (Addr × Obj)} {σ : L2.St} {H : Hp} {s : Shared}
end
section
variable {X : Cx} {pins : List (Addr × Obj)} {σ : L2.St} {H1 : Hp} {s : Shared}
end
end LamY

namespace LamY
open PySem PySem.Spec PySem.Calls PySem.W PyProof.Rows L2 LamX SrtO
section
variable {X : Cx} {pins : List (Addr × Obj)} {σ : L2.St} {H : Hp} {s : Shared}
end
end LamY

namespace LamY
open PySem PySem.Spec PySem.Calls PySem.W PyProof.Rows L2 LamX SrtO
section
variable {X : Cx} {pins : List (Addr × Obj)} {σ : L2.St} {H1 : Hp} {s : Shared}
end
end LamY
namespace VL
open PySem PySem.Spec PySem.Calls PySem.W PyProof.Rows L2 LamX LamY
section
variable {X : Cx} {G : GX} {C : Fc} {W : WX} {ow ow' : Ow} {r : Rho} {T T1 T2 : List (D × V)} {s : L2.St} {H H' : Hp} {fa fe fk : Ev}
end
end VL

namespace VL
open PySem PySem.Spec PyProof.Rows L2 LamX LamY
structure FunC (K : PySem.W.Frag) (x qual : Str) (st : Stmt) (f : Addr) (fd : FuncData) (cdv : Value) : Prop where
  ex : ∃ (oc : Value) (od : Option Addr) (kV doc pm : Value) (an : Option Addr) (ct : Value) (osl : Array (Option Value)),
    fd = PySem.W.fnOf x qual (defArgs st) (defBody st) (defScope st) .none kV doc pm an cdv ct ∧ K.lookup f = some ⟨oc, od, .func fd, osl⟩ ∧ PySem.W.codeIn K cdv qual = true
  kp : PySem.W.keepIn K (.ref f) = true
section
variable {P : Program} {w : World} {K : PySem.W.Frag} {mg : Str → Option Value} {base : Heap} {G : GX}
theorem FunC.fn {x qual : Str} {st : Stmt} {f : Addr} {fd : FuncData} {cdv : Value} (F : FunC K x qual st f fd cdv) : Fun K x qual st f fd := by
  obtain ⟨oc, od, kV, doc, pm, an, ct, osl, e, lk, hcd⟩ := F.ex
  exact ⟨⟨oc, od, kV, doc, pm, an, cdv, ct, osl, e, lk, hcd⟩, F.kp⟩
theorem FunC.okX {x qual : Str} {st : Stmt} {f : Addr} {fd : FuncData} {N ps : List Str} {k : Nat} {sp : Sp} {cdv : Value} (F : FunC K x qual st f fd cdv) (S : FnScope N ps (defScope st)) (len : ∀ vs H Q E, sp vs H Q E → vs.length = ps.length)
    (hbody : ∀ (A : Around) (outer : List Env) (s : Shared) (H : Hp) (vs : List V) (Q : VK) (E : XK), Room k (A.deeper (envOfC qual (defScope st) s.heap.objs.size f cdv)) → sp vs H Q E →
      ∃ t, PSs (cxOf (L2.CX P w) P w K mg base N qual (defScope st) f cdv A outer s H E) (defBody st) t ∧ t { nx := fun _ H' => Q .non H', rt := Q } (start N vs) H) : FnOk P w K mg base (L2.CX P w) (k + 1) f fd ps sp := by
  obtain ⟨oc, od, kV, doc, pm, an, ct, osl, rfl, lk, hcd⟩ := F.ex
  exact fn_of lk hcd S len fun A outer s H vs Q E hr hsp => hbody A outer s H vs Q E hr hsp
end
end VL

namespace VL
open PySem PySem.Spec PyProof.Rows L2
section
variable {X : Cx}
end
end VL

namespace VL
open PySem PySem.Spec PyProof.Rows L2
section
variable {X : Cx} {G : GX} {C : Fc} {W : WX} {ow : Ow} {r : Rho} {T : List (D × V)} {s : L2.St} {H : Hp} {fk f1 f2 ft : Ev}
end
end VL

namespace VL
open PySem PySem.Spec PyProof.Rows L2
section
variable {X : Cx} {G : GX} {C : Fc} {W : WX} {ow ow' : Ow} {r : Rho} {T T1 T2 : List (D × V)} {s : L2.St} {H H' : Hp} {fa : Ev}
end
end VL

namespace VL
open PySem PySem.Spec PyProof.Rows L2
section
variable {X : Cx} {G : GX} {C C' : Fc} {W : WX} {ow ow' : Ow} {r : Rho} {T T1 T2 : List (D × V)} {s : L2.St} {H H' : Hp} {fa fk : Ev}
def scV : D → V
  | .int i => .int i
  | .bl b => .bl b
  | .str x => .str x
  | _ => .non
def Fc.lk (C : Fc) (H : Hp) (ow : Ow) (i : Nat) (a : Addr) : Fc := ⟨H, fun b => ∃ l, ow b = some l ∧ l.b ≠ .fo ∧ b ≠ a, C.fo, (i, .ref a) :: (i, .ref a) :: C.pin⟩
mutual
theorem Rep.unlk {G : GX} {H H' : Hp} {ow ow' : Ow} {a : Addr} {od : Obj} {kvs : List (L2.Key × V)} (hne : ∀ b, b ≠ a → H' b = H b) (how : ∀ b, b ≠ a → ow' b = ow b) (ha : H a = some (.frz od (.dK kvs))) : ∀ (d : D) {l : Loc} {v : V}, Rep G ow H d l v → Rep G ow' H' d l v
  | .any, _, _, _ => trivial
  | .non, _, _, h => h
  | .bl _, _, _, h => h
  | .int _, _, _, h => h
  | .str _, _, _, h => h
  | .exc c, _, _, h => by
    obtain ⟨b, e, q⟩ := h
    have nb : b ≠ a := fun z => by subst z; rw [ha] at q; cases q
    exact ⟨b, e, by rw [hne b nb]; exact q⟩
  | .ty _, _, _, h => h
  | .cls _, _, _, h => h
  | .node k o xs, l, v, h => by
    obtain ⟨b, vs, ev, h1, h2, h3⟩ := h
    have h3' := Reps.unlk hne how ha xs h3
    cases k with
    | lst =>
      have h1 : H b = some (.lst vs) := h1
      have nb : b ≠ a := fun z => by subst z; rw [ha] at h1; cases h1
      exact ⟨b, vs, ev, (hne b nb).trans h1, by rw [how b nb]; exact h2, h3'⟩
    | tup =>
      have h1 : H b = some (.tup vs) := h1
      have nb : b ≠ a := fun z => by subst z; rw [ha] at h1; cases h1
      exact ⟨b, vs, ev, (hne b nb).trans h1, by rw [how b nb]; exact h2, h3'⟩
    | rd =>
      refine ⟨b, vs, ev, ?_, trivial, h3'⟩
      rcases h1 with ⟨o2, h1⟩ | h1
      · have nb : b ≠ a := fun z => by subst z; rw [ha] at h1; cases h1
        exact .inl ⟨o2, (hne b nb).trans h1⟩
      · exact .inr h1
    | dK ks =>
      obtain ⟨h1, h4⟩ : H b = some (.dK (ks.zip vs)) ∧ ks.length = vs.length := h1
      have nb : b ≠ a := fun z => by subst z; rw [ha] at h1; cases h1
      exact ⟨b, vs, ev, ⟨(hne b nb).trans h1, h4⟩, by rw [how b nb]; exact h2, h3'⟩
    | dT ks =>
      obtain ⟨h1, h4⟩ : H b = some (.dT (ks.zip vs)) ∧ ks.length = vs.length := h1
      have nb : b ≠ a := fun z => by subst z; rw [ha] at h1; cases h1
      exact ⟨b, vs, ev, ⟨(hne b nb).trans h1, h4⟩, by rw [how b nb]; exact h2, h3'⟩
    | ins c fs =>
      obtain ⟨⟨dx, h1⟩, h4⟩ : (∃ dx, H b = some (.ins (G c) dx (fs.zip vs))) ∧ fs.length = vs.length := h1
      have nb : b ≠ a := fun z => by subst z; rw [ha] at h1; cases h1
      exact ⟨b, vs, ev, ⟨⟨dx, (hne b nb).trans h1⟩, h4⟩, by rw [how b nb]; exact h2, h3'⟩
theorem Reps.unlk {G : GX} {H H' : Hp} {ow ow' : Ow} {a : Addr} {od : Obj} {kvs : List (L2.Key × V)} (hne : ∀ b, b ≠ a → H' b = H b) (how : ∀ b, b ≠ a → ow' b = ow b) (ha : H a = some (.frz od (.dK kvs))) : ∀ (ds : List D) {l : Loc} {i : Nat} {vs : List V}, Reps G ow H ds l i vs → Reps G ow' H' ds l i vs
  | [], _, _, _, h => h
  | d :: ds, _, _, _, h => by
    obtain ⟨v, ws, e, h1, h2⟩ := h
    exact ⟨v, ws, e, Rep.unlk hne how ha d h1, Reps.unlk hne how ha ds h2⟩
end
end
end VL

namespace VL
open PySem PySem.Spec PyProof.Rows L2
section
variable {X : Cx} {G : GX} {C C' : Fc} {W : WX} {ow ow' : Ow} {r : Rho} {T T1 T2 : List (D × V)} {s : L2.St} {H H' : Hp} {fa fk : Ev}
end
section
variable {X : Cx} {G : GX} {C C' : Fc} {W : WX} {ow ow' : Ow} {r : Rho} {T T1 T2 : List (D × V)} {s : L2.St} {H H' : Hp} {fa fk : Ev}
end
end VL

namespace VL
open PySem PySem.Spec PyProof.Rows L2
section
variable {X : Cx} {G : GX} {C C' : Fc} {W : WX} {ow ow' : Ow} {r : Rho} {T T1 T2 : List (D × V)} {s : L2.St} {H H' : Hp} {fa fk : Ev}
end
end VL

namespace VL
open PySem PySem.Spec PyProof.Rows L2
section
variable {X : Cx} {G : GX} {C C' : Fc} {W : WX} {ow ow' : Ow} {r : Rho} {T T1 T2 : List (D × V)} {s : L2.St} {H H' : Hp} {fa fb fc fk fv : Ev} {fs : Av} {f g : Sv}
def augIK (i : Nat) (c : Int) (f : Int → Int → Int) (y : R) (r1 : Rho) : SO := match opd r1 y, r1[i]? with
  | some (.int k), some (some (.node .lst true ds)) => (match ixN ds.length k with
    | some j => (match ds[j]? with
      | some (.int n) => .nx (r1.set i (some (.node .lst true (ds.set j (.int (f n c))))))
      | _ => .bad)
    | none => .bad)
  | _, _ => .bad
def putP (q : List L2.Key × List D) (p : L2.Key × D) : List L2.Key × List D := match dix q.1 p.1 with
  | some j => (q.1, q.2.set j p.2)
  | none => (q.1 ++ [p.1], q.2 ++ [p.2])
structure DOk (q : List L2.Key × List D) : Prop where
  nd : q.1.Nodup
  ln : q.1.length = q.2.length
  sc : q.2.all scal = true
theorem all_set {xs : List D} {d : D} {j : Nat} (h : xs.all scal = true) (hd : scal d = true) : (xs.set j d).all scal = true := by
  rw [List.all_eq_true] at *
  intro x hx
  rcases List.mem_or_eq_of_mem_set hx with z | z
  · exact h x z
  · rw [z]; exact hd
theorem DOk.put {q : List L2.Key × List D} {k : L2.Key} {d : D} (h : DOk q) (hd : scal d = true) : DOk (putP q (k, d)) ∧ putK (q.1.zip (q.2.map scV)) k (scV d) = (putP q (k, d)).1.zip ((putP q (k, d)).2.map scV) := by
  have hl : q.1.length = (q.2.map scV).length := by rw [List.length_map]; exact h.ln
  unfold putP
  cases e : dix q.1 k with
  | some j =>
    refine ⟨⟨h.nd, by show q.1.length = (q.2.set j d).length; rw [List.length_set]; exact h.ln, all_set h.sc hd⟩, ?_⟩
    rw [put_some hl h.nd e]
    show _ = q.1.zip ((q.2.set j d).map scV)
    rw [List.map_set]
  | none =>
    refine ⟨⟨?_, by show (q.1 ++ [k]).length = (q.2 ++ [d]).length; simp [h.ln], ?_⟩, ?_⟩
    · show (q.1 ++ [k]).Nodup
      rw [List.nodup_append]
      refine ⟨h.nd, by simp, fun a ha b hb e2 => ?_⟩
      rw [List.mem_singleton.mp hb] at e2
      exact dix_none.mp e (e2 ▸ ha)
    · show (q.2 ++ [d]).all scal = true
      rw [List.all_append, h.sc]
      simp [hd]
    · rw [put_none hl e]
      show _ = (q.1 ++ [k]).zip ((q.2 ++ [d]).map scV)
      rw [List.map_append]
      rfl
end
end VL

namespace VL
open PySem PySem.Spec PyProof.Rows L2
section
variable {prog : Program} {w : World} {A : Around} {E : Value → Shared → Prop} {s : Shared}
end
section
variable {X : Cx} {G : GX} {C : Fc} {W : WX} {ow ow' : Ow} {r : Rho} {T T1 T2 : List (D × V)} {s : L2.St} {H H' : Hp}
end
end VL

namespace VL
open PySem PySem.Spec PyProof.Rows L2
section
variable {X : Cx} {G : GX} {C C' : Fc} {W : WX} {ow ow' : Ow} {r : Rho} {T T1 T2 : List (D × V)} {s : L2.St} {H H' : Hp} {fa fb fc fk : Ev} {fs : Av} {f g : Sv} {i j n : Nat}
def cRvs (i : Nat) : Ev := fun r => match r[i]? with
  | some (some (.node .lst true ds)) => .ok (.val .non) ((r.set i (some (.node .lst true (frzs ds)))).set i (some (.node .lst true (frzs ds).reverse)))
  | _ => .bad
def HbOk (G : GX) (C : Fc) (i j n : Nat) (r : Rho) (T : List (D × V)) (s : L2.St) (H : Hp) : Prop :=
  StOk G C r T s H ∧ ∃ (a : Addr) (vs : List V) (v : V), s[i]? = some (some (.ref a)) ∧ H a = some (.lst vs) ∧ vs[n]? = some v ∧ s[j]? = some (some v)
def GoesB (G : GX) (C : Fc) (T : List (D × V)) (D : Ends) (i j n : Nat) (o : SO) : Prop := match o with
  | .nx r' => ∀ s' H', HbOk G C i j n r' T s' H' → D.nx s' H'
  | _ => False
def tVB (G : GX) (C : Fc) (i j n : Nat) (f : Sv) : TS := fun D s H => ∃ r T, HbOk G C i j n r T s H ∧ GoesB G C T D i j n (f r)
abbrev VB (X : Cx) (G : GX) (C : Fc) (i j : Nat) (st : Stmt) (f : Sv) : Prop := ∀ n, PS X st (tVB G C i j n f)
def cAppH (i : Nat) (fa : Ev) : Sv := fun r => match r[i]? with
  | some (some (.node .lst true ds)) => (match cSet fa (r.set i (some .any)) with
    | .ok (.val d) r2 => if ds.length < 16777216 then .nx (r2.set i (some (.node .lst true (ds ++ [d])))) else .bad
    | _ => .bad)
  | _ => .bad
theorem vb_app {x : Str} {e : Expr} {p apos cpos pos : Pos} (hN : X.N[i]? = some x) (hv : Vis X.env.scope x) (hd : (x == ("__debug__" : Str)) = false) (hcd : (x == ("__classdict__" : Str)) = false)
    (ha : ∀ C' : Fc, (∃ u v, C'.pin = (i, v) :: (i, u) :: C.pin) → VE X G C' W e fa)
    (hbase : attributeBase (.Name x p) "append" X.env (eval (.Name x p) X.env) = eval (.Name x p) X.env := by rfl)
    (hfew : ((backTo cpos (starEach [e] X.env)).all (fun x => !x.1) && (backToKw cpos (keywordEach [] X.env)).all (fun x => x.1.isSome)
      && decide ([e].length + ([] : List Keyword).length + (if ([] : List Keyword).isEmpty then 0 else 1) < 30)) = true := by rfl)
    (hline : (apos.endLine == cpos.line) = true := by rfl) (hs : starEach [e] X.env = (false, eval e X.env) :: starEach [] X.env := by rfl) (hplain : (backTo cpos (starEach [] X.env)).any (·.1) = false := by rfl)
    (hsw : swapsWith (.Call (.Attribute (.Name x p) "append" apos) [e] [] cpos) none pos.line X.env = pure false := by rfl) :
    VB X G C i j (.Expr (.Call (.Attribute (.Name x p) "append" apos) [e] [] cpos) pos) (cAppH i fa) := fun n => by
  have he : PE X e (fun s H Q => ∃ C' : Fc, (∃ u v, C'.pin = (i, v) :: (i, u) :: C.pin) ∧ tV G C' W (cSet fa) s H Q) := ⟨fun pins s σ H Q I w => by
    obtain ⟨C', e', w⟩ := w
    exact (ve_set (ha C' e')).run pins s σ H Q I w⟩
  refine PS.imp (ps_expr (pe_bm PySem.F.plainAttrs_list PySem.F.slot_list_append PySem.F.type_list_append mt_append (pe_var hN hv hd hcd) (pa_cons he pa_nil hs) hbase hfew hline hs hplain) hsw) fun D s H h => ?_
  obtain ⟨r, T, ⟨S, a, vs, v, v1, hA, hn, hj⟩, g⟩ := h
  unfold cAppH at g
  split at g
  · rename_i ds q
    obtain ⟨ow, S0⟩ := S
    have hkr : isR Kd.lst ≠ true := fun z => nomatch z
    have hH : Holds G H a .lst vs := hA
    have one : ∀ {H : Hp} {us : List V}, Holds G H a .lst vs → Holds G H a .lst us → us = vs := fun {H us} h1 h2 => by
      have h1 : H a = some (.lst vs) := h1
      have h2 : H a = some (.lst us) := h2
      rw [h1] at h2
      injection h2 with h2; injection h2 with h2; exact h2.symm
    have S3 := S0.lend v1 v1
    refine ⟨_, v1, .inl ⟨rfl, vs, SqL.of hA⟩, _, ⟨_, _, rfl⟩, r.set i (some .any), T, ⟨_, S3⟩, ?_⟩
    cases e3 : cSet fa (r.set i (some .any)) with
    | bad => simp only [e3] at g; exact g.elim
    | exc c r2 => simp only [e3] at g; exact g.elim
    | ok x r2 =>
      simp only [e3] at g
      cases x with
      | loc l => exact g.elim
      | val dv =>
        simp only at g
        split at g
        · rename_i hz
          intro v' H4 P4
          obtain ⟨⟨ow4, S4⟩, _⟩ := P4
          obtain ⟨S5, hA5, s5⟩ := S0.unlend0 q hkr v1 hH (fun us h => one hH h) S4
          have S5 : StW G C (unl0 ow ow4 i) (r2.set i (some (.node .lst true ds))) (T ++ [(dv, v')]) s H4 := by simpa [pushR] using S5
          have hA5 : H4 a = some (.lst vs) := hA5
          have hil2 : i < r2.length := by
            have := S5.len
            have h2 := (List.getElem?_eq_some_iff.mp v1).1
            simp at this; omega
          obtain ⟨vs', w1, w2, S6⟩ := StW.into S5 (List.getElem?_set_self hil2) v1 (.inr ⟨rfl, rfl⟩)
          have ev : vs' = vs := by
            rw [hA5] at w1
            injection w1 with w1; injection w1 with w1; exact w1.symm
          subst ev
          rw [if_neg (Nat.lt_irrefl _), List.set_set] at S6
          refine ⟨a, vs', v', rfl, rfl, hA5, by rw [w2, sizeLine_eq]; exact hz, ?_⟩
          refine g s _ ⟨⟨_, S6⟩, a, _, v, v1, upd_same, ?_, hj⟩
          rw [List.getElem?_append_left (List.getElem?_eq_some_iff.mp hn).1]
          exact hn
        · exact g.elim
  · exact g.elim
theorem HbOk.fin {ds2 : List D} {d2 : D} (h : HbOk G C i j n r T s H) (hij : i ≠ j) (q : r[i]? = some (some (.node .lst true ds2))) (q2 : r[j]? = some (some d2)) : StOk G C ((r.set j (some .any)).set i (some (.node .lst true (ds2.set n d2)))) T s H := by
  obtain ⟨⟨ow, S⟩, a, vs, v, v1, hA, hn, hj⟩ := h
  obtain ⟨v', z1, S2⟩ := S.pull q2
  rw [hj] at z1
  cases z1
  exact ⟨_, S2.giveBack (k := .lst) (o := true) (by rw [List.getElem?_set_ne (Ne.symm hij)]; exact q) v1 (fun z => nomatch z) hA hn (fun us h2 => by
    have h2 : H a = some (.lst us) := h2
    rw [hA] at h2
    injection h2 with h2; injection h2 with h2; exact h2.symm)⟩
end
end VL

namespace VL
open PySem PySem.Spec PyProof.Rows L2
section
variable {X : Cx} {G : GX} {C C' : Fc} {W : WX} {ow ow' : Ow} {r : Rho} {T T1 T2 : List (D × V)} {s : L2.St} {H H' : Hp} {fa fb fc fk fo : Ev} {fs : Av} {f g : Sv} {i j n : Nat}
end
end VL

namespace VL
open PySem PySem.Spec PyProof.Rows L2
section
variable {X : Cx} {G : GX} {C : Fc} {W : WX} {ow ow' : Ow} {r : Rho} {T T1 T2 : List (D × V)} {s : L2.St} {H H' : Hp} {fa fb fc fk : Ev} {f g : Sv} {fs : Av}
def okT (ks : List (List L2.Key)) : Prop := ks.Nodup ∧ ks.length < 16777216
instance (ks : List (List L2.Key)) : Decidable (okT ks) := by unfold okT; exact inferInstance
end
end VL

namespace VL
open PySem PySem.Spec PyProof.Rows L2
abbrev T3 := Int × Int × Int
section
variable {prog : Program} {w : World} {A : Around}
end
end VL

namespace VL
open PySem PySem.Spec PyProof.Rows L2
section
variable {X : Cx} {G : GX} {C C' : Fc} {W : WX} {ow ow' : Ow} {r : Rho} {T T1 T2 : List (D × V)} {s : L2.St} {H H' : Hp} {fa fk : Ev}
mutual
theorem Rep.unlkT {G : GX} {H H' : Hp} {ow ow' : Ow} {a : Addr} {od : Obj} {kvs : List ((List L2.Key) × V)} (hne : ∀ b, b ≠ a → H' b = H b) (how : ∀ b, b ≠ a → ow' b = ow b) (ha : H a = some (.frz od (.dT kvs))) : ∀ (d : D) {l : Loc} {v : V}, Rep G ow H d l v → Rep G ow' H' d l v
  | .any, _, _, _ => trivial
  | .non, _, _, h => h
  | .bl _, _, _, h => h
  | .int _, _, _, h => h
  | .str _, _, _, h => h
  | .exc c, _, _, h => by
    obtain ⟨b, e, q⟩ := h
    have nb : b ≠ a := fun z => by subst z; rw [ha] at q; cases q
    exact ⟨b, e, by rw [hne b nb]; exact q⟩
  | .ty _, _, _, h => h
  | .cls _, _, _, h => h
  | .node k o xs, l, v, h => by
    obtain ⟨b, vs, ev, h1, h2, h3⟩ := h
    have h3' := Reps.unlkT hne how ha xs h3
    cases k with
    | lst =>
      have h1 : H b = some (.lst vs) := h1
      have nb : b ≠ a := fun z => by subst z; rw [ha] at h1; cases h1
      exact ⟨b, vs, ev, (hne b nb).trans h1, by rw [how b nb]; exact h2, h3'⟩
    | tup =>
      have h1 : H b = some (.tup vs) := h1
      have nb : b ≠ a := fun z => by subst z; rw [ha] at h1; cases h1
      exact ⟨b, vs, ev, (hne b nb).trans h1, by rw [how b nb]; exact h2, h3'⟩
    | rd =>
      refine ⟨b, vs, ev, ?_, trivial, h3'⟩
      rcases h1 with ⟨o2, h1⟩ | h1
      · have nb : b ≠ a := fun z => by subst z; rw [ha] at h1; cases h1
        exact .inl ⟨o2, (hne b nb).trans h1⟩
      · exact .inr h1
    | dK ks =>
      obtain ⟨h1, h4⟩ : H b = some (.dK (ks.zip vs)) ∧ ks.length = vs.length := h1
      have nb : b ≠ a := fun z => by subst z; rw [ha] at h1; cases h1
      exact ⟨b, vs, ev, ⟨(hne b nb).trans h1, h4⟩, by rw [how b nb]; exact h2, h3'⟩
    | dT ks =>
      obtain ⟨h1, h4⟩ : H b = some (.dT (ks.zip vs)) ∧ ks.length = vs.length := h1
      have nb : b ≠ a := fun z => by subst z; rw [ha] at h1; cases h1
      exact ⟨b, vs, ev, ⟨(hne b nb).trans h1, h4⟩, by rw [how b nb]; exact h2, h3'⟩
    | ins c fs =>
      obtain ⟨⟨dx, h1⟩, h4⟩ : (∃ dx, H b = some (.ins (G c) dx (fs.zip vs))) ∧ fs.length = vs.length := h1
      have nb : b ≠ a := fun z => by subst z; rw [ha] at h1; cases h1
      exact ⟨b, vs, ev, ⟨⟨dx, (hne b nb).trans h1⟩, h4⟩, by rw [how b nb]; exact h2, h3'⟩
theorem Reps.unlkT {G : GX} {H H' : Hp} {ow ow' : Ow} {a : Addr} {od : Obj} {kvs : List ((List L2.Key) × V)} (hne : ∀ b, b ≠ a → H' b = H b) (how : ∀ b, b ≠ a → ow' b = ow b) (ha : H a = some (.frz od (.dT kvs))) : ∀ (ds : List D) {l : Loc} {i : Nat} {vs : List V}, Reps G ow H ds l i vs → Reps G ow' H' ds l i vs
  | [], _, _, _, h => h
  | d :: ds, _, _, _, h => by
    obtain ⟨v, ws, e, h1, h2⟩ := h
    exact ⟨v, ws, e, Rep.unlkT hne how ha d h1, Reps.unlkT hne how ha ds h2⟩
end
end
end VL

namespace VL
open PySem PySem.Spec PyProof.Rows L2
section
variable {prog : Program} {w : World} {A : Around} {E : Value → Shared → Prop} {s : Shared}
end
section
variable {X : Cx} {G : GX} {C : Fc} {W : WX} {ow ow' : Ow} {r : Rho} {T T1 T2 : List (D × V)} {s : L2.St} {H H' : Hp}
end
end VL

namespace VL
open PySem PySem.Spec PyProof PyProof.Rows L2
section
variable {prog : Program} {w : World} {A : Around} {E : Value → Shared → Prop} {s : Shared}
end
section
variable {X : Cx} {G : GX} {C : Fc} {W : WX} {ow : Ow} {r : Rho} {T : List (D × V)} {s : L2.St} {H : Hp} {fa fb : Ev}
end
section
variable {fa fb : Ev} {r r1 r2 r3 : Rho}
end
end VL

namespace VL
open PySem PySem.Spec PyProof PyProof.Rows L2
section
variable {X : Cx} {G : GX} {C : Fc} {W : WX} {ow : Ow} {r : Rho} {T : List (D × V)} {s : L2.St} {H : Hp} {fa fb : Ev}
end
end VL

namespace VL
open PySem PySem.Spec PyProof PyProof.Rows L2
section
variable {X : Cx} {G : GX} {C : Fc} {W : WX} {ow : Ow} {r : Rho} {T : List (D × V)} {s : L2.St} {H : Hp} {fa : Ev}
end
end VL

namespace VL
open PySem PySem.Spec PyProof PyProof.Rows L2
end VL

namespace VL
open PySem PySem.Spec PyProof PyProof.Rows L2
section
variable {X : Cx} {G : GX} {C : Fc} {W : WX} {ow : Ow} {r : Rho} {T : List (D × V)} {s : L2.St} {H : Hp} {fa fb : Ev}
end
end VL

namespace ZL
open PySem PySem.Spec PyProof PyProof.Rows L2
section
variable {prog : Program} {w : World} {A : Around} {E : Value → Shared → Prop} {s : Shared}
def TA (h : Heap) (base : Addr) (xs ys : Array Value) (as : List Addr) : Prop :=
  as.Pairwise (· < ·) ∧ ∀ (j : Nat) (c : Addr), as[j]? = some c → base ≤ c ∧ c < h.objs.size ∧ ∃ x y, xs[j]? = some x ∧ ys[j]? = some y ∧ IsPair h c x y
theorem TA.keep {h h' : Heap} {base : Addr} {xs ys : Array Value} {as : List Addr} (t : TA h base xs ys as) (hk : ∀ c o, base ≤ c → h.get? c = some o → h'.get? c = some o) : TA h' base xs ys as := by
  refine ⟨t.1, fun j c hj => ?_⟩
  obtain ⟨h1, h2, x, y, h3, h4, h5⟩ := t.2 j c hj
  have h6 := hk c _ h1 h5
  exact ⟨h1, Heap.lt_size h6, x, y, h3, h4, h6⟩
theorem TA.snoc {h : Heap} {base c : Addr} {xs ys : Array Value} {as : List Addr} {x y : Value} (t : TA h base xs ys as) (hb : base ≤ c) (hc : ∀ d ∈ as, d < c) (hl : c < h.objs.size) (hx : xs[as.length]? = some x) (hy : ys[as.length]? = some y) (hp : IsPair h c x y) : TA h base xs ys (as ++ [c]) := by
  refine ⟨List.pairwise_append.mpr ⟨t.1, List.pairwise_singleton _ _, fun a ha b hb => by rw [List.mem_singleton.mp hb]; exact hc a ha⟩, fun j d hj => ?_⟩
  rcases Nat.lt_or_ge j as.length with q | q
  · rw [List.getElem?_append_left q] at hj
    exact t.2 j d hj
  · rw [List.getElem?_append_right q] at hj
    have hj0 : j - as.length = 0 := by
      rcases Nat.eq_zero_or_pos (j - as.length) with e | e
      · exact e
      · rw [List.getElem?_eq_none (by simp; omega)] at hj; cases hj
    rw [hj0] at hj
    cases hj
    have ej : j = as.length := by omega
    subst ej
    exact ⟨hb, hl, x, y, hx, hy, hp⟩
end
end ZL
namespace L2
open PySem PySem.Spec PyProof PyProof.Rows ZL
section
variable {X : Cx}
end
end L2
namespace VL
open PySem PySem.Spec PyProof PyProof.Rows L2
section
variable {X : Cx} {G : GX} {C : Fc} {W : WX} {ow : Ow} {r : Rho} {T : List (D × V)} {s : L2.St} {H : Hp} {fs : Av}
end
end VL

namespace VL
open PySem PySem.Spec PyProof.Rows L2
section
variable {X : Cx} {pins : List (Addr × Obj)} {Wout : WX} {D : Ends}
end

section
variable {X : Cx} {G : GX} {C : Fc} {W : WX} {ow ow' : Ow} {r : Rho} {T T1 T2 : List (D × V)} {s : L2.St} {H H' : Hp}
end
end VL

namespace VL
open PySem PySem.Spec PyProof.Rows L2
section
variable {X : Cx} {a b c d : Expr} {pos : Pos} {ta tb tc td : TE}
end
section
variable {X : Cx} {G : GX} {C : Fc} {W : WX} {ow ow' : Ow} {r : Rho} {T T1 T2 : List (D × V)} {s : L2.St} {H H' : Hp} {fa fb fc fd : Ev} {fs : Av} {f g h : Int → Int → Bool}
end
end VL

namespace VL
open PySem PySem.Spec PyProof.Rows L2
def maxDef (z : Int) : List Int → Int
  | [] => z
  | x :: xs => xs.foldl max x
def maxDefD (z : Int) (d : D) : Option D := (lstInts d).map fun ns => .int (maxDef z ns)
def rMaxDef (K : PySem.W.Frag) (z : Int) : List V → List V → Hp → VK → Prop := fun vs zs H Q => ∃ (a : Addr) (ns : List Int), vs = [V.ref a] ∧ zs = [V.int z] ∧ SqL K H a (ns.map V.int) ∧ Q (.int (maxDef z ns)) H
theorem reads_ints {h : Heap} : ∀ {vs : List Value} {ns : List Int}, IntsAre vs ns → ReadsAll h vs (ns.map (PySem.W.Datum.toD (α := Int))) []
  | _, _, .nil => .nil
  | _, _, .cons n t hh => ReadsAll.cons (as := []) (.int n t) (reads_ints hh)
theorem maxOf_int (x : Int) (xs : List Int) : PySem.W.maxOf x xs = xs.foldl max x := by
  unfold PySem.W.maxOf
  induction xs generalizing x with
  | nil => rfl
  | cons y ys ih =>
    rw [List.foldl_cons, List.foldl_cons, ih]
    congr 1
    show (if decide (x < y) = true then y else x) = max x y
    by_cases q : x < y
    · rw [if_pos (decide_eq_true q)]; omega
    · rw [decide_eq_false q, if_neg (by decide)]; omega
section
variable {X : Cx}
theorem cr_maxDef (z : Int) (hc : X.calm = true) (hu : X.A.units + 65 < cLine) : CallRK X (.builtin "max") [Str.ofString "default"] (rMaxDef X.K z) := by
  intro pins s σ H vs zs us ws Q I r rz h
  obtain ⟨a, ns, rfl, rfl, hs, q⟩ := h
  obtain ⟨its, rv, hl, _⟩ := I.list hs
  rw [Vals.ref1 r]
  obtain ⟨w1, rfl, t, rfl⟩ := vals1 rz
  refine PySem.W.max_list_datum_default (xs := ns) (I.ok.hd hc) hl.isList ⟨[], reads_ints rv.ints⟩ (by show X.A.units + 1 + 0 < _; omega) (fun e h' tk hk => ⟨.int z, H, I.kept hk, ⟨_, rfl⟩, by rw [e] at q; exact q⟩) fun y ys i v h' tk e hi hv hk => ?_
  obtain ⟨as, hv⟩ := hv
  obtain ⟨t', rfl, _⟩ := reads_int_inv hv
  refine ⟨.int (PySem.W.maxOf y ys), H, I.kept hk, ⟨_, rfl⟩, ?_⟩
  rw [maxOf_int]
  rw [e] at q
  exact q
end
section
variable {X : Cx} {G : GX} {C : Fc} {W : WX} {fs : Av} {x : Str} {p pos kp kp2 : Pos} {e : Expr}
theorem ve_maxDef {z : Int} {j} (hK : G.K = X.K) (hc : X.calm = true) (hu : X.A.units + 65 < cLine) (hg : Gl X x) (hm : X.mg x = none) (hv : bootBuiltins x = some (.builtin "max")) (ha : VA X G C W [e] fs) (hn : x ≠ "__name__" := by decide) (hdb : (x == ("__debug__" : Str)) = false := by decide)
    (he : backTo pos (starEach [e] X.env) = (false, eval e X.env) :: backTo pos (starEach [] X.env) := by rfl) (hpl : (backTo pos (starEach [e] X.env)).any (·.1) = false := by rfl)
    (hall : (backToKw pos (keywordEach [⟨some (Str.ofString "default"), .Constant (.int z) j kp, kp2⟩] X.env)).all (·.1.isSome) = true := by rfl) (hnone : (backToKw pos (keywordEach [⟨some (Str.ofString "default"), .Constant (.int z) j kp, kp2⟩] X.env)).any (·.1.isNone) = false := by rfl) (hks : (backToKw pos (keywordEach [⟨some (Str.ofString "default"), .Constant (.int z) j kp, kp2⟩] X.env)).filterMap (·.1) = [Str.ofString "default"] := by rfl) :
    VE X G C W (.Call (.Name x p) [e] [⟨some (Str.ofString "default"), .Constant (.int z) j kp, kp2⟩] pos) (cB (b1 (maxDefD z)) fs) := by
  refine PE.imp (pe_callBK (cr_maxDef z hc hu) hg hm hv ha (pk_cons pe_int pk_nil) hn hdb he hpl hall hnone hks) fun s H Q h => ?_
  obtain ⟨r, T, S, g⟩ := h
  refine many (T2 := []) (by simpa using S) g fun xs vs r1 H1 S1 l1 g1 => ?_
  show rMaxDef X.K z vs [V.int z] H1 Q
  unfold b1 at g1
  split at g1
  · rename_i x
    obtain ⟨v, ev, lx, ep⟩ := one_arg l1
    rw [List.append_nil, ep] at S1
    subst ev
    obtain ⟨ow, S1⟩ := S1
    cases e1 : opd r1 x with
    | none => simp only [e1] at g1; exact g1.elim
    | some d =>
      simp only [e1] at g1
      cases e2 : maxDefD z d with
      | none => simp only [e2] at g1; exact g1.elim
      | some w =>
        simp only [e2] at g1
        split at g1
        · rename_i a
          have rp := opd_rep (T2 := []) (by rw [List.append_nil]; exact S1) lx e1
          unfold maxDefD at e2
          cases e3 : lstInts d with
          | none => rw [e3] at e2; cases e2
          | some ns =>
            rw [e3] at e2
            obtain rfl : D.int (maxDef z ns) = w := Option.some.inj e2
            obtain ⟨ad, ev, hs⟩ := lstInts_rep X.K e3 rp
            exact ⟨ad, ns, by rw [ev], rfl, hs, g1 _ _ ⟨StOk.pushA ⟨ow, S1.drop⟩ a fun _ _ => rfl, trivial⟩⟩
        · exact g1.elim
  · exact g1.elim
end
theorem maxDef_ok {fa : Ev} {r r1 : Rho} {z : Int} {o : Bool} {ns : List Int} {x : R} (h : fa r = .ok x r1) (ho : opd r1 x = some (.node .lst o (ns.map .int))) : cB (b1 (maxDefD z)) (cCons fa cNil) r = .ok (.val (.int (maxDef z ns))) r1 := by
  refine b1_ok h ho ?_ rfl
  unfold maxDefD
  show ((intsOf (ns.map D.int)).map fun ns => D.int (maxDef z ns)) = _
  rw [intsOf_map]
  rfl
end VL

namespace VL
open PySem PySem.Spec PyProof.Rows L2
section
variable {G : GX} {C : Fc} {ow : Ow} {r : Rho} {T : List (D × V)} {s : L2.St} {H : Hp}
theorem StW.clrT {acc : List D} {a : Addr} (S : StW G C ow r (T ++ [(.node .lst true acc, .ref a)]) s H) : ∃ vs, H a = some (.lst vs) ∧ StW G C ow r (T ++ [(.node .lst true [], .ref a)]) s (upd H a (.lst [])) := by
  have z0 := S.tm T.length (.node .lst true acc) (.ref a) (by simp)
  obtain ⟨a', vs, ev, h1, h2, h3⟩ := z0
  cases ev
  have h1 : H a = some (.lst vs) := h1
  have h2 : ow a = some ⟨.tm T.length, []⟩ := by simpa [OwnAt] using h2
  have ne : ∀ (b : Addr) (l : Loc) (q : List Nat), ow b = none ∨ (∃ q, ow b = some (l.app q)) → l.b ≠ .tm T.length ∨ l.p ≠ [] → b ≠ a := fun b l _ hb hl e => by
    subst e
    rw [h2] at hb
    rcases hb with hb | ⟨q, hb⟩
    · cases hb
    · have hb := Option.some.inj hb
      unfold Loc.app at hb
      injection hb with e1 e2
      rcases hl with hl | hl
      · exact hl e1.symm
      · exact hl (List.append_eq_nil_iff.mp e2.symm).1
  have exn : ∀ (b : Addr) (o : HO), H b = some o → ¬ OwnO (some o) → upd H a (.lst []) b = some o := fun b o z n => by
    rw [upd_ne (fun e => by rw [e, h1] at z; cases z; exact n trivial)]; exact z
  refine ⟨vs, h1, S.len, fun i d' q => ?_, fun j d' v' q => ?_, fun b o n q => ?_, S.own, S.fo, fun b l q => ?_, S.pin, tabs_own S.tabs h1 trivial⟩
  · obtain ⟨v', z1, z2⟩ := S.sl i d' q
    exact ⟨v', z1, Rep.mono (l := ⟨.sl i, []⟩) d' (fun b o z y => by rw [upd_ne (ne b ⟨.sl i, []⟩ [] y (.inl (fun z => nomatch z)))]; exact .inl z) (fun b o z n => exn b o z n) (fun a o _ n => n) (fun a o q _ n => n) z2⟩
  · by_cases hj : j < T.length
    · rw [List.getElem?_append_left hj] at q
      have z := S.tm j d' v' (by rw [List.getElem?_append_left hj]; exact q)
      exact Rep.mono (l := ⟨.tm j, []⟩) d' (fun b o z y => by rw [upd_ne (ne b ⟨.tm j, []⟩ [] y (.inl (fun z => by injection z with z; omega)))]; exact .inl z) (fun b o z n => exn b o z n) (fun a o _ n => n) (fun a o q _ n => n) z
    · rw [List.getElem?_append_right (by omega)] at q
      have e : j = T.length := by
        have := (List.getElem?_eq_some_iff.mp q).1
        simp at this; omega
      subst e
      simp at q
      obtain ⟨e1, e2⟩ := q
      subst e1; subst e2
      exact ⟨a, [], rfl, upd_same, .mk h2, rfl⟩
  · by_cases hb : b = a
    · subst hb
      have z := S.old b o n q
      rcases S.own b _ h2 with z2 | z2 | z2
      · cases z2
      · rw [z2] at q; cases q
      · exact absurd z2 n
    · rw [upd_ne hb]; exact S.old b o n q
  · by_cases hb : b = a
    · subst hb; rw [upd_same]; trivial
    · rw [upd_ne hb]; exact S.mu b l q
end
def cClrP (i : Nat) (fk : Ev) : Ev := fun r => if isSeq r i = true then (fk r).bd (fun y r1 => match spot r1 i y with
  | some (k, o, ds, m, .node .lst true _) => .ok (.val .non) (r1.set i (some (.node k o (ds.set m (.node .lst true [])))))
  | _ => .bad) else .bad
section
variable {X : Cx} {G : GX} {C : Fc} {W : WX} {fk : Ev}
theorem ve_clrP {i : Nat} {x : Str} {ek : Expr} {p ps apos cpos : Pos} (hN : X.N[i]? = some x) (hv : Vis X.env.scope x) (hd : (x == ("__debug__" : Str)) = false) (hcd : (x == ("__classdict__" : Str)) = false) (hk : VE X G C W ek fk) (hs1 : PlainIx ek)
    (hbase : attributeBase (.Subscript (.Name x p) ek ps) "clear" X.env (eval (.Subscript (.Name x p) ek ps) X.env) = eval (.Subscript (.Name x p) ek ps) X.env := by rfl) (hline : (apos.endLine == cpos.line) = true := by rfl) :
    VE X G C W (.Call (.Attribute (.Subscript (.Name x p) ek ps) "clear" apos) [] [] cpos) (cClrP i fk) := by
  refine PE.imp (pe_bm0 PySem.F.plainAttrs_list PySem.F.slot_list_clear PySem.F.type_list_clear mt_clear (pe_ix ix_seq (pe_var hN hv hd hcd) hk hs1) hbase hline) fun s H Q h => ?_
  obtain ⟨r, T, S, g⟩ := h
  have g : Goes G C W T s Q (cClrP i fk r) := g
  unfold cClrP at g
  split at g
  · rename_i hi
    obtain ⟨k0, o0, ds0, hr, _⟩ := isSeq_at hi
    obtain ⟨ow, S0⟩ := S
    obtain ⟨v, v1, a0, vs0, ev, v2, v3, v4⟩ := S0.sl i _ hr
    subst ev
    refine ⟨_, v1, ?_⟩
    refine one (fa := fk) ⟨ow, S0⟩ g fun y u r1 H1 P g1 => ?_
    cases es : spot r1 i y with
    | none => simp only [es] at g1; exact g1.elim
    | some z =>
      obtain ⟨k, o, ds, m, d⟩ := z
      obtain ⟨kk, a, vs, w, ow2, eu, w1, hA, hat, hvm, S2, S3⟩ := spot_go P es
      obtain ⟨_, _, _, hk, _, hdm⟩ := spot_of es
      rw [v1] at w1
      cases w1
      subst eu
      refine seqK_ix hk hA hat ?_
      simp only [es] at g1
      split at g1
      · rename_i k' o' ds' m' acc ee
        cases ee
        obtain ⟨b, ws, eb, hB, oB, _⟩ := StW.last S2
        subst eb
        have hB : H1 b = some (.lst ws) := hB
        refine ⟨.inl ⟨rfl, ws, SqL.of hB⟩, ?_⟩
        have hil : i < r1.length := by
          have := S2.len
          have h2 := (List.getElem?_eq_some_iff.mp v1).1
          simp at this; omega
        have hkr : isR k ≠ true := by rcases seqK_of hk with e | e <;> (rw [e]; exact fun z => nomatch z)
        have hne : a0 ≠ b := fun z => by
          subst z
          have o5 := S2.tm T.length (.node .lst true acc) (.ref a0) (by simp)
          obtain ⟨_, _, e5, _, o6, _⟩ := o5
          cases e5
          have o6 := o6.cases.resolve_left (fun z => nomatch z)
          obtain ⟨_, y1, a7, _, e7, _, o7, _⟩ := S2.sl i _ (List.getElem?_set_self hil)
          rw [v1] at y1
          cases y1
          cases e7
          have o7 := o7.cases.resolve_left hkr
          rw [o6] at o7
          cases o <;> cases o7
        obtain ⟨ws2, h1, S6⟩ := S2.clrT
        have hA6 : Holds G (upd H1 b (.lst [])) a0 k vs := hA.keep fun o z => by rw [upd_ne hne]; exact .inl z
        have S7 := S6.giveBack (List.getElem?_set_self hil) v1 hkr hA6 hvm (fun us h => seqK_one hk h hA6)
        rw [List.set_set, List.set_set] at S7
        exact ⟨b, ws2, rfl, rfl, h1, g1 _ _ ⟨StOk.pushN ⟨_, S7⟩, trivial⟩⟩
      · exact g1.elim
  · exact g.elim
end
theorem clrP_ok {fk : Ev} {i m : Nat} {kk : Int} {k : Kd} {o : Bool} {r r1 : Rho} {ds acc : List D} (h0 : isSeq r i = true) (hk : fk r = .ok (.val (.int kk)) r1) (h1 : r1[i]? = some (some (.node k o ds))) (hs : seqK k = true) (hm : ixN ds.length kk = some m) (hd : ds[m]? = some (.node .lst true acc)) : cExpr (cClrP i fk) r = .nx (r1.set i (some (.node k o (ds.set m (.node .lst true []))))) := by
  have sp : spot r1 i (.val (.int kk)) = some (k, o, ds, m, .node .lst true acc) := by
    unfold spot
    simp only [h1, hs, hm, hd, if_true]
  rw [q_expr]
  show (if isSeq r i = true then (fk r).bd _ else EO.bad).st _ = _
  rw [if_pos h0, hk, bd_ok]
  simp only [sp]
  rfl
end VL

namespace VL
open PySem PySem.Spec PyProof PyProof.Rows L2
structure FnQ (N L gs ps : List Str) (sc : Scope) : Prop where
  fs : FnScope N ps sc
  pl : N.take L.length = L
  lo : ∀ x ∈ L, sc.names.lookup x = some .local ∨ sc.names.lookup x = some .cell
  no : ∀ x ∈ N, (x == ("__debug__" : Str)) = false ∧ (x == ("__classdict__" : Str)) = false
  gl : ∀ x ∈ gs, sc.names.lookup x = some .globalImplicit ∧ (x == ("__debug__" : Str)) = false
section
variable {N L gs ps : List Str} {sc : Scope} {x : Str}
theorem get_mem {l : List Str} {i : Nat} (h : l[i]? = some x) : x ∈ l := List.mem_of_getElem? h
theorem FnQ.nd (q : FnQ N L gs ps sc) : N.Nodup := q.fs.nd
theorem FnQ.n (q : FnQ N L gs ps sc) (i : Nat) (h : L[i]? = some x := by rfl) : N[i]? = some x := by
  have hi : i < L.length := (List.getElem?_eq_some_iff.mp h).1
  rw [← q.pl, List.getElem?_take, if_pos hi] at h
  exact h
theorem FnQ.l (q : FnQ N L gs ps sc) (i : Nat) (h : L[i]? = some x := by rfl) : L2.Loc sc x := q.lo x (get_mem h)
theorem FnQ.v (q : FnQ N L gs ps sc) (i : Nat) (h : L[i]? = some x := by rfl) : Vis sc x := (q.lo x (get_mem h)).elim .inl fun z => .inr (.inl z)
theorem FnQ.d (q : FnQ N L gs ps sc) (i : Nat) (h : N[i]? = some x := by rfl) : (x == ("__debug__" : Str)) = false := (q.no x (get_mem h)).1
theorem FnQ.c (q : FnQ N L gs ps sc) (i : Nat) (h : N[i]? = some x := by rfl) : (x == ("__classdict__" : Str)) = false := (q.no x (get_mem h)).2
theorem FnQ.g (q : FnQ N L gs ps sc) (i : Nat) (h : gs[i]? = some x := by rfl) : sc.names.lookup x = some .globalImplicit := (q.gl x (get_mem h)).1
theorem FnQ.h (q : FnQ N L gs ps sc) (i : Nat) (h : gs[i]? = some x := by rfl) : (x == ("__debug__" : Str)) = false := (q.gl x (get_mem h)).2
end
section
variable {X : Cx} {G : GX} {C : Fc} {W : WX} {ow : Ow} {r : Rho} {T : List (D × V)} {s : L2.St} {H : Hp} {fa fb : Ev} {fs : Av} {L gs ps : List Str}
theorem ve_v {i : Nat} {x : Str} {pos : Pos} (q : FnQ X.N L gs ps X.env.scope) (h : L[i]? = some x := by rfl) : VE X G C W (.Name x pos) (cVar i) :=
  ve_var (q.n i h) (q.v i h) (q.d i (q.n i h)) (q.c i (q.n i h))
theorem vs_s {i : Nat} {x : Str} {e : Expr} {pos pos' : Pos} (q : FnQ X.N L gs ps X.env.scope) (hp : C.pin = []) (he : VE X G C W e fa) (h : L[i]? = some x := by rfl) (hs : swapsWith e (some (.Name x pos')) pos.line X.env = pure false := by rfl)
    (hf : X.fn x = true ∨ X.env.scope.names.lookup x = some .local := by first | exact .inl rfl | exact .inr rfl | assumption) : VS X G C W (.Assign [.Name x pos'] e pos) (cAsg (.nm i) fa) :=
  vs_set q.nd (q.n i h) (q.l i h) (pinV hp i) he hs hf
theorem vg_n {i : Nat} {x : Str} {pos : Pos} (q : FnQ X.N L gs ps X.env.scope) (hp : C.pin = []) (h : L[i]? = some x := by rfl) (hf : X.fn x = true ∨ X.env.scope.names.lookup x = some .local := by first | exact .inl rfl | exact .inr rfl | assumption) : VG X G C (.Name x pos) (.nm i) :=
  vg_name q.nd (q.n i h) (q.l i h) (pinV hp i) hf
theorem vgs_c {i : Nat} {x : Str} {pos : Pos} {es : List Expr} {is : List Nat} (q : FnQ X.N L gs ps X.env.scope) (hp : C.pin = []) (h2 : VGs X G C es is) (h : L[i]? = some x := by rfl)
    (hf : X.fn x = true ∨ X.env.scope.names.lookup x = some .local := by first | exact .inl rfl | exact .inr rfl | assumption)
    (hs : (assignEach (.Name x pos :: es) X.env).map (·.2) = assign (.Name x pos) X.env :: (assignEach es X.env).map (·.2) := by rfl) : VGs X G C (.Name x pos :: es) (i :: is) :=
  vgs_cons q.nd (q.n i h) (q.l i h) (pinV hp i) h2 hf hs
theorem vs_f {tg iter : Expr} {body : List Stmt} {fi : Iv} {t : Tg} {f : Sv} {pos : Pos} {K : Value → Shared → Prop} {E₁ : Value → Shared → Prop} (hi : VI X G C W tg iter fi) (hg : VG X G C tg t) (hb : VSs X G C W body f) (hx : X.xe = fun e s' => wpAny (model X.prog X.w) X.A (leaving X.env e) (fun _ s'' => K e s'') E₁ s' := by rfl) (hc : X.calm = true := by rfl)
    (hs : ∀ x, foldedSetIterable iter X.env x = pure x := by intro _; rfl) : VS X G C W (.For tg iter body [] pos) (cFor t fi f) := vs_for (passes_of hx) hc hi hg hb hs
end
structure DF (K : PySem.W.Frag) (mg : Str → Option Value) (x y : Str) (st : Stmt) (ps : List Str) where
  a : Addr
  fd : FuncData
  F : Fun K y y st a fd
  m : mg x = some (.ref a)
  k : PySem.W.keepIn K (.ref a) = true
  bs : ∀ us : List Value, us.length = ps.length → bindArgs fd ⟨us, []⟩ = pure (ps.zip us)
def DF.of {K : PySem.W.Frag} {mg : Str → Option Value} {h : Heap} {x y : Str} {st : Stmt} {ps : List Str} {a : Addr} {oc kV doc pm cdv ct : Value} {od an : Option Addr} {osl : Array (Option Value)} (X : K.In h) (G : h.Ns mainGlobals mg)
    (n : PySem.W.nsIn K mainGlobals x = some (some (.ref a))) (l : K.lookup a = some ⟨oc, od, .func (PySem.W.fnOf y y (defArgs st) (defBody st) (defScope st) .none kV doc pm an cdv ct), osl⟩)
    (c : PySem.W.codeIn K cdv y = true) (k : PySem.W.keepIn K (.ref a) = true)
    (b : ∀ (kV doc pm : Value) (an : Option Addr) (cdv ct : Value) (us : List Value), us.length = ps.length → bindArgs (PySem.W.fnOf y y (defArgs st) (defBody st) (defScope st) .none kV doc pm an cdv ct) ⟨us, []⟩ = pure (ps.zip us)) : DF K mg x y st ps :=
  ⟨a, _, fun_mk l c k, PySem.W.mg_of X G n, k, b kV doc pm an cdv ct⟩
theorem DF.b {K : PySem.W.Frag} {mg : Str → Option Value} {x y : Str} {st : Stmt} {ps : List Str} (d : DF K mg x y st ps) : Binds K d.fd ps [] := .all d.bs
section
variable {K : PySem.W.Frag} {mg : Str → Option Value} {x y : Str} {st : Stmt} {ps : List Str}
abbrev OkD (P : Program) (w : World) (base : Heap) (k : Nat) (d : DF K mg x y st ps) (sp : Sp) : Prop := FnOk P w K mg base (L2.CX P w) k d.a d.fd ps sp
abbrev OkV (P : Program) (w : World) (base : Heap) (k : Nat) (d : DF K mg x y st ps) (G : GX) (n : Nat) (F : List D → FO) : Prop := OkD P w base k d (spV G n F)
variable {P : Program} {w : World} {base : Heap} {G : GX} {N L gs : List Str} {k n : Nat} {fb : Sv} {d : DF K mg x y st ps}
theorem fnV3 (S : FnQ N L gs ps (defScope st))
    (hbody : ∀ (cdv : Value) (A : Around) (outer : List Env) (s : Shared) (H : Hp) (E : XK) (C : Fc), Room k (A.deeper (envOfC y (defScope st) s.heap.objs.size d.a cdv)) → C.pin = [] → FnQ (cxOf (L2.CX P w) P w K mg base N y (defScope st) d.a cdv A outer s H E).N L gs ps (cxOf (L2.CX P w) P w K mg base N y (defScope st) d.a cdv A outer s H E).env.scope → VSs (cxOf (L2.CX P w) P w K mg base N y (defScope st) d.a cdv A outer s H E) G C (fun cls d _ H => E cls d H) (defBody st) fb) (hps : ps.length = n := by rfl) :
    OkV P w base (k + 1) d G n (runF N.length fb) := by
  subst hps
  exact fnV2 d.F S.fs fun cdv A outer s H E C hr hp => hbody cdv A outer s H E C hr hp S
theorem fnQ3 {q : Nat} (S : FnQ N L gs ps (defScope st))
    (hbody : ∀ (cdv : Value) (A : Around) (outer : List Env) (s : Shared) (H : Hp) (E : XK) (C : Fc), Room k (A.deeper (envOfC y (defScope st) s.heap.objs.size d.a cdv)) → (∀ p ∈ C.pin, p.1 = q) → FnQ (cxOf (L2.CX P w) P w K mg base N y (defScope st) d.a cdv A outer s H E).N L gs ps (cxOf (L2.CX P w) P w K mg base N y (defScope st) d.a cdv A outer s H E).env.scope → VSs (cxOf (L2.CX P w) P w K mg base N y (defScope st) d.a cdv A outer s H E) G C (fun cls d _ H => E cls d H) (defBody st) fb) (hps : ps.length = n + 1 := by rfl) :
    OkD P w base (k + 1) d (spQ G q n (runQ q N.length fb)) :=
  fnQ2 d.F S.fs hps fun cdv A outer s H E C hr hp => hbody cdv A outer s H E C hr hp S
end
section
variable {X : Cx} {G : GX} {C : Fc} {W : WX} {fs : Av} {x y : Str} {st : Stmt} {ps : List Str} {f : DF X.K X.mg x y st ps} {n k k' : Nat} {F : List D → FO} {p pos : Pos} {e : Expr} {es : List Expr}
theorem ve_callD (Fk : FnOk X.prog X.w X.K X.mg X.base (L2.CX X.prog X.w) k f.a f.fd ps (spV G n F)) (hr : Room k' X.A) (hg : Gl X x) (hdb : (x == ("__debug__" : Str)) = false) (ha : VA X G C W (e :: es) fs) (hk : k ≤ k' := by decide) (tk : Takes X W := by exact takes_of rfl rfl rfl rfl)
    (he : starEach (e :: es) X.env = (false, eval e X.env) :: starEach es X.env := by rfl) (hpl : (backTo pos (starEach es X.env)).any (·.1) = false := by rfl) : VE X G C W (.Call (.Name x p) (e :: es) [] pos) (cCall n F fs) :=
  ve_call tk Fk (hr.mono hk) hg f.m f.k f.b ha hdb he hpl
theorem ve_f {N L gs pq : List Str} (Fk : FnOk X.prog X.w X.K X.mg X.base (L2.CX X.prog X.w) k f.a f.fd ps (spV G n F)) (hr : Room k' X.A) (q : FnQ N L gs pq X.env.scope) (i : Nat) (ha : VA X G C W (e :: es) fs) (h : gs[i]? = some x := by rfl) (hk : k ≤ k' := by decide) (tk : Takes X W := by exact takes_of rfl rfl rfl rfl)
    (he : starEach (e :: es) X.env = (false, eval e X.env) :: starEach es X.env := by rfl) (hpl : (backTo pos (starEach es X.env)).any (·.1) = false := by rfl) : VE X G C W (.Call (.Name x p) (e :: es) [] pos) (cCall n F fs) :=
  ve_call tk Fk (hr.mono hk) (q.g i h) f.m f.k f.b ha (q.h i h) he hpl
end
structure KI (mg : Str → Option Value) (x : Str) (i : Int) where
  t : Tok
  m : mg x = some (.int i t)
def KI.of {K : PySem.W.Frag} {mg : Str → Option Value} {h : Heap} {x : Str} {i : Int} {t : Tok} (X : K.In h) (G : h.Ns mainGlobals mg) (n : PySem.W.nsIn K mainGlobals x = some (some (.int i t))) : KI mg x i := ⟨t, PySem.W.mg_of X G n⟩
structure KS (mg : Str → Option Value) (x y : Str) where
  t : Tok
  m : mg x = some (.str y t)
def KS.of {K : PySem.W.Frag} {mg : Str → Option Value} {h : Heap} {x y : Str} {t : Tok} (X : K.In h) (G : h.Ns mainGlobals mg) (n : PySem.W.nsIn K mainGlobals x = some (some (.str y t))) : KS mg x y := ⟨t, PySem.W.mg_of X G n⟩
structure CF (K : PySem.W.Frag) (mg : Str → Option Value) (x : Str) (S : Addr) : Prop where
  m : mg x = some (.ref S)
  ic : PySem.W.isClsIn K S = true
  tc : PySem.W.typeIn K (.ref S) = some (.type "type")
  bc : PySem.W.subIn K (.ref S) (.type "BaseException") = some true
theorem CF.of {K : PySem.W.Frag} {mg : Str → Option Value} {h : Heap} {x : Str} {S : Addr} (X : K.In h) (G : h.Ns mainGlobals mg) (n : PySem.W.nsIn K mainGlobals x = some (some (.ref S)))
    (ic : PySem.W.isClsIn K S = true) (tc : PySem.W.typeIn K (.ref S) = some (.type "type")) (bc : PySem.W.subIn K (.ref S) (.type "BaseException") = some true) : CF K mg x S := ⟨PySem.W.mg_of X G n, ic, tc, bc⟩
theorem CF.f {K : PySem.W.Frag} {mg : Str → Option Value} {x : Str} {S : Addr} (c : CF K mg x S) : ClsF K S := ⟨c.ic, c.tc, c.bc⟩
structure RF (K : PySem.W.Frag) (S : Addr) : Prop where
  x : PySem.W.excIn K S [.type "ValueError", .type "Exception", .type "BaseException", .type "object"] "ValueError.__new__" = true
  kc : PySem.W.keepIn K (.ref S) = true
  hg : PySem.W.findIn K (.ref S) "__getattribute__" = some (some (.builtin "BaseException.__getattribute__"))
  hk : PySem.W.findIn K (.ref S) "__getattr__" = some none
  hd : PySem.W.hasDictIn K S = true
  ha : PySem.W.findIn K (.ref S) "__class__" = some (some (.builtin "object.__class__"))
  hm : PySem.W.mroIn K S (.type "object") = some true
  se : PySem.W.subIn K (.ref S) (.ref S) = some true
structure EF (K : PySem.W.Frag) : Prop where
  hn : PySem.W.specialIn K (.builtin "object.__class__") "__get__" = some (some (.builtin "getset_descriptor.__get__"))
  ht : PySem.W.takesIn K (.builtin "object.__class__") = some true
section
variable {K : PySem.W.Frag} {mg : Str → Option Value} {G : GX} {k j : Nat} {b : Bool} {x y : Str}
end
section
variable {X : Cx} {G : GX} {C : Fc} {W : WX} {c : Nat} {x m : Str} {j : Nat} {p p2 pos pos' : Pos}
theorem vs_raiseC (cf : CF X.K X.mg x (G c)) (r : RF X.K (G c)) (hg : Gl X x) (hdb : (x == ("__debug__" : Str)) = false) (tk : Takes X W := by exact takes_of rfl rfl rfl rfl) (hcm : X.calm = true := by rfl) : VS X G C W (.Raise (some (.Call (.Name x p) [.Constant (.str m) j p2] [] pos)) none pos') (cRaise c) :=
  vs_raise hcm tk r.x cf.m r.kc (raises_own cf.bc cf.tc) hg hdb
end
theorem bl_len : bootBuiltins "len" = some (.builtin "len") ∧ ("len" : Str) ≠ "__name__" := ⟨rfl, by decide +kernel⟩
section
variable {X : Cx} {G : GX} {C : Fc} {W : WX} {fa : Ev} {N L gs ps : List Str} {p pos : Pos} {e : Expr}
theorem ve_len (hm : X.mg "len" = none) (hg : Gl X "len") (ha : VE X G C W e fa) (hK : G.K = X.K := by rfl) (he : starEach [e] X.env = (false, eval e X.env) :: starEach [] X.env := by rfl) (hpl : (backTo pos (starEach [] X.env)).any (·.1) = false := by rfl) : VE X G C W (.Call (.Name "len" p) [e] [] pos) (cB (b1 lenD) (cCons fa cNil)) :=
  ve_callB hK cs_len hg hm rfl (va_cons ha va_nil he) bl_len.2 (by decide +kernel) he hpl
end
end VL

namespace VL
open PySem PySem.Spec PyProof.Rows L2
def atP : List Nat → D → Option D
  | [], d => some d
  | m :: p, .node k _ xs => if seqK k = true then (match xs[m]? with | some d => atP p d | none => none) else none
  | _ :: _, _ => none
def setP : List Nat → D → D → D
  | [], e, _ => e
  | m :: p, e, .node k o xs => .node k o (match xs[m]? with | some d => xs.set m (setP p e d) | none => xs)
  | _ :: _, _, d => d
def PathV (H : Hp) : V → List Nat → V → Prop
  | v, [], u => u = v
  | v, m :: p, u => ∃ a vs w, v = .ref a ∧ (H a = some (.lst vs) ∨ H a = some (.tup vs)) ∧ vs[m]? = some w ∧ PathV H w p u
theorem PathV.one {H : Hp} : ∀ {p : List Nat} {v u u' : V}, PathV H v p u → PathV H v p u' → u = u'
  | [], v, u, u', h, h' => h.trans h'.symm
  | m :: p, v, u, u', h, h' => by
    obtain ⟨a, vs, w, e1, h1, h2, h3⟩ := h
    obtain ⟨a', vs', w', e1', h1', h2', h3'⟩ := h'
    subst e1
    cases e1'
    have ev : vs = vs' := by
      rcases h1 with z | z <;> rcases h1' with z' | z' <;> (rw [z] at z'; first | (cases z'; done) | (cases z'; rfl))
    subst ev
    rw [h2] at h2'
    cases h2'
    exact PathV.one h3 h3'
theorem PathV.snoc {H : Hp} : ∀ {p : List Nat} {v : V} {a : Addr} {vs : List V} {m : Nat} {w : V}, PathV H v p (.ref a) → (H a = some (.lst vs) ∨ H a = some (.tup vs)) → vs[m]? = some w → PathV H v (p ++ [m]) w
  | [], v, a, vs, m, w, h, h1, h2 => ⟨a, vs, w, h.symm, h1, h2, rfl⟩
  | k :: p, v, a, vs, m, w, h, h1, h2 => by
    obtain ⟨a', vs', w', e1, g1, g2, g3⟩ := h
    exact ⟨a', vs', w', e1, g1, g2, PathV.snoc g3 h1 h2⟩
theorem atP_cons {m : Nat} {p : List Nat} {d e : D} (h : atP (m :: p) d = some e) : ∃ k o xs x, d = .node k o xs ∧ seqK k = true ∧ xs[m]? = some x ∧ atP p x = some e := by
  cases d with
  | node k o xs =>
    have h : (if seqK k = true then (match xs[m]? with | some d => atP p d | none => none) else none) = some e := h
    split at h
    · rename_i hk
      cases ex : xs[m]? with
      | none => rw [ex] at h; cases h
      | some x => rw [ex] at h; exact ⟨k, o, xs, x, rfl, hk, ex, h⟩
    · cases h
  | _ => cases h
theorem atP_mk {m : Nat} {p : List Nat} {k : Kd} {o : Bool} {xs : List D} {x : D} {e : Option D} (hk : seqK k = true) (ex : xs[m]? = some x) (h : atP p x = e) : atP (m :: p) (.node k o xs) = e := by
  show (if seqK k = true then (match xs[m]? with | some d => atP p d | none => none) else none) = e
  rw [if_pos hk, ex]
  exact h
theorem setP_mk {m : Nat} {p : List Nat} {k : Kd} {o : Bool} {xs : List D} {x e : D} (ex : xs[m]? = some x) : setP (m :: p) e (.node k o xs) = .node k o (xs.set m (setP p e x)) := by
  show D.node k o (match xs[m]? with | some d => xs.set m (setP p e d) | none => xs) = _
  rw [ex]
theorem setP_app : ∀ {p q : List Nat} {d f e : D}, atP p d = some f → setP (p ++ q) e d = setP p (setP q e f) d
  | [], q, d, f, e, h => by cases h; rfl
  | m :: p, q, d, f, e, h => by
    obtain ⟨k, o, xs, x, rfl, hk, ex, h⟩ := atP_cons h
    show setP (m :: (p ++ q)) e _ = _
    rw [setP_mk ex, setP_mk ex, setP_app h]
theorem atP_setP : ∀ {p : List Nat} {d f e : D}, atP p d = some f → atP p (setP p e d) = some e
  | [], d, f, e, _ => rfl
  | m :: p, d, f, e, h => by
    obtain ⟨k, o, xs, x, rfl, hk, ex, h⟩ := atP_cons h
    rw [setP_mk ex]
    exact atP_mk hk (List.getElem?_set_self (List.getElem?_eq_some_iff.mp ex).1) (atP_setP h)
theorem setP_setP : ∀ {p : List Nat} {d f e e' : D}, atP p d = some f → setP p e' (setP p e d) = setP p e' d
  | [], d, f, e, e', _ => rfl
  | m :: p, d, f, e, e', h => by
    obtain ⟨k, o, xs, x, rfl, hk, ex, h⟩ := atP_cons h
    rw [setP_mk ex, setP_mk (List.getElem?_set_self (List.getElem?_eq_some_iff.mp ex).1), setP_mk ex, setP_setP h, List.set_set]
section
variable {G : GX} {ow : Ow} {H : Hp} {C : Fc} {r : Rho} {T : List (D × V)} {s : L2.St}
theorem holdsK {k : Kd} {a : Addr} {vs : List V} (hk : seqK k = true) (h : Holds G H a k vs) : H a = some (.lst vs) ∨ H a = some (.tup vs) := by
  rcases seqK_of hk with e | e
  · subst e; exact .inl h
  · subst e; exact .inr h
theorem seqK_r {k : Kd} (hk : seqK k = true) : isR k ≠ true := by
  rcases seqK_of hk with e | e <;> (rw [e]; exact fun z => nomatch z)
theorem Rep.atP : ∀ (p : List Nat) {d e : D} {l : Loc} {v : V}, Rep G ow H d l v → VL.atP p d = some e → ∃ u, PathV H v p u ∧ Rep G ow H e (l.app p) u
  | [], d, e, l, v, h, he => by
    cases he
    exact ⟨v, rfl, by rw [Loc.app_nil]; exact h⟩
  | m :: p, d, e, l, v, h, he => by
    obtain ⟨k, o, xs, x, rfl, hk, ex, he⟩ := atP_cons he
    obtain ⟨a, vs, ev, h1, h2, h3⟩ := h
    obtain ⟨w, hw, hr⟩ := h3.get m x ex
    obtain ⟨u, g1, g2⟩ := Rep.atP p hr he
    rw [Nat.zero_add, Loc.sub_app] at g2
    exact ⟨u, ⟨a, vs, w, ev, holdsK hk h1, hw, g1⟩, g2⟩
theorem node_ne {k : Kd} {o : Bool} {a b : Addr} {l l' : Loc} (hk : seqK k = true) (h : OwnAt k o l (ow a)) (hb : ow b = some l') (hl : l ≠ l') : a ≠ b := fun e => by
  subst e
  have h := h.cases.resolve_left (seqK_r hk)
  rw [hb] at h
  cases o with
  | true => exact hl (by simpa using h.symm)
  | false => simp at h
theorem app_ne {l : Loc} {m : Nat} {p : List Nat} : l ≠ l.app (m :: p) := fun h => by
  have e : l.p = l.p ++ m :: p := congrArg Loc.p h
  have := congrArg List.length e
  simp at this
theorem Rep.keepPath {b : Addr} {ho : HO} : ∀ (q : List Nat) {t : List Nat} {d e : D} {l : Loc} {v u : V}, Rep G ow H d l v → VL.atP (q ++ t) d = some e → t ≠ [] → ow b = some (l.app (q ++ t)) → PathV H v q u → PathV (upd H b ho) v q u ∧ ∃ a, u = .ref a ∧ a ≠ b
  | [], t, d, e, l, v, u, h, he, ht, hb, hu => by
    cases t with
    | nil => exact absurd rfl ht
    | cons m t =>
      obtain ⟨k, o, xs, x, rfl, hk, ex, he⟩ := atP_cons he
      obtain ⟨a, vs, ev, h1, h2, h3⟩ := h
      have hu : u = v := hu
      exact ⟨hu, a, hu.trans ev, node_ne hk h2 hb app_ne⟩
  | m :: q, t, d, e, l, v, u, h, he, ht, hb, hu => by
    obtain ⟨k, o, xs, x, rfl, hk, ex, he⟩ := atP_cons (show VL.atP (m :: (q ++ t)) d = some e from he)
    obtain ⟨a, vs, ev, h1, h2, h3⟩ := h
    obtain ⟨a', vs', w', ev', g1, g2, g3⟩ := hu
    rw [ev] at ev'
    cases ev'
    have hne : a ≠ b := node_ne hk h2 hb (show l ≠ l.app (m :: (q ++ t)) from app_ne)
    have evs : vs' = vs := by
      rcases holdsK hk h1 with z | z <;> rcases g1 with z' | z' <;> (rw [z] at z'; first | (cases z'; done) | (cases z'; rfl))
    subst evs
    obtain ⟨w, hw, hr⟩ := h3.get m x ex
    rw [g2] at hw
    cases hw
    rw [Nat.zero_add] at hr
    obtain ⟨k1, k2⟩ := Rep.keepPath q hr he ht (by rw [Loc.sub_app]; exact hb) g3
    exact ⟨⟨a, vs', w', ev, by rw [upd_ne hne]; exact g1, g2, k1⟩, k2⟩
theorem sub_ne {l : Loc} {j m : Nat} {q p : List Nat} (h : j ≠ m) : (l.sub j).app q ≠ l.app (m :: p) := fun e => by
  rw [Loc.sub_app] at e
  have e : l.p ++ j :: q = l.p ++ m :: p := congrArg Loc.p e
  have := List.append_cancel_left e
  injection this with h1 h2
  exact h h1
theorem Rep.setP {b : Addr} {ho : HO} {e e' : D} : ∀ (p : List Nat) {d : D} {l : Loc} {v u : V}, Rep G ow H d l v → VL.atP p d = some e → ow b = some (l.app p) → PathV H v p u → (∀ o, H b = some o → OwnO (some o)) → Rep G ow (upd H b ho) e' (l.app p) u → Rep G ow (upd H b ho) (VL.setP p e' d) l v
  | [], d, l, v, u, h, he, hb, hu, hO, h' => by
    have hu : u = v := hu
    subst hu
    rw [Loc.app_nil] at h'
    exact h'
  | m :: p, d, l, v, u, h, he, hb, hu, hO, h' => by
    obtain ⟨k, o, xs, x, rfl, hk, ex, he2⟩ := atP_cons he
    obtain ⟨a, vs, ev, h1, h2, h3⟩ := h
    obtain ⟨a', vs', w', ev', g1, g2, g3⟩ := hu
    rw [ev] at ev'
    cases ev'
    have hne : a ≠ b := node_ne hk h2 hb app_ne
    have evs : vs' = vs := by
      rcases holdsK hk h1 with z | z <;> rcases g1 with z' | z' <;> (rw [z] at z'; first | (cases z'; done) | (cases z'; rfl))
    subst evs
    rw [setP_mk ex]
    have exn : ∀ (c : Addr) (o : HO), H c = some o → ¬ OwnO (some o) → Kt (upd H b ho c) o := fun c o z n => by
      rw [upd_ne (fun e => by rw [e] at z; exact n (hO o z))]; exact .inl z
    refine ⟨a, vs', ev, h1.keep fun o z => by rw [upd_ne hne]; exact .inl z, h2, Reps.of_get (by rw [List.length_set]; exact h3.length) fun j d' v' y1 y2 => ?_⟩
    obtain ⟨w, hw, hr⟩ := h3.get m x ex
    rw [g2] at hw
    cases hw
    by_cases hj : j = m
    · subst hj
      rw [List.getElem?_set_self (List.getElem?_eq_some_iff.mp ex).1] at y1
      cases y1
      rw [g2] at y2
      cases y2
      rw [Nat.zero_add] at hr ⊢
      exact Rep.setP p hr he2 (by rw [Loc.sub_app]; exact hb) g3 hO (by rw [Loc.sub_app]; exact h')
    · rw [List.getElem?_set_ne (Ne.symm hj)] at y1
      obtain ⟨w2, hw2, hr2⟩ := h3.get j d' y1
      rw [y2] at hw2
      cases hw2
      rw [Nat.zero_add] at hr2 ⊢
      refine Rep.mono d' (fun c o z y => ?_) exn (fun _ _ _ n => n) (fun _ _ _ _ n => n) hr2
      rw [upd_ne (fun e => ?_)]
      · exact .inl z
      · subst e
        rw [hb] at y
        rcases y with y | ⟨q, y⟩
        · cases y
        · exact sub_ne (Ne.symm hj |>.symm) (Option.some.inj y).symm
theorem StW.setP {i : Nat} {p : List Nat} {d : D} {ys : List D} (S : StW G C ow r T s H) (q : r[i]? = some (some d)) (hp : VL.atP p d = some (.node .lst true ys)) :
    ∃ v b vs, s[i]? = some (some v) ∧ PathV H v p (.ref b) ∧ H b = some (.lst vs) ∧ ys.length = vs.length ∧ Reps G ow H ys ⟨.sl i, p⟩ 0 vs ∧ ow b = some ⟨.sl i, p⟩ ∧ ∀ ho : HO, OwnO (some ho) →
      ((∀ (q2 t : List Nat) (u : V), p = q2 ++ t → t ≠ [] → PathV H v q2 u → PathV (upd H b ho) v q2 u ∧ ∃ a, u = .ref a ∧ a ≠ b) ∧
      (∀ e' : D, Rep G ow (upd H b ho) e' ⟨.sl i, p⟩ (.ref b) → StW G C ow (r.set i (some (VL.setP p e' d))) T s (upd H b ho)) ∧ (∀ (d2 : D) (q2 : List Nat) (v2 : V) (j : Nat), Rep G ow H d2 ⟨.sl i, p ++ j :: q2⟩ v2 → Rep G ow (upd H b ho) d2 ⟨.sl i, p ++ j :: q2⟩ v2)) := by
  obtain ⟨v, z1, z2⟩ := S.sl i d q
  obtain ⟨u, g1, g2⟩ := Rep.atP p z2 hp
  obtain ⟨b, vs, eu, hb, hob, hys⟩ := g2
  subst eu
  have hl : (Loc.mk (.sl i) []).app p = ⟨.sl i, p⟩ := rfl
  rw [hl] at hob hys
  have hb : H b = some (.lst vs) := hb
  have hob : ow b = some ⟨.sl i, p⟩ := by simpa [OwnAt] using hob
  refine ⟨v, b, vs, z1, g1, hb, hys.length, hys, hob, fun ho hO => ?_⟩
  have hO1 : ∀ o, H b = some o → OwnO (some o) := fun o z => by rw [hb] at z; cases z; trivial
  have exn : ∀ (c : Addr) (o : HO), H c = some o → ¬ OwnO (some o) → Kt (upd H b ho c) o := fun c o z n => by
    rw [upd_ne (fun e => by rw [e] at z; exact n (hO1 o z))]; exact .inl z
  have far : ∀ (d2 : D) (l2 : Loc) (v2 : V), (∀ q2, l2.app q2 ≠ ⟨.sl i, p⟩) → Rep G ow H d2 l2 v2 → Rep G ow (upd H b ho) d2 l2 v2 := fun d2 l2 v2 hn h => by
    refine Rep.mono d2 (fun c o z y => ?_) exn (fun _ _ _ n => n) (fun _ _ _ _ n => n) h
    rw [upd_ne (fun e => ?_)]
    · exact .inl z
    · subst e
      rw [hob] at y
      rcases y with y | ⟨q, y⟩
      · cases y
      · exact hn q (Option.some.inj y).symm
  have hsub : ∀ (q2 : List Nat) (j : Nat) (q3 : List Nat), (Loc.mk (.sl i) (p ++ j :: q2)).app q3 ≠ ⟨.sl i, p⟩ := fun q2 j q3 e => by
    have e : (p ++ j :: q2) ++ q3 = p := congrArg Loc.p e
    have := congrArg List.length e
    simp at this
  refine ⟨fun q2 t u ep ht hu => ?_, fun e' h => ?_, fun d2 q2 v2 j h => far d2 _ v2 (hsub q2 j) h⟩
  · subst ep
    exact Rep.keepPath q2 z2 hp ht hob hu
  · refine ⟨by simpa using S.len, fun j d' y => ?_, fun j d' v' y => ?_, fun c o n y => ?_, S.own, S.fo, fun c l y => ?_, S.pin, tabs_own S.tabs hb trivial⟩
    · by_cases hj : j = i
      · subst hj
        rw [List.getElem?_set_self (List.getElem?_eq_some_iff.mp q).1] at y
        cases y
        exact ⟨v, z1, Rep.setP p z2 hp hob g1 hO1 h⟩
      · rw [List.getElem?_set_ne (Ne.symm hj)] at y
        obtain ⟨v', y1, y2⟩ := S.sl j d' y
        exact ⟨v', y1, far d' _ v' (fun q2 e => by have e : Bs.sl j = Bs.sl i := congrArg Loc.b e; injection e with e; exact hj e) y2⟩
    · exact far d' _ v' (fun q2 e => by have e : Bs.tm j = Bs.sl i := congrArg Loc.b e; cases e) (S.tm j d' v' y)
    · by_cases hc : c = b
      · subst hc
        rcases S.own c _ hob with z | z | z
        · cases z
        · rw [z] at y; cases y
        · exact absurd z n
      · rw [upd_ne hc]; exact S.old c o n y
    · by_cases hc : c = b
      · subst hc; rw [upd_same]; exact hO
      · rw [upd_ne hc]; exact S.mu c l y
end
theorem atP_cat : ∀ {p q : List Nat} {d f : D}, atP p d = some f → atP (p ++ q) d = atP q f
  | [], q, d, f, h => by cases h; rfl
  | m :: p, q, d, f, h => by
    obtain ⟨k, o, xs, x, rfl, hk, ex, h⟩ := atP_cons h
    exact atP_mk (p := p ++ q) hk ex (atP_cat h)
theorem setP_self : ∀ {p : List Nat} {d f : D}, atP p d = some f → setP p f d = d
  | [], d, f, h => by cases h; rfl
  | m :: p, d, f, h => by
    obtain ⟨k, o, xs, x, rfl, hk, ex, h⟩ := atP_cons h
    rw [setP_mk ex, setP_self h]
    congr 1
    exact List.ext_getElem? fun j => by
      by_cases hj : m = j
      · subst hj
        rw [List.getElem?_set_self (List.getElem?_eq_some_iff.mp ex).1, ex]
      · rw [List.getElem?_set_ne hj]
theorem PathV.unsnoc {H : Hp} : ∀ {p : List Nat} {v : V} {m : Nat} {w : V}, PathV H v (p ++ [m]) w → ∃ a vs, PathV H v p (.ref a) ∧ (H a = some (.lst vs) ∨ H a = some (.tup vs)) ∧ vs[m]? = some w
  | [], v, m, w, h => by
    obtain ⟨a, vs, w', e1, g1, g2, g3⟩ := h
    have g3 : w = w' := g3
    subst g3
    exact ⟨a, vs, e1.symm, g1, g2⟩
  | k :: p, v, m, w, h => by
    obtain ⟨a, vs, w', e1, g1, g2, g3⟩ := h
    obtain ⟨b, us, k1, k2, k3⟩ := PathV.unsnoc g3
    exact ⟨b, us, ⟨a, vs, w', e1, g1, g2, k1⟩, k2, k3⟩
def tPath (i : Nat) (p : List Nat) : TE := fun s H Q => ∃ v u, s[i]? = some (some v) ∧ PathV H v p u ∧ Q u H
abbrev PPath (X : Cx) (e : Expr) (i : Nat) (p : List Nat) : Prop := PE X e (tPath i p)
section
variable {X : Cx} {G : GX} {C : Fc} {W : WX}
theorem pp_var {i : Nat} {x : Str} {pos : Pos} (hN : X.N[i]? = some x) (hv : Vis X.env.scope x) (hd : (x == ("__debug__" : Str)) = false) (hcd : (x == ("__classdict__" : Str)) = false) : PPath X (.Name x pos) i [] :=
  PE.imp (pe_var hN hv hd hcd) fun s H Q ⟨v, u, h1, h2, h3⟩ => by
    have h2 : u = v := h2
    subst h2
    exact ⟨u, h1, h3⟩
theorem pp_ix {i : Nat} {p p' : List Nat} {e : Expr} {k : Int} {m : Nat} {n2 : Nat} {ps2 ps : Pos} (he : PPath X e i p) (hp : p' = p ++ [m] := by rfl) (hk : k = ((m : Nat) : Int) := by rfl) (hs : PlainIx (.Constant (.int k) n2 ps2) := by intro _ _; rfl) : PPath X (.Subscript e (.Constant (.int k) n2 ps2) ps) i p' := by
  subst hp; subst hk
  refine PE.imp (pe_ix ix_seq he pe_int hs) fun s H Q h => ?_
  obtain ⟨v, u, h1, h2, h3⟩ := h
  obtain ⟨a, vs, g1, g2, g3⟩ := h2.unsnoc
  refine ⟨v, .ref a, h1, g1, ?_⟩
  have hat : atI vs ((m : Nat) : Int) = some u := L2.atI_nat g3
  show L2.rIx X.K (.ref a) (.int ((m : Nat) : Int)) H Q
  rcases g2 with z | z
  · exact .inl ⟨a, vs, _, u, rfl, rfl, SqL.of z, hat, h3⟩
  · exact .inr (.inl ⟨a, vs, _, u, rfl, rfl, SqT.of z, hat, h3⟩)
def cClrAt (i : Nat) (p : List Nat) : Ev := fun r => match r[i]? with
  | some (some d) => (match atP p d with
    | some (.node .lst true _) => .ok (.val .non) (r.set i (some (setP p (.node .lst true []) d)))
    | _ => .bad)
  | _ => .bad
def appAll (c : Int) : List D → Option (List D)
  | [] => some []
  | .node .tup o [x, .node .lst true ys] :: ds => if ys.length < 16777216 then (match appAll c ds with
    | some es => some (.node .tup o [x, .node .lst true (ys ++ [.int c])] :: es)
    | none => none) else none
  | _ => none
theorem appAll_cons {c : Int} {d : D} {ds es : List D} (h : appAll c (d :: ds) = some es) : ∃ o x ys es', d = .node .tup o [x, .node .lst true ys] ∧ ys.length < 16777216 ∧ appAll c ds = some es' ∧ es = .node .tup o [x, .node .lst true (ys ++ [.int c])] :: es' := by
  unfold appAll at h
  split at h
  · rename_i e; cases e
  · rename_i o x ys ds' e
    cases e
    split at h
    · rename_i hl
      cases e : appAll c ds with
      | none => rw [e] at h; cases h
      | some es' => rw [e] at h; cases h; exact ⟨o, x, ys, es', rfl, hl, rfl, rfl⟩
    · cases h
  · cases h
theorem appAll_len {c : Int} : ∀ {ds es : List D}, appAll c ds = some es → es.length = ds.length
  | [], es, h => by cases h; rfl
  | d :: ds, es, h => by
    obtain ⟨o, x, ys, es', _, _, h3, rfl⟩ := appAll_cons h
    rw [List.length_cons, List.length_cons, appAll_len h3]
theorem appAll_get {c : Int} : ∀ {ds es : List D} {l : Nat} {d : D}, appAll c ds = some es → ds[l]? = some d → ∃ o x ys, d = .node .tup o [x, .node .lst true ys] ∧ ys.length < 16777216 ∧ es[l]? = some (.node .tup o [x, .node .lst true (ys ++ [.int c])])
  | [], es, l, d, _, h => by simp at h
  | d :: ds, es, 0, d', h, h2 => by
    obtain ⟨o, x, ys, es', rfl, hl, h3, rfl⟩ := appAll_cons h
    cases h2
    exact ⟨o, x, ys, rfl, hl, rfl⟩
  | d :: ds, es, l + 1, d', h, h2 => by
    obtain ⟨o, x, ys, es', rfl, hl, h3, rfl⟩ := appAll_cons h
    exact appAll_get (ds := ds) (es := es') (l := l) h3 (show ds[l]? = some d' from h2)
end
end VL

namespace VL
open PySem PySem.Spec PyProof.Rows L2
section
variable {X : Cx}
end
end VL

namespace VL
open PySem PySem.Spec PyProof.Rows L2
section
variable {X : Cx} {G : GX} {C : Fc} {W : WX} {r : Rho} {T : List (D × V)} {s : L2.St} {H : Hp}
end
end VL

namespace VL
open PySem PySem.Spec PyProof.Rows L2
section
variable {X : Cx}
end
section
variable {X : Cx} {G : GX} {C : Fc} {W : WX} {ow ow' : Ow} {r : Rho} {T T1 T2 : List (D × V)} {s : L2.St} {H H' : Hp} {fa fb fc : Ev}
end
end VL

namespace VL
open PySem PySem.Spec PyProof.Rows L2
section
variable {X : Cx} {G : GX} {C : Fc} {W : WX}
def gT (a : Nat) : TT := fun s H Q => ∃ (tt : Addr) (w0 : V) (bb : Addr) (ws : List V), s[a]? = some (some (.ref tt)) ∧ H tt = some (.tup [w0, .ref bb]) ∧ H bb = some (.lst ws) ∧ Q false H
abbrev GT (X : Cx) (a : Nat) (e : Expr) : Prop := PT X e (gT a)
abbrev GW (X : Cx) (a : Nat) (e : Expr) : Prop := PW X e (gT a)
theorem gw_or {a : Nat} {e e2 : Expr} {rest : List Expr} {pos : Pos} (h : GT X a e) (h2 : GW X a (.BoolOp .Or (e2 :: rest) pos)) : GW X a (.BoolOp .Or (e :: e2 :: rest) pos) :=
  PW.imp (pw_or h h2) fun s H Q q => by
    obtain ⟨tt, w0, bb, ws, h1, h2, h3, h4⟩ := q
    exact ⟨tt, w0, bb, ws, h1, h2, h3, by
      show if (false : Bool) = true then _ else _
      rw [if_neg (by decide)]
      exact ⟨tt, w0, bb, ws, h1, h2, h3, h4⟩⟩
theorem gw_one {a : Nat} {e : Expr} {pos : Pos} (h : GT X a e) : GW X a (.BoolOp .Or [e] pos) := pw_or1 h
theorem GW.gt {a : Nat} {e : Expr} (h : GW X a e) : GT X a e := L2.PW.pt h
theorem gt_tup {a : Nat} {xi xt xa : Str} {p1 p2 p3 p4 p5 : Pos} (hg : Gl X xi) (hm : X.mg xi = none) (hv : bootBuiltins xi = some (.builtin "isinstance")) (hgt : Gl X xt) (hmt : X.mg xt = none) (hvt : bootBuiltins xt = some (.type "tuple"))
    (hN : X.N[a]? = some xa) (hV : Vis X.env.scope xa) (hd : (xa == ("__debug__" : Str)) = false) (hcd : (xa == ("__classdict__" : Str)) = false)
    (hn : xi ≠ "__name__" := by decide) (hdb : (xi == ("__debug__" : Str)) = false := by decide) (hn2 : xt ≠ "__name__" := by decide) (hdb2 : (xt == ("__debug__" : Str)) = false := by decide)
    (hs1 : starEach [.Name xa p2, .Name xt p3] X.env = (false, eval (.Name xa p2) X.env) :: starEach [.Name xt p3] X.env := by rfl) (hs2 : starEach [.Name xt p3] X.env = (false, eval (.Name xt p3) X.env) :: starEach [] X.env := by rfl)
    (hpl : (backTo p4 (starEach [.Name xt p3] X.env)).any (·.1) = false := by rfl) (he : ∀ whole, isTrue (.Call (.Name xi p1) [.Name xa p2, .Name xt p3] [] p4) X.env whole = (do let v ← whole; standAt (Expr.Call (.Name xi p1) [.Name xa p2, .Name xt p3] [] p4).pos; holding [v] (truthy v)) := by intro _; rfl) :
    GT X a (.UnaryOp .Not (.Call (.Name xi p1) [.Name xa p2, .Name xt p3] [] p4) p5) :=
  PT.imp (pt_not (pt_val (pe_callB call_isi hg hm hv (pa_cons (pe_var hN hV hd hcd) (pa_cons (pe_bltn (v := .ty "tuple") hgt hmt hvt rfl hn2 hdb2) pa_nil hs2) hs1) hn hdb hs1 hpl) he)) fun s H Q q => by
    obtain ⟨tt, w0, bb, ws, h1, h2, h3, h4⟩ := q
    exact ⟨.ref tt, h1, .ref tt, .ty "tuple", .type "tuple", .type "tuple", true, rfl, .ty _, .base (.tup h2), kit_ty (by decide), true, rfl, h4⟩
theorem gt_lst {a : Nat} {xi xt xa : Str} {n3 : Nat} {p1 p2 p3 p4 p5 p6 p7 : Pos} (hg : Gl X xi) (hm : X.mg xi = none) (hv : bootBuiltins xi = some (.builtin "isinstance")) (hgt : Gl X xt) (hmt : X.mg xt = none) (hvt : bootBuiltins xt = some (.type "list"))
    (hN : X.N[a]? = some xa) (hV : Vis X.env.scope xa) (hd : (xa == ("__debug__" : Str)) = false) (hcd : (xa == ("__classdict__" : Str)) = false) (hix : PlainIx (.Constant (.int 1) n3 p6))
    (hn : xi ≠ "__name__" := by decide) (hdb : (xi == ("__debug__" : Str)) = false := by decide) (hn2 : xt ≠ "__name__" := by decide) (hdb2 : (xt == ("__debug__" : Str)) = false := by decide)
    (hs1 : starEach [.Subscript (.Name xa p2) (.Constant (.int 1) n3 p6) p7, .Name xt p3] X.env = (false, eval (.Subscript (.Name xa p2) (.Constant (.int 1) n3 p6) p7) X.env) :: starEach [.Name xt p3] X.env := by rfl) (hs2 : starEach [.Name xt p3] X.env = (false, eval (.Name xt p3) X.env) :: starEach [] X.env := by rfl)
    (hpl : (backTo p4 (starEach [.Name xt p3] X.env)).any (·.1) = false := by rfl) (he : ∀ whole, isTrue (.Call (.Name xi p1) [.Subscript (.Name xa p2) (.Constant (.int 1) n3 p6) p7, .Name xt p3] [] p4) X.env whole = (do let v ← whole; standAt (Expr.Call (.Name xi p1) [.Subscript (.Name xa p2) (.Constant (.int 1) n3 p6) p7, .Name xt p3] [] p4).pos; holding [v] (truthy v)) := by intro _; rfl) :
    GT X a (.UnaryOp .Not (.Call (.Name xi p1) [.Subscript (.Name xa p2) (.Constant (.int 1) n3 p6) p7, .Name xt p3] [] p4) p5) :=
  PT.imp (pt_not (pt_val (pe_callB call_isi hg hm hv (pa_cons (pe_ix ix_seq (pe_var hN hV hd hcd) pe_int hix) (pa_cons (pe_bltn (v := .ty "list") hgt hmt hvt rfl hn2 hdb2) pa_nil hs2) hs1) hn hdb hs1 hpl) he)) fun s H Q q => by
    obtain ⟨tt, w0, bb, ws, h1, h2, h3, h4⟩ := q
    exact ⟨.ref tt, h1, .inr (.inl ⟨tt, [w0, .ref bb], 1, .ref bb, rfl, rfl, SqT.of h2, rfl, .ref bb, .ty "list", .type "list", .type "list", true, rfl, .ty _, .base (.lst h3), kit_ty (by decide), true, rfl, h4⟩)⟩
variable {ow ow' : Ow} {r : Rho} {T : List (D × V)} {s : L2.St} {H H' : Hp}
def cForGA (i : Nat) (p : List Nat) (a : Nat) (c : Int) : Sv := fun r => match r[i]? with
  | some (some d) => (match atP p d with
    | some (.node .lst o ds) => (match appAll c ds with
      | some es => if a < r.length then .nx (if ds = [] then r else (r.set i (some (setP p (.node .lst o es) d))).set a (some .any)) else .bad
      | none => .bad)
    | _ => .bad)
  | _ => .bad
theorem vs_forGA {i a : Nat} {p : List Nat} {c : Int} {xa : Str} {iter tst : Expr} {ra : List Stmt} {fr : Sv} {pa po p6 p7 apos cpos ppos pe pos : Pos} {n3 n2 : Nat} (hp : PassesOwn (model X.prog X.w) X.A X.env X.xe) (hc : X.calm = true) (he : PPath X iter i p) (hND : X.N.Nodup)
    (hT : GT X a tst) (hR : VSs X G C W ra fr) (hix : PlainIx (.Constant (.int 1) n3 p6))
    (hia : i ≠ a) (ha : X.N[a]? = some xa) (hla : L2.Loc X.env.scope xa) (pna : ∀ p ∈ C.pin, p.1 ≠ a)
    (hdb : (xa == ("__debug__" : Str)) = false) (hcb : (xa == ("__classdict__" : Str)) = false)
    (hfa : X.fn xa = true ∨ X.env.scope.names.lookup xa = some .local := by first | exact .inl rfl | exact .inr rfl | assumption)
    (hs : ∀ y, foldedSetIterable iter X.env y = pure y := by intro _; rfl)
    (hbase : attributeBase (.Subscript (.Name xa po) (.Constant (.int 1) n3 p6) p7) "append" X.env (eval (.Subscript (.Name xa po) (.Constant (.int 1) n3 p6) p7) X.env) = eval (.Subscript (.Name xa po) (.Constant (.int 1) n3 p6) p7) X.env := by rfl)
    (hfew : ((backTo cpos (starEach [.Constant (.int c) n2 pe] X.env)).all (fun x => !x.1) && (backToKw cpos (keywordEach [] X.env)).all (fun x => x.1.isSome)
      && decide ([Expr.Constant (.int c) n2 pe].length + ([] : List Keyword).length + (if ([] : List Keyword).isEmpty then 0 else 1) < 30)) = true := by rfl)
    (hline : (apos.endLine == cpos.line) = true := by rfl) (hst1 : starEach [.Constant (.int c) n2 pe] X.env = (false, eval (.Constant (.int c) n2 pe) X.env) :: starEach [] X.env := by rfl) (hplain : (backTo cpos (starEach [] X.env)).any (·.1) = false := by rfl)
    (hsw : swapsWith (.Call (.Attribute (.Subscript (.Name xa po) (.Constant (.int 1) n3 p6) p7) "append" apos) [.Constant (.int c) n2 pe] [] cpos) none cpos.line X.env = pure false := by rfl) :
    VS X G C W (.For (.Name xa pa) iter [.If tst ra [] ppos, .Expr (.Call (.Attribute (.Subscript (.Name xa po) (.Constant (.int 1) n3 p6) p7) "append" apos) [.Constant (.int c) n2 pe] [] cpos) cpos] [] pos) (cForGA i p a c) := by
  have body : PSs X [.If tst ra [] ppos, .Expr (.Call (.Attribute (.Subscript (.Name xa po) (.Constant (.int 1) n3 p6) p7) "append" apos) [.Constant (.int c) n2 pe] [] cpos) cpos] (fun D s H => ∃ (tt : Addr) (w0 : V) (bb : Addr) (ws : List V), s[a]? = some (some (.ref tt)) ∧ H tt = some (.tup [w0, .ref bb]) ∧ H bb = some (.lst ws) ∧ ws.length < sizeLine ∧ D.nx s (upd H bb (.lst (ws ++ [.int c])))) :=
    PSs.imp (pss_cons (ps_if hT hR pss_nil) (pss_one (ps_expr (pe_bm PySem.F.plainAttrs_list PySem.F.slot_list_append PySem.F.type_list_append mt_append (pe_ix ix_seq (pe_var ha (hla.elim .inl fun z => .inr (.inl z)) hdb hcb) pe_int hix) (pa_cons pe_int pa_nil hst1) hbase hfew hline hst1 hplain) hsw))) fun D s H h => by
      obtain ⟨tt, w0, bb, ws, h1, h2, h3, h4, h5⟩ := h
      refine ⟨tt, w0, bb, ws, h1, h2, h3, ?_⟩
      show if (false : Bool) = true then _ else _
      rw [if_neg (by decide)]
      exact ⟨.ref tt, h1, .inr (.inl ⟨tt, [w0, .ref bb], 1, .ref bb, rfl, rfl, SqT.of h2, rfl, .inl ⟨rfl, ws, SqL.of h3⟩, bb, ws, .int c, rfl, rfl, h3, h4, h5⟩)⟩
  refine PS.imp (ps_for hp hc (pi_list he) (pg_name hND ha hla hfa) body hs) fun E s H h => ?_
  obtain ⟨r, T, S, h⟩ := h
  unfold cForGA at h
  split at h
  · rename_i d q0
    split at h
    · rename_i o ds hat
      split at h
      · rename_i es hes
        split at h
        case isFalse => exact h.elim
        rename_i hbr
        obtain ⟨ow, S⟩ := S
        obtain ⟨v, z1, z2⟩ := S.sl i d q0
        obtain ⟨u, g1, g2⟩ := Rep.atP p z2 hat
        obtain ⟨aL, vs, eu, hL, _, hys⟩ := g2
        subst eu
        have hL : H aL = some (.lst vs) := hL
        have hlen := hys.length
        have hel := appAll_len hes
        refine ⟨v, .ref aL, z1, g1, aL, rfl, ⟨vs, SqL.of hL⟩, ?_⟩
        let rl : Nat → Rho := fun l => if l = 0 then r else (r.set i (some (VL.setP p (.node .lst o (es.take l ++ ds.drop l)) d))).set a (some .any)
        have hil : i < r.length := (List.getElem?_eq_some_iff.mp q0).1
        have rli : ∀ l, (rl l)[i]? = some (some (VL.setP p (.node .lst o (es.take l ++ ds.drop l)) d)) := fun l => by
          by_cases h0 : l = 0
          · subst h0
            show (if (0 : Nat) = 0 then r else _)[i]? = _
            rw [if_pos rfl, q0, List.take_zero, List.drop_zero, List.nil_append, setP_self hat]
          · show (if l = 0 then r else _)[i]? = _
            rw [if_neg h0, List.getElem?_set_ne (Ne.symm hia), List.getElem?_set_self hil]
        refine ⟨fun l m s' H' => m = ds.length - l ∧ l ≤ ds.length ∧ s'[i]? = some (some v) ∧ PathV H' v p (.ref aL) ∧ H' aL = some (.lst vs) ∧ StOk G C (rl l) T s' H', ⟨ds.length, rfl, Nat.zero_le _, z1, g1, hL, by show StOk G C (if (0 : Nat) = 0 then r else _) T s H; rw [if_pos rfl]; exact ⟨ow, S⟩⟩, ?_⟩
        rintro l m s' H' ⟨rfl, hl0, hpi, hpv, hH', ⟨ow', S'⟩⟩
        by_cases hlt : l < ds.length
        · have hdl : (es.take l ++ ds.drop l)[l]? = some ds[l] := by
            rw [List.getElem?_append_right (by rw [List.length_take]; omega), List.length_take, Nat.min_eq_left (by omega), Nat.sub_self, List.getElem?_drop, Nat.add_zero, List.getElem?_eq_getElem hlt]
          obtain ⟨o2, x, ys, ed, hyl, hesl⟩ := appAll_get hes (List.getElem?_eq_getElem hlt)
          rw [ed] at hdl
          have hat' : VL.atP p (VL.setP p (.node .lst o (es.take l ++ ds.drop l)) d) = some (.node .lst o (es.take l ++ ds.drop l)) := atP_setP hat
          have hat3 : VL.atP (p ++ [l, 1]) (VL.setP p (.node .lst o (es.take l ++ ds.drop l)) d) = some (.node .lst true ys) := by
            rw [atP_cat hat']
            exact atP_mk rfl hdl (atP_mk rfl rfl rfl)
          obtain ⟨v', bb, ws, y1, y2, y3, y4, y5, ob, all⟩ := S'.setP (rli l) hat3
          rw [hpi] at y1
          cases y1
          obtain ⟨keep, put, far⟩ := all (.lst (ws ++ [.int c])) trivial
          have hat2 : VL.atP (p ++ [l]) (VL.setP p (.node .lst o (es.take l ++ ds.drop l)) d) = some (.node .tup o2 [x, .node .lst true ys]) := by
            rw [atP_cat hat']
            exact atP_mk rfl hdl rfl
          obtain ⟨v3, w1, w2⟩ := S'.sl i _ (rli l)
          rw [hpi] at w1
          cases w1
          obtain ⟨u3, k1, k2⟩ := Rep.atP (p ++ [l]) w2 hat2
          obtain ⟨tt, vs3, e3, htt, _, hv3⟩ := k2
          subst e3
          have htt : H' tt = some (.tup vs3) := htt
          obtain ⟨w0, r3, ev3, _, b3, r4, er3, _, er4⟩ := hv3
          have er4 : r4 = [] := er4
          subst er4; subst er3; subst ev3
          have pb : PathV H' v (p ++ [l] ++ [1]) b3 := k1.snoc (.inr htt) rfl
          rw [List.append_assoc] at pb
          have e3 : b3 = .ref bb := pb.one y2
          subst e3
          obtain ⟨a', vs', p1, p2, p3⟩ := k1.unsnoc
          have ea : V.ref a' = .ref aL := p1.one hpv
          cases ea
          have evs : vs' = vs := by
            rcases p2 with z | z
            · rw [hH'] at z; cases z; rfl
            · rw [hH'] at z; cases z
          subst evs
          obtain ⟨kp1, aa, ea, hne⟩ := keep p [l, 1] (.ref aL) rfl (by simp) hpv
          cases ea
          have hbl : a < s'.length := by
            rw [← S'.len]
            show a < (if l = 0 then r else _).length
            split
            · exact hbr
            · simpa using hbr
          refine .inr ⟨⟨vs', .ref tt, SqL.of hH', p3⟩, fun s3 H3 => s3[i]? = some (some v) ∧ PathV H3 v p (.ref aL) ∧ H3 aL = some (.lst vs') ∧ StOk G C (rl (l + 1)) T s3 H3, fun s3 H3 n3 => ⟨ds.length - (l + 1), by omega, rfl, hlt, n3⟩, fun x3 H2 yl => ?_⟩
          obtain ⟨e1, e2⟩ := yl
          subst e1
          have ex := e2 vs' (SqL.of hH')
          rw [p3] at ex
          cases ex
          refine ⟨tt, w0, bb, ws, List.getElem?_set_self (by simpa using hbl), htt, y3, Nat.lt_of_lt_of_le (show ws.length < 16777216 by omega) (by decide), ?_, kp1, by rw [upd_ne hne]; exact hH', ?_⟩
          · rw [List.getElem?_set_ne (Ne.symm hia)]; exact hpi
          · have rep' : Rep G ow' (upd H2 bb (.lst (ws ++ [.int c]))) (.node .lst true (ys ++ [.int c])) ⟨.sl i, p ++ [l, 1]⟩ (.ref bb) := by
              refine ⟨bb, ws ++ [V.int c], rfl, upd_same, .mk (by rw [ob]; rfl), Reps.of_get (by rw [List.length_append, List.length_append, y4]; rfl) fun j d' v' x1 x2 => ?_⟩
              by_cases hj : j < ys.length
              · rw [List.getElem?_append_left hj] at x1
                rw [List.getElem?_append_left (by omega)] at x2
                obtain ⟨v2, g3, g4⟩ := y5.get j d' x1
                rw [x2] at g3
                cases g3
                rw [Nat.zero_add] at g4 ⊢
                exact far d' [] v' j g4
              · rw [List.getElem?_append_right (by omega)] at x1
                rw [List.getElem?_append_right (by omega), ← y4] at x2
                have e0 : j - ys.length = 0 := by
                  have := (List.getElem?_eq_some_iff.mp x1).1
                  simp at this; omega
                rw [e0] at x1 x2
                cases x1
                cases x2
                rfl
            have S2 := put _ rep'
            have ed2 : VL.setP (p ++ [l, 1]) (.node .lst true (ys ++ [.int c])) (VL.setP p (.node .lst o (es.take l ++ ds.drop l)) d) = VL.setP p (.node .lst o (es.take (l + 1) ++ ds.drop (l + 1))) d := by
              rw [setP_app hat', setP_setP hat, setP_mk hdl, setP_mk (show ([x, D.node .lst true ys] : List D)[1]? = some (.node .lst true ys) from rfl)]
              congr 2
              have hle : l < es.length := by omega
              rw [List.set_append_right _ _ (by rw [List.length_take]; omega), List.length_take, Nat.min_eq_left (by omega), Nat.sub_self, List.take_succ, hesl]
              simp [VL.setP]
              rw [← List.getElem_cons_drop hlt]
              rfl
            rw [ed2] at S2
            have S4 := StOk.set (i := a) ⟨_, S2.push (d := .any) (v := .ref tt) trivial⟩ pna
            have er : ((rl l).set i (some (VL.setP p (.node .lst o (es.take (l + 1) ++ ds.drop (l + 1))) d))).set a (some .any) = rl (l + 1) := by
              show (List.set (if l = 0 then r else _) i _).set a _ = (if l + 1 = 0 then r else _)
              rw [if_neg (Nat.succ_ne_zero l)]
              split
              · rfl
              · rw [List.set_comm _ _ (Ne.symm hia), List.set_set, List.set_set]
            rw [er] at S4
            exact S4
        · have ej : l = ds.length := by omega
          subst ej
          refine .inl ⟨⟨vs, SqL.of hH', by rw [← hlen]; exact Nat.le_refl _⟩, h s' H' ?_⟩
          have e : rl ds.length = (if ds = [] then r else (r.set i (some (VL.setP p (.node .lst o es) d))).set a (some .any)) := by
            show (if ds.length = 0 then r else _) = _
            by_cases h0 : ds = []
            · rw [if_pos h0, if_pos (by rw [h0]; rfl)]
            · rw [if_neg h0, if_neg (fun z => h0 (List.eq_nil_of_length_eq_zero z)), List.drop_length, List.append_nil, List.take_of_length_le (by omega)]
          rw [e] at S'
          exact ⟨ow', S'⟩
      · exact h.elim
    · exact h.elim
  · exact h.elim
end
end VL

namespace VL
open PySem PySem.Spec PyProof.Rows L2
abbrev FKl (x : Str) (s : Stmt) : Prop := List.lookup x (defScope s).names = some .local
abbrev FKg (x : Str) (s : Stmt) : Prop := List.lookup x (defScope s).names = some .globalImplicit
abbrev FNi (l : List Str) (i : Nat) (x : Str) : Prop := l[i]? = some x
abbrev FDb (x : Str) : Prop := (x == ("__debug__" : Str)) = false
abbrev FCd (x : Str) : Prop := (x == ("__classdict__" : Str)) = false
end VL
namespace K81
def tab : Tab := []
noncomputable def f__law_pool : Sv := (cSeq (cAsg (.nm 2) (cC (.int 0)))
  (cSeq (cIfS (cBin gLt (cVar 1) (cB (b1 lenD) (cCons (cVar 0) cNil))) (cAsg (.nm 2) (cBin gIx (cVar 0) (cVar 1))) cSkip)
  (cRet (cLst (cCons (cSet (cBin gDiv (cVar 2) (cC (.int 2)))) (cCons (cSet (cBin gMod (cVar 2) (cC (.int 2)))) (cCons (cSet (cBin gMul (cC (.int 7)) (cVar 1))) cNil)))))))
noncomputable def F__law_pool : List D → FO := runF 3 f__law_pool
noncomputable def f__law_take : Sv := (cSeq (cIfS (cBin gEq (cBin gIx (cVar 0) (cC (.int 1))) (cC (.int 1))) (cSeq (cAsg (.nm 2) (cBin gMod (cBin gIx (cVar 0) (cC (.int 0))) (cVar 1)))
  (cSeq (cSetIx 0 (cC (.int 0)) (cBin gDiv (cBin gIx (cVar 0) (cC (.int 0))) (cVar 1)))
  (cRet (cVar 2)))) cSkip)
  (cSeq (cSetIx 0 (cC (.int 2)) (cBin gAdd (cBin gIx (cVar 0) (cC (.int 2))) (cC (.int 1))))
  (cSeq (cAsg (.nm 3) (cBin gIx (cVar 0) (cC (.int 2))))
  (cSeq (cAsg (.nm 4) (cBin gMul (cBin gAdd (cBin gMod (cBin gIx (cVar 0) (cC (.int 0))) (cC (.int 9999999833))) (cC (.int 401))) (cBin gAdd (cBin gMul (cC (.int 7)) (cVar 3)) (cC (.int 19)))))
  (cSeq (cAsg (.nm 4) (cBin gAdd (cVar 4) (cBin gMul (cBin gMul (cC (.int 3001)) (cVar 3)) (cVar 3))))
  (cSeq (cAsg (.nm 4) (cBin gMod (cBin gMul (cVar 4) (cVar 4)) (cC (.int 99999999829))))
  (cRet (cBin gMod (cBin gDiv (cBin gMod (cBin gMul (cVar 4) (cBin gAdd (cVar 4) (cC (.int 11)))) (cC (.int 99999999821))) (cC (.int 53))) (cVar 1)))))))))
noncomputable def F__law_take : D → List D → MO := runQ 0 5 f__law_take
noncomputable def f__law_bits : Sv := (cSeq (cAsg (.nm 1) (cLst (cCons (cSet (cCallQ 0 1 F__law_take (cCons (cVar 0) (cCons (cSet (cC (.int 9))) cNil)))) (cCons (cSet (cCallQ 0 1 F__law_take (cCons (cVar 0) (cCons (cSet (cC (.int 40))) cNil)))) (cCons (cSet (cCallQ 0 1 F__law_take (cCons (cVar 0) (cCons (cSet (cC (.int 300))) cNil)))) cNil)))))
  (cSeq (cAsg (.nm 2) (cBin gIx (cVar 1) (cBin gIx (cLst (cCons (cSet (cC (.int 0))) (cCons (cSet (cC (.int 0))) (cCons (cSet (cC (.int 1))) (cCons (cSet (cC (.int 1))) (cCons (cSet (cC (.int 1))) (cCons (cSet (cC (.int 2))) (cCons (cSet (cC (.int 0))) (cCons (cSet (cC (.int 1))) cNil))))))))) (cCallQ 0 1 F__law_take (cCons (cVar 0) (cCons (cSet (cC (.int 8))) cNil))))))
  (cSeq (cAsg (.nm 3) (cCallQ 0 1 F__law_take (cCons (cVar 0) (cCons (cSet (cC (.int 4))) cNil))))
  (cSeq (cIfS (cBin gEq (cVar 3) (cC (.int 0))) (cRet (cBin gMul (cLst (cCons (cSet (cC (.int 0))) cNil)) (cVar 2))) cSkip)
  (cSeq (cIfS (cBin gEq (cVar 3) (cC (.int 1))) (cRet (cBin gMul (cLst (cCons (cSet (cC (.int 1))) cNil)) (cVar 2))) cSkip)
  (cRet (cLc [4] (.nm 4) (iRng rngI1 (cCons (cVar 2) cNil)) none (cCallQ 0 1 F__law_take (cCons (cVar 0) (cCons (cSet (cC (.int 2))) cNil))))))))))
noncomputable def F__law_bits : D → List D → MO := runQ 0 5 f__law_bits
noncomputable def f__law_container : Sv := (cSeq (cAsg (.nm 1) (cCall 2 F__law_pool (cCons (cVar 0) (cCons (cC (.int 0)) cNil))))
  (cSeq (cAsg (.nm 2) (cBin gAdd (cC (.int 1)) (cCallQ 0 1 F__law_take (cCons (cVar 1) (cCons (cSet (cC (.int 64))) cNil)))))
  (cSeq (cAsg (.nm 3) (cB (gMin2) (cCons (cC (.int 64)) (cCons (cBin gDiv (cC (.int 400)) (cVar 2)) cNil))))
  (cSeq (cAsg (.nm 4) (cBin gIx (cLst (cCons (cSet (cC (.int 4))) (cCons (cSet (cC (.int 9))) (cCons (cSet (cC (.int 64))) cNil)))) (cBin gIx (cLst (cCons (cSet (cC (.int 0))) (cCons (cSet (cC (.int 0))) (cCons (cSet (cC (.int 0))) (cCons (cSet (cC (.int 1))) (cCons (cSet (cC (.int 1))) (cCons (cSet (cC (.int 1))) (cCons (cSet (cC (.int 1))) (cCons (cSet (cC (.int 2))) cNil))))))))) (cCallQ 0 1 F__law_take (cCons (cVar 1) (cCons (cSet (cC (.int 8))) cNil))))))
  (cSeq (cAsg (.nm 5) (cBin gAdd (cC (.int 1)) (cCallQ 0 1 F__law_take (cCons (cVar 1) (cCons (cSet (cB (gMin2) (cCons (cVar 3) (cCons (cVar 4) cNil)))) cNil)))))
  (cSeq (cAsg (.nm 6) (cBin gAdd (cBin gAdd (cBin gMul (cVar 2) (cBin gSub (cVar 5) (cC (.int 1)))) (cC (.int 1))) (cCallQ 0 1 F__law_take (cCons (cVar 1) (cCons (cSet (cVar 2)) cNil)))))
  (cSeq (cAsg (.nm 7) (cLst cNil))
  (cSeq (cFor (.nm 8) (iRng rngI1 (cCons (cVar 5) cNil)) (cSeq (cAsg (.nm 9) (cCall 2 F__law_pool (cCons (cVar 0) (cCons (cBin gAdd (cC (.int 2)) (cVar 8)) cNil))))
  (cSeq (cAsg (.nm 10) (cBin gIx (cLst (cCons (cSet (cCallQ 0 1 F__law_take (cCons (cVar 9) (cCons (cSet (cC (.int 6))) cNil)))) (cCons (cSet (cCallQ 0 1 F__law_take (cCons (cVar 9) (cCons (cSet (cC (.int 256))) cNil)))) (cCons (cSet (cC (.int 255))) cNil)))) (cBin gIx (cLst (cCons (cSet (cC (.int 0))) (cCons (cSet (cC (.int 0))) (cCons (cSet (cC (.int 1))) (cCons (cSet (cC (.int 2))) cNil))))) (cCallQ 0 1 F__law_take (cCons (cVar 9) (cCons (cSet (cC (.int 4))) cNil))))))
  (cExpr (cApp 7 (cTup (cCons (cSet (cVar 10)) (cCons (cSet (cCallQ 0 0 F__law_bits (cCons (cVar 9) cNil))) cNil))))))))
  (cRet (cTup (cCons (cSet (cVar 2)) (cCons (cSet (cVar 6)) (cCons (cSet (cVar 7)) cNil)))))))))))))
noncomputable def F__law_container : List D → FO := runF 11 f__law_container
noncomputable def f_turned_over : Sv := (cSeq (cAsg (.nm 1) (cC (.int 1)))
  (cSeq (cFor (.nm 2) (iRng rngI1 (cCons (cC (.int 8)) cNil)) (cAsg (.nm 1) (cBin gMod (cBin gMul (cBin gMul (cVar 1) (cVar 1)) (cVar 0)) (cC (.int 257)))))
  (cRet (cVar 1))))
noncomputable def F_turned_over : List D → FO := runF 3 f_turned_over
noncomputable def f_shares_at : Sv := (cSeq (cAsg (.nm 2) (cLst cNil))
  (cSeq (cFor (.nm 3) (iLst (cVar 0)) (cSeq (cAsg (.nm 4) (cC (.int 1)))
  (cSeq (cAsg (.nm 5) (cC (.int 1)))
  (cSeq (cFor (.nm 6) (iLst (cVar 0)) (cIfS (cBin gNe (cVar 6) (cVar 3)) (cSeq (cAsg (.nm 4) (cBin gMod (cBin gMul (cVar 4) (cBin gSub (cVar 1) (cVar 6))) (cC (.int 257))))
  (cAsg (.nm 5) (cBin gMod (cBin gMul (cVar 5) (cBin gSub (cVar 3) (cVar 6))) (cC (.int 257))))) cSkip))
  (cExpr (cApp 2 (cBin gMod (cBin gMul (cVar 4) (cCall 1 F_turned_over (cCons (cVar 5) cNil))) (cC (.int 257)))))))))
  (cRet (cVar 2))))
noncomputable def F_shares_at : List D → FO := runF 7 f_shares_at
noncomputable def f_row_at : Sv := (cSeq (cAsg (.nm 3) (cCall 2 F_shares_at (cCons (cVar 1) (cCons (cVar 2) cNil))))
  (cSeq (cAsg (.nm 4) (cLst cNil))
  (cSeq (cFor (.nm 5) (iRng rngI1 (cCons (cB (b1 lenD) (cCons (cBin gIx (cVar 0) (cBin gIx (cVar 1) (cC (.int 0)))) cNil)) cNil)) (cExpr (cApp 4 (cBin gMod (cB (b1 sumD) (cCons (cLc [6, 7] (.tp [6, 7]) (iRng gZip (cCons (cSet (cVar 3)) (cCons (cSet (cVar 1)) cNil))) none (cBin gMul (cVar 6) (cBin gIx (cBin gIx (cVar 0) (cVar 7)) (cVar 5)))) cNil)) (cC (.int 257))))))
  (cRet (cVar 4)))))
noncomputable def F_row_at : List D → FO := runF 8 f_row_at
noncomputable def f_spares_of : Sv := (cSeq (cAsg (.nm 2) (cListRg1 (cB (b1 lenD) (cCons (cVar 0) cNil))))
  (cRet (cLc [3] (.nm 3) (iRng rngI1 (cCons (cVar 1) cNil)) none (cCall 3 F_row_at (cCons (cVar 0) (cCons (cVar 2) (cCons (cBin gAdd (cB (b1 lenD) (cCons (cVar 0) cNil)) (cVar 3)) cNil)))))))
noncomputable def F_spares_of : List D → FO := runF 4 f_spares_of
noncomputable def f_need_container : Sv := (cSeq (cAsg (.tp [1, 2, 3]) (cVar 0))
  (cSeq (cIfS (cOr (cNot (cChain (fun i j => decide (i ≤ j)) (fun i j => decide (i ≤ j)) (cC (.int 1)) (cVar 1) (cC (.int 64)))) (cOr (cNot (cChain (fun i j => decide (i ≤ j)) (fun i j => decide (i ≤ j)) (cC (.int 0)) (cVar 2) (cC (.int 400)))) (cBin gNe (cB (b1 lenD) (cCons (cVar 3) cNil)) (cBin gDiv (cBin gSub (cBin gAdd (cVar 2) (cVar 1)) (cC (.int 1))) (cVar 1))))) (cRaise 2) cSkip)
  (cFor (.nm 4) (iLst (cVar 3)) (cIfS (cAnd (cBin gIsNot (cVar 4) (cC .non)) (cBin gLt (cBin gIx (cVar 4) (cC (.int 0))) (cC (.int 0)))) (cRaise 2) cSkip))))
noncomputable def F_need_container : List D → FO := runF 5 f_need_container
noncomputable def f_need_block : Sv := (cSeq (cAsg (.tp [1, 2]) (cVar 0))
  (cSeq (cIfS (cOr (cBin gGt (cVar 1) (cC (.int 255))) (cBin gGt (cB (b1 lenD) (cCons (cVar 2) cNil)) (cC (.int 65535)))) (cRaise 1) cSkip)
  (cFor (.nm 3) (iLst (cVar 2)) (cIfS (cOr (cNot (cB (gIsi (etab tab)) (cCons (cVar 3) (cCons (cC (.ty "int")) cNil)))) (cOr (cB (gIsi (etab tab)) (cCons (cVar 3) (cCons (cC (.ty "bool")) cNil))) (cBin gNotIn (cVar 3) (cTup (cCons (cSet (cC (.int 0))) (cCons (cSet (cC (.int 1))) cNil)))))) (cRaise 1) cSkip))))
noncomputable def F_need_block : List D → FO := runF 4 f_need_block
noncomputable def f_need_blocks : Sv := (cSeq (cExpr (cCall 1 F_need_container (cCons (cVar 0) cNil)))
  (cSeq (cAsg (.nm 1) (cBin gIx (cVar 0) (cC (.int 2))))
  (cSeq (cIfS (cNot (cChain (fun i j => decide (i ≤ j)) (fun i j => decide (i ≤ j)) (cC (.int 1)) (cB (b1 lenD) (cCons (cVar 1) cNil)) (cC (.int 64)))) (cRaise 1) cSkip)
  (cFor (.nm 2) (iLst (cVar 1)) (cIfS (cBin gIsNot (cVar 2) (cC .non)) (cExpr (cCall 1 F_need_block (cCons (cVar 2) cNil))) cSkip)))))
noncomputable def F_need_blocks : List D → FO := runF 3 f_need_blocks
noncomputable def f_short_row : Sv := (cSeq (cAsg (.tp [1, 2]) (cVar 0))
  (cSeq (cAsg (.nm 3) (cLst (cCons (cSet (cVar 1)) (cCons (cSet (cBin gDiv (cB (b1 lenD) (cCons (cVar 2) cNil)) (cC (.int 256)))) (cCons (cSet (cBin gMod (cB (b1 lenD) (cCons (cVar 2) cNil)) (cC (.int 256)))) cNil)))))
  (cSeq (cFor (.nm 4) (iRng rngI3 (cCons (cC (.int 0)) (cCons (cB (b1 lenD) (cCons (cVar 2) cNil)) (cCons (cC (.int 8)) cNil)))) (cSeq (cAsg (.nm 5) (cC (.int 0)))
  (cSeq (cFor (.nm 6) (iLst (cSl (cBin gAdd (cSl (cVar 2) (some (cVar 4)) (some (cBin gAdd (cVar 4) (cC (.int 8))))) (cBin gMul (cLst (cCons (cSet (cC (.int 0))) cNil)) (cC (.int 8)))) none (some (cC (.int 8))))) (cAsg (.nm 5) (cBin gAdd (cBin gMul (cC (.int 2)) (cVar 5)) (cVar 6))))
  (cExpr (cApp 3 (cVar 5))))))
  (cRet (cVar 3)))))
noncomputable def F_short_row : List D → FO := runF 7 f_short_row
noncomputable def f_slab_of : Sv := (cSeq (cExpr (cCall 1 F_need_blocks (cCons (cVar 0) cNil)))
  (cSeq (cAsg (.nm 1) (cLc [3] (.nm 3) (iLst (cBin gIx (cVar 0) (cC (.int 2)))) none (cCall 1 F_short_row (cCons (cVar 3) cNil))))
  (cSeq (cAsg (.nm 2) (cB (b1 maxD) (cCons (cLc [4] (.nm 4) (iLst (cVar 1)) none (cB (b1 lenD) (cCons (cVar 4) cNil))) cNil)))
  (cRet (cLc [4] (.nm 4) (iLst (cVar 1)) none (cBin gAdd (cVar 4) (cBin gMul (cLst (cCons (cSet (cC (.int 0))) cNil)) (cBin gSub (cVar 2) (cB (b1 lenD) (cCons (cVar 4) cNil))))))))))
noncomputable def F_slab_of : List D → FO := runF 5 f_slab_of
noncomputable def f__law_some : Sv := (cSeq (cAsg (.nm 3) (cBin gAdd (cLc [5, 6] (.tp [5, 6]) (iLst (cVar 0)) none (cTup (cCons (cSet (cVar 5)) (cCons (cSet (cB (gListOf) (cCons (cVar 6) cNil))) cNil)))) (cLc [7] (.nm 7) (iLst (cVar 1)) none (cB (gListOf) (cCons (cVar 7) cNil)))))
  (cSeq (cFor (.nm 4) (iRng rngI1 (cCons (cBin gIx (cLst (cCons (cSet (cB (b1 lenD) (cCons (cVar 1) cNil))) (cCons (cSet (cCallQ 0 1 F__law_take (cCons (cVar 2) (cCons (cSet (cBin gAdd (cB (b1 lenD) (cCons (cVar 1) cNil)) (cC (.int 1)))) cNil)))) cNil))) (cCallQ 0 1 F__law_take (cCons (cVar 2) (cCons (cSet (cC (.int 2))) cNil)))) cNil)) (cSetIx 3 (cCallQ 0 1 F__law_take (cCons (cVar 2) (cCons (cSet (cBin gIx (cLst (cCons (cSet (cB (b1 lenD) (cCons (cVar 0) cNil))) (cCons (cSet (cB (b1 lenD) (cCons (cVar 3) cNil))) cNil))) (cCallQ 0 1 F__law_take (cCons (cVar 2) (cCons (cSet (cC (.int 2))) cNil))))) cNil))) (cC .non)))
  (cRet (cVar 3))))
noncomputable def F__law_some : D → List D → MO := runQ 2 8 f__law_some
noncomputable def f_need_rows : Sv := (cSeq (cAsg (.nm 2) (cLc [3] (.nm 3) (iLst (cVar 0)) (some (cBin gIsNot (cVar 3) (cC .non))) (cVar 3)))
  (cSeq (cIfS (cOr (cNot (cChain (fun i j => decide (i ≤ j)) (fun i j => decide (i ≤ j)) (cC (.int 1)) (cVar 1) (cC (.int 64)))) (cNot (cChain (fun i j => decide (i ≤ j)) (fun i j => decide (i ≤ j)) (cVar 1) (cB (b1 lenD) (cCons (cVar 0) cNil)) (cBin gAdd (cVar 1) (cC (.int 16)))))) (cRaise 2) cSkip)
  (cFor (.nm 3) (iLst (cVar 2)) (cSeq (cIfS (cBin gNe (cB (b1 lenD) (cCons (cVar 3) cNil)) (cB (b1 lenD) (cCons (cBin gIx (cVar 2) (cC (.int 0))) cNil))) (cRaise 2) cSkip)
  (cFor (.nm 4) (iLst (cVar 3)) (cIfS (cOr (cBin gLt (cVar 4) (cC (.int 0))) (cBin gGe (cVar 4) (cC (.int 257)))) (cRaise 2) cSkip))))))
noncomputable def F_need_rows : List D → FO := runF 5 f_need_rows
noncomputable def f_all_by : Sv := (cSeq (cAsg (.nm 2) (cLst cNil))
  (cSeq (cFor (.nm 3) (iRng rngI1 (cCons (cB (b1 lenD) (cCons (cVar 0) cNil)) cNil)) (cIfS (cBin gIn (cVar 3) (cVar 1)) (cExpr (cApp 2 (cB (gListOf) (cCons (cBin gIx (cVar 0) (cVar 3)) cNil)))) (cExpr (cApp 2 (cCall 3 F_row_at (cCons (cVar 0) (cCons (cVar 1) (cCons (cVar 3) cNil))))))))
  (cRet (cVar 2))))
noncomputable def F_all_by : List D → FO := runF 4 f_all_by
noncomputable def f_mend_rows : Sv := (cSeq (cExpr (cCall 2 F_need_rows (cCons (cVar 0) (cCons (cVar 1) cNil))))
  (cSeq (cAsg (.nm 2) (cLc [4] (.nm 4) (iRng rngI1 (cCons (cB (b1 lenD) (cCons (cVar 0) cNil)) cNil)) (some (cBin gIsNot (cBin gIx (cVar 0) (cVar 4)) (cC .non))) (cVar 4)))
  (cSeq (cIfS (cBin gLt (cB (b1 lenD) (cCons (cVar 2) cNil)) (cVar 1)) (cRaise 2) cSkip)
  (cSeq (cAsg (.nm 3) (cCall 2 F_all_by (cCons (cVar 0) (cCons (cSl (cVar 2) none (some (cVar 1))) cNil))))
  (cSeq (cFor (.nm 4) (iLst (cSl (cVar 2) (some (cVar 1)) none)) (cIfS (cPure (cBin gNe (cBin gIx (cVar 3) (cVar 4)) (cB (gListOf) (cCons (cBin gIx (cVar 0) (cVar 4)) cNil)))) (cRaise 2) cSkip))
  (cRet (cVar 3)))))))
noncomputable def F_mend_rows : List D → FO := runF 5 f_mend_rows
noncomputable def f_block_of : Sv := (cSeq (cIfS (cOr (cBin gLt (cB (b1 lenD) (cCons (cVar 0) cNil)) (cC (.int 3))) (cBin gIn (cC (.int 256)) (cVar 0))) (cRaise 2) cSkip)
  (cSeq (cAsg (.nm 1) (cBin gAdd (cBin gMul (cC (.int 256)) (cBin gIx (cVar 0) (cC (.int 1)))) (cBin gIx (cVar 0) (cC (.int 2)))))
  (cSeq (cAsg (.nm 2) (cLst cNil))
  (cSeq (cFor (.nm 3) (iLst (cSl (cVar 0) (some (cC (.int 3))) none)) (cExpr (cExt 2 (cLc [4] (.nm 4) (iRng rngI3 (cCons (cC (.int 7)) (cCons (cNeg (cC (.int 1))) (cCons (cNeg (cC (.int 1))) cNil)))) none (cBin gMod (cBin gDiv (cVar 3) (cBin gShl (cC (.int 1)) (cVar 4))) (cC (.int 2)))))))
  (cSeq (cIfS (cOr (cBin gGt (cVar 1) (cB (b1 lenD) (cCons (cVar 2) cNil))) (cBin gIn (cC (.int 1)) (cSl (cVar 2) (some (cVar 1)) none))) (cRaise 2) cSkip)
  (cRet (cTup (cCons (cSet (cBin gIx (cVar 0) (cC (.int 0)))) (cCons (cSet (cSl (cVar 2) none (some (cVar 1)))) cNil)))))))))
noncomputable def F_block_of : List D → FO := runF 5 f_block_of
noncomputable def f_mended : Sv := (cSeq (cExpr (cCall 1 F_need_blocks (cCons (cVar 0) cNil)))
  (cSeq (cAsg (.tp [2, 3, 4]) (cVar 0))
  (cSeq (cAsg (.nm 5) (cLc [10] (.nm 10) (iLst (cVar 4)) none (cIfE (cBin gIs (cVar 10) (cC .non)) (cC .non) (cCall 1 F_short_row (cCons (cVar 10) cNil)))))
  (cSeq (cAsg (.nm 6) (cLc [11] (.nm 11) (iLst (cBin gAdd (cVar 5) (cB (gListOf) (cCons (cVar 1) cNil)))) (some (cBin gIsNot (cVar 11) (cC .non))) (cVar 11)))
  (cSeq (cAsg (.nm 7) (cB (b1 (maxDefD 0)) (cCons (cLc [11] (.nm 11) (iLst (cVar 6)) none (cB (b1 lenD) (cCons (cVar 11) cNil))) cNil)))
  (cSeq (cAsg (.nm 5) (cLc [11] (.nm 11) (iLst (cVar 5)) none (cIfE (cBin gIs (cVar 11) (cC .non)) (cC .non) (cBin gAdd (cVar 11) (cBin gMul (cLst (cCons (cSet (cC (.int 0))) cNil)) (cBin gSub (cVar 7) (cB (b1 lenD) (cCons (cVar 11) cNil))))))))
  (cSeq (cAsg (.nm 8) (cSl (cCall 2 F_mend_rows (cCons (cBin gAdd (cVar 5) (cB (gListOf) (cCons (cVar 1) cNil))) (cCons (cB (b1 lenD) (cCons (cVar 4) cNil)) cNil))) none (some (cB (b1 lenD) (cCons (cVar 4) cNil)))))
  (cSeq (cAsg (.nm 9) (cTup (cCons (cSet (cVar 2)) (cCons (cSet (cVar 3)) (cCons (cSet (cLc [11] (.nm 11) (iLst (cVar 8)) none (cCall 1 F_block_of (cCons (cVar 11) cNil)))) cNil)))))
  (cSeq (cIfS (cBin gNe (cCall 1 F_slab_of (cCons (cVar 9) cNil)) (cVar 8)) (cRaise 2) cSkip)
  (cRet (cVar 9)))))))))))
noncomputable def F_mended : List D → FO := runF 12 f_mended
noncomputable def f_law : Sv := (cSeq (cAsg (.tp [1, 2, 3]) (cCall 1 F__law_container (cCons (cVar 0) cNil)))
  (cSeq (cAsg (.nm 4) (cTup (cCons (cSet (cVar 1)) (cCons (cSet (cVar 2)) (cCons (cSet (cVar 3)) cNil)))))
  (cSeq (cAsg (.nm 5) (cCall 2 F__law_pool (cCons (cVar 0) (cCons (cC (.int 1)) cNil))))
  (cSeq (cAsg (.nm 6) (cCall 2 F_spares_of (cCons (cCall 1 F_slab_of (cCons (cVar 4) cNil)) (cCons (cBin gIx (cLst (cCons (cSet (cCallQ 0 1 F__law_take (cCons (cVar 5) (cCons (cSet (cC (.int 4))) cNil)))) (cCons (cSet (cCallQ 0 1 F__law_take (cCons (cVar 5) (cCons (cSet (cC (.int 17))) cNil)))) cNil))) (cCallQ 0 1 F__law_take (cCons (cVar 5) (cCons (cSet (cC (.int 2))) cNil)))) cNil))))
  (cSeq (cFor (.nm 7) (iRng rngI1 (cCons (cBin gIx (cLst (cCons (cSet (cC (.int 1))) (cCons (cSet (cC (.int 3))) cNil))) (cB (b1 intD) (cCons (cBin gLt (cB (b1 lenD) (cCons (cVar 3) cNil)) (cC (.int 10))) cNil))) cNil)) (cSeq (cAsg (.nm 8) (cCallQ 2 2 F__law_some (cCons (cSet (cVar 3)) (cCons (cSet (cVar 6)) (cCons (cVar 5) cNil)))))
  (cSeq (cAsg (.nm 9) (cLc [13] (.nm 13) (iLst (cSl (cVar 8) none (some (cB (b1 lenD) (cCons (cVar 3) cNil))))) none (cIfE (cBin gIs (cVar 13) (cC .non)) (cC .non) (cTup (cCons (cSet (cBin gIx (cVar 13) (cC (.int 0)))) (cCons (cSet (cB (gListOf) (cCons (cBin gIx (cVar 13) (cC (.int 1))) cNil))) cNil))))))
  (cSeq (cAsg (.nm 10) (cLc [14] (.nm 14) (iLst (cSl (cVar 8) (some (cB (b1 lenD) (cCons (cVar 3) cNil))) none)) none (cIfE (cBin gIs (cVar 14) (cC .non)) (cC .non) (cB (gListOf) (cCons (cVar 14) cNil)))))
  (cSeq (cAsg (.nm 11) (cCall 2 F_mended (cCons (cTup (cCons (cSet (cVar 1)) (cCons (cSet (cVar 2)) (cCons (cSet (cVar 9)) cNil)))) (cCons (cVar 10) cNil))))
  (cSeq (cIfS (cOr (cNot (cB (gIsi (etab tab)) (cCons (cVar 11) (cCons (cC (.ty "tuple")) cNil)))) (cOr (cBin gNe (cB (b1 lenD) (cCons (cVar 11) cNil)) (cC (.int 3))) (cOr (cNot (cPure (cB (gIsi (etab tab)) (cCons (cBin gIx (cVar 11) (cC (.int 2))) (cCons (cC (.ty "list")) cNil))))) (cBin gNe (cVar 11) (cVar 4))))) (cRet (cC (.bl false))) cSkip)
  (cSeq (cForGA 11 [2] 12 0)
  (cSeq (cIfS (cBin gNe (cPure (cLc [15, 16] (.tp [15, 16]) (iLst (cBin gIx (cVar 11) (cC (.int 2)))) none (cB (b1 lenD) (cCons (cVar 16) cNil)))) (cLc [15, 16] (.tp [15, 16]) (iLst (cVar 3)) none (cBin gAdd (cB (b1 lenD) (cCons (cVar 16) cNil)) (cC (.int 1))))) (cRet (cC (.bl false))) cSkip)
  (cSeq (cExpr (cClrP 11 (cC (.int 2))))
  (cIfS (cBin gNe (cBin gAdd (cVar 9) (cVar 10)) (cVar 8)) (cRet (cC (.bl false))) cSkip))))))))))
  (cRet (cC (.bl true))))))))
noncomputable def F_law : List D → FO := runF 17 f_law
end K81

namespace K81.Sl
open K81
abbrev I (o : Bool) (xs : List Int) : D := .node .lst o (xs.map .int)
theorem cc (n : Int) (r : Rho) : cC (.int n) r = .ok (.val (.int n)) r := rfl
theorem set_val {fa : Ev} {r r1 : Rho} {d : D} (h : fa r = .ok (.val d) r1) : cSet fa r = .ok (.val d) r1 := by
  rw [q_set, h, bd_ok]
theorem set_loc {r : Rho} {i : Nat} {o : Bool} {ds : List D} (h : r[i]? = some (some (.node .lst o ds))) (f : frzs ds = ds) : cSet (cVar i) r = .ok (.val (.node .lst false ds)) (r.set i (some (.node .lst false ds))) := by
  have e : frz (.node .lst o ds) = .node .lst false ds := frz_lst f
  rw [q_set, cvar_loc h rfl, bd_ok]
  show (match opd r (.loc i) with | some d => EO.ok (.val (frz d)) (settle r (.loc i)) | none => .bad) = _
  rw [opd_loc' h, q_settle2, h]
  show EO.ok (R.val (frz (.node .lst o ds))) (r.set i (some (frz (.node .lst o ds)))) = _
  rw [e]
theorem appI {fa : Ev} {r r1 : Rho} {i : Nat} {n : Int} {xs : List Int} (hi : isLst r i = true) (h : fa r = .ok (.val (.int n)) r1) (h2 : r1[i]? = some (some (I true xs))) (hl : xs.length < 16777216) : cExpr (cApp i fa) r = .nx (r1.set i (some (I true (xs ++ [n])))) := by
  rw [app_ok hi h h2 (by rw [List.length_map]; exact hl), I, List.map_append]
  rfl
theorem len_at {r : Rho} {i : Nat} {k : Kd} {o : Bool} {xs : List D} (h : r[i]? = some (some (.node k o xs))) (hk : k = .lst ∨ k = .rd ∨ k = .tup) : cB (b1 lenD) (cCons (cVar i) cNil) r = .ok (.val (.int xs.length)) r :=
  b1_ok (cvar_loc h rfl) (opd_loc' h) (by rcases hk with h | h | h <;> subst h <;> rfl) rfl
theorem len_I {r : Rho} {i : Nat} {o : Bool} {xs : List Int} (h : r[i]? = some (some (I o xs))) : cB (b1 lenD) (cCons (cVar i) cNil) r = .ok (.val (.int xs.length)) r := by
  have e := len_at h (.inl rfl)
  rw [List.length_map] at e
  exact e
theorem cons_ok {fa : Ev} {fs : Av} {r r1 r2 : Rho} {x : R} {xs : List R} (h : fa r = .ok x r1) (h2 : fs r1 = .ok xs r2) : cCons fa fs r = .ok (x :: xs) r2 := by
  rw [q_cons, h]
  show (match fs r1 with | .ok xs r2 => AO.ok (x :: xs) r2 | .exc c r2 => .exc c r2 | .bad => .bad) = _
  rw [h2]
theorem nil_ok (r : Rho) : cNil r = .ok [] r := rfl
theorem call_vals {n : Nat} {F : List D → FO} {fs : Av} {r r1 : Rho} {xs : List R} {ds : List D} {d : D} (h : fs r = .ok xs r1) (h2 : opds r1 xs = some ds) (hn : xs.length = n) (hs : settles r1 xs = r1) (hF : F (frzs ds) = .ok d) : cCall n F fs r = .ok (.val d) r1 := by
  rw [q_call, h]
  show (if xs.length = n then callK F xs r1 else .bad) = _
  rw [if_pos hn, q_callK, h2]
  show (match F (frzs ds) with | .ok d => if noL d = true then EO.ok (.val d) r1 else .ok (.val d) (settles r1 xs) | .exc c => .exc c r1 | .bad => .bad) = _
  rw [hF]
  show (if noL d = true then EO.ok (.val d) r1 else .ok (.val d) (settles r1 xs)) = _
  rw [hs]
  split <;> rfl
theorem call_noL {n : Nat} {F : List D → FO} {fs : Av} {r r1 : Rho} {xs : List R} {ds : List D} {d : D} (h : fs r = .ok xs r1) (h2 : opds r1 xs = some ds) (hn : xs.length = n) (nl : noL d = true) (hF : F (frzs ds) = .ok d) : cCall n F fs r = .ok (.val d) r1 := by
  rw [q_call, h]
  show (if xs.length = n then callK F xs r1 else .bad) = _
  rw [if_pos hn, q_callK, h2]
  show (match F (frzs ds) with | .ok d => if noL d = true then EO.ok (.val d) r1 else .ok (.val d) (settles r1 xs) | .exc c => .exc c r1 | .bad => .bad) = _
  rw [hF]
  show (if noL d = true then EO.ok (.val d) r1 else .ok (.val d) (settles r1 xs)) = _
  rw [if_pos nl]
theorem frz_I (o : Bool) (xs : List Int) : frz (I o xs) = I false xs := frz_ints xs o
abbrev nt (k : Nat) : D := .int (k : Nat)
abbrev L (o : Bool) (ks : List Nat) : D := .node .lst o (ks.map nt)
theorem rng_nt (n : Nat) : rngD 0 1 n = (List.range n).map nt := by
  unfold rngD
  refine List.map_congr_left fun i _ => ?_
  show D.int ((0 : Int) + (i : Nat) * 1) = D.int (i : Nat)
  congr 1; omega
theorem it_rng {fa : Ev} {r r1 : Rho} {n : Nat} (h : fa r = .ok (.val (nt n)) r1) (hn : n ≤ 1000000) : iRng rngI1 (cCons fa cNil) r = .ok ((List.range n).map nt) r1 := by
  rw [q_iRng, q_cons, h]
  show rngI1 r1 [.val (.int (n : Nat))] = _
  rw [q_rng1, if_pos (within_le (by omega) (by omega)), Int.toNat_natCast, rng_nt]
theorem lc_filt {fi : Iv} {v : Nat} {fc : Ev} {r r1 r0 : Rho} (ks : List Nat) (p : Nat → Bool) (hi : fi r = .ok (ks.map nt) r1) (h0 : r1.set v none = r0) (hv : r0[v]? = some none) (hl : ks.length < 16777216)
    (hs : ∀ k ∈ ks, fc (r0.set v (some (nt k))) = .ok (.val (.bl (p k))) (r0.set v (some (nt k)))) : cLc [v] (.nm v) fi (some fc) (cVar v) r = .ok (.val (L true (ks.filter p))) (backR r1 r0 [v]) := by
  have hv2 : v < r0.length := (List.getElem?_eq_some_iff.mp hv).1
  have hw : ∀ d : D, (r0.set v (some d)).set v none = r0 := fun d => by
    rw [List.set_set]
    refine List.ext_getElem? fun j => ?_
    by_cases hj : v = j
    · subst hj
      rw [List.getElem?_set_self hv2, hv]
    · rw [List.getElem?_set_ne hj]
  have e := lc_map (t := .nm v) (fc := some fc) (fe := cVar v) (vs := [v]) (ds := ks.map nt) (p := fun d => match d with | .int n => p n.toNat | _ => false) (q := id) hi h0 (by rw [List.length_map]; exact hl) fun d hd => by
    obtain ⟨k, hk, rfl⟩ := List.mem_map.mp hd
    refine ⟨r0.set v (some (nt k)), rfl, r0.set v (some (nt k)), ?_, hw _, fun _ => ⟨r0.set v (some (nt k)), ?_, hw _⟩⟩
    · exact hs k hk
    · exact set_val (cvar_at (List.getElem?_set_self hv2) rfl)
  rw [e, List.map_id, List.filter_map]
  rfl
theorem ix_get {r : Rho} {i : Nat} {fa : Ev} {o : Bool} {xs : List Int} {n : Nat} (h : r[i]? = some (some (I o xs))) (h2 : fa r = .ok (.val (nt n)) r) (hn : n < xs.length) : cBin gIx (cVar i) fa r = .ok (.val (.int (xs.getD n 0))) r := by
  refine bin_ok (cvar_loc h rfl) h2 ?_
  rw [List.getD_eq_getElem?_getD, List.getElem?_eq_getElem hn]
  exact ix_fz h (frzs_ints _) (at_map hn) rfl
theorem add_nt {fa fb : Ev} {r r1 r2 : Rho} {i j : Nat} (h1 : fa r = .ok (.val (nt i)) r1) (h2 : fb r1 = .ok (.val (nt j)) r2) : cBin gAdd fa fb r = .ok (.val (nt (i + j))) r2 := by
  have e := add_ok h1 h2
  exact e
theorem and_no {fa fb : Ev} {r : Rho} (h : fa r = .ok (.val (.bl false)) r) : cAnd fa fb r = .ok (.val (.bl false)) r := by
  rw [q_and, h, bd_ok]
theorem so : PyData.canLay0 (.str "sign") = true ∧ PyData.canLay0 (.str "copy") = true := by decide +kernel
theorem cs : (("copy" : Str) == "sign") = false := by decide +kernel
theorem part_ok {f : Ev} {r r1 : Rho} {i : Int} {k : Option Int → Rho → EO} (h : f r = .ok (.val (.int i)) r1) : VL.part (some f) r k = k (some i) r1 := by
  show (f r).bd _ = _
  rw [h]
  rfl
theorem sc : (("sign" : Str) == "copy") = false := by decide +kernel
theorem neg_ok {fa : Ev} {r r1 : Rho} {n : Int} (h : fa r = .ok (.val (.int n)) r1) : cNeg fa r = .ok (.val (.int (-n))) r1 := by
  unfold cNeg
  rw [h]
  rfl
theorem lcL_all {α : Type} {enc g : α → D} {t : Tg} {fe : Ev} {vs : List Nat} {r0 : Rho} : ∀ (xs : List α) (acc : List D), acc.length + xs.length < 16777216 →
    (∀ a ∈ xs, ∃ r2, tgt t (enc a) r0 = some r2 ∧ ∃ r3, cSet fe r2 = .ok (.val (g a)) r3 ∧ wipeR r3 vs = r0) → lcL t none fe vs (xs.map enc) acc r0 = .ok (acc ++ xs.map g) r0
  | [], acc, _, _ => by simp [lcL]
  | a :: xs, acc, hl, hs => by
    simp only [List.length_cons] at hl
    obtain ⟨r2, e1, r3, e2, e3⟩ := hs a List.mem_cons_self
    rw [List.map_cons]
    unfold lcL
    rw [e1]
    show (match cSet fe r2 with | .ok (.val e) r3 => if acc.length < 16777216 then lcL t none fe vs (xs.map enc) (acc ++ [e]) (wipeR r3 vs) else .bad | _ => LO.bad) = _
    rw [e2]
    show (if acc.length < 16777216 then lcL t none fe vs (xs.map enc) (acc ++ [g a]) (wipeR r3 vs) else LO.bad) = _
    rw [if_pos (by omega), e3, lcL_all xs (acc ++ [g a]) (by rw [List.length_append, List.length_singleton]; omega) (fun x hx => hs x (List.mem_cons_of_mem _ hx)), List.append_assoc]
    rfl
theorem lc_all {α : Type} {enc g : α → D} {fi : Iv} {t : Tg} {fe : Ev} {vs : List Nat} {r r1 r0 : Rho} (xs : List α) (hi : fi r = .ok (xs.map enc) r1) (h0 : wipeR r1 vs = r0) (hl : xs.length < 16777216)
    (hs : ∀ a ∈ xs, ∃ r2, tgt t (enc a) r0 = some r2 ∧ ∃ r3, cSet fe r2 = .ok (.val (g a)) r3 ∧ wipeR r3 vs = r0) : cLc vs t fi none fe r = .ok (.val (.node .lst true (xs.map g))) (backR r1 r0 vs) := by
  rw [q_lc, hi]
  show (match lcL t none fe vs (xs.map enc) [] (wipeR r1 vs) with | .ok acc r2 => EO.ok (.val (.node .lst true acc)) (backR r1 r2 vs) | .bad => .bad) = _
  rw [h0, lcL_all xs [] (by simpa using hl) hs]
  rfl
theorem sl_to {r : Rho} {i : Nat} {o : Bool} {xs : List Int} {m : Nat} {fh : Ev} (h : r[i]? = some (some (I o xs))) (hh : fh r = .ok (.val (nt m)) r) : cSl (cVar i) none (some fh) r = .ok (.val (I true (xs.take m))) r := by
  have e := sl_ok (fa := cVar i) (r := r) (lo := none) (hi := some fh) (l := none) (h := some ((m : Nat) : Int)) (k := .lst) (o := o) (xs := xs.map .int) (.inl rfl) (cvar_loc h rfl) (opd_loc' h) (frzs_ints _) (touch_fz h (frzs_ints _)) rfl (fun {k} => by rw [part_ok hh])
  rw [cutD_to, ← List.map_take] at e
  exact e
theorem sl_of {r : Rho} {i : Nat} {o : Bool} {xs : List Int} {m : Nat} {fl : Ev} (h : r[i]? = some (some (I o xs))) (hh : fl r = .ok (.val (nt m)) r) : cSl (cVar i) (some fl) none r = .ok (.val (I true (xs.drop m))) r := by
  have e := sl_ok (fa := cVar i) (r := r) (lo := some fl) (hi := none) (l := some ((m : Nat) : Int)) (h := none) (k := .lst) (o := o) (xs := xs.map .int) (.inl rfl) (cvar_loc h rfl) (opd_loc' h) (frzs_ints _) (touch_fz h (frzs_ints _)) (fun {k} => by rw [part_ok hh]) rfl
  rw [cutD_of, ← List.map_drop] at e
  exact e
theorem it_fz {r : Rho} {i : Nat} {o : Bool} {ds : List D} (h : r[i]? = some (some (.node .lst o ds))) : iLst (cVar i) r = .ok (frzs ds) (r.set i (some (.node .lst false (frzs ds)))) := by
  have e : cSet (cVar i) r = .ok (.val (.node .lst false (frzs ds))) (r.set i (some (.node .lst false (frzs ds)))) := by
    rw [q_set, cvar_loc h rfl, bd_ok]
    show (match opd r (.loc i) with | some d => EO.ok (.val (frz d)) (settle r (.loc i)) | none => .bad) = _
    rw [opd_loc' h, q_settle2, h]
    rfl
  show (match cSet (cVar i) r with | .ok (.val (.node .lst _ ds)) r1 => IO.ok ds r1 | .ok (.val (.node .rd _ ds)) r1 => .ok ds r1 | .exc c r1 => .exc c r1 | _ => .bad) = _
  rw [e]
theorem forL_look {v : Nat} {f : Sv} {r0 : Rho} : ∀ (ds : List D), (∀ d ∈ ds, f (r0.set v (some d)) = .nx (r0.set v (some d))) → ∀ x : Option D, ∃ y, forL (.nm v) f ds (r0.set v x) = .nx (r0.set v y)
  | [], _, x => ⟨x, rfl⟩
  | d :: ds, h, x => by
    obtain ⟨y, e⟩ := forL_look ds (fun e he => h e (List.mem_cons_of_mem _ he)) (some d)
    refine ⟨y, (forL_cons (r1 := r0.set v (some d)) ?_ (h d List.mem_cons_self)).trans e⟩
    show some ((r0.set v x).set v (some d)) = _
    rw [List.set_set]
theorem runF_nx {n : Nat} {f : Sv} {ds : List D} {r : Rho} (h : f (startR n ds) = .nx r) : runF n f ds = .ok .non := by
  unfold runF
  rw [h]
end K81.Sl

namespace K81.Sl
open K81
def E (a b : Int) : Prop := a % 257 = b % 257
theorem E.refl (a : Int) : E a a := rfl
theorem E.symm {a b : Int} (h : E a b) : E b a := Eq.symm h
theorem E.trans {a b c : Int} (h : E a b) (h2 : E b c) : E a c := Eq.trans h h2
theorem E.md (a : Int) : E (a % 257) a := Int.emod_emod_of_dvd a (Int.dvd_refl 257)
theorem E.add {a b c d : Int} (h : E a b) (h2 : E c d) : E (a + c) (b + d) := by
  unfold E at *
  rw [Int.add_emod, h, h2, ← Int.add_emod]
theorem E.mul {a b c d : Int} (h : E a b) (h2 : E c d) : E (a * c) (b * d) := by
  unfold E at *
  rw [Int.mul_emod, h, h2, ← Int.mul_emod]
theorem E.sub {a b c d : Int} (h : E a b) (h2 : E c d) : E (a - c) (b - d) := by
  unfold E at *
  rw [Int.sub_emod, h, h2, ← Int.sub_emod]
theorem E.eq {a b : Int} (h : E a b) (h1 : 0 ≤ a) (h2 : a < 257) (h3 : 0 ≤ b) (h4 : b < 257) : a = b := by
  unfold E at h
  omega
def inv (n : Int) : Int := (List.range 8).foldl (fun p _ => p * p * n % 257) 1
theorem inv_res : ∀ n : Fin 257, n.val ≠ 0 → ((n.val : Int) * inv (n.val : Int)) % 257 = 1 := by decide +kernel
theorem inv_ok {n : Int} (h1 : 0 < n) (h2 : n < 257) : E (n * inv n) 1 := by
  have := inv_res ⟨n.toNat, by omega⟩ (by show n.toNat ≠ 0; omega)
  have e : ((n.toNat : Nat) : Int) = n := by omega
  show (n * inv n) % 257 = 1 % 257
  rw [show (((⟨n.toNat, by omega⟩ : Fin 257).val : Nat) : Int) = n from e] at this
  rw [this]; rfl
theorem cancel {u v : Int} (hu : ¬ E u 0) (h : E (u * v) 0) : E v 0 := by
  have h0 : u % 257 ≠ 0 := fun z => hu (by unfold E; rw [z]; rfl)
  have hi := inv_ok (n := u % 257) (by omega) (by omega)
  have a : E (u * inv (u % 257)) 1 := ((E.md u).symm.mul (E.refl _)).trans hi
  have b : E (u * inv (u % 257) * v) (1 * v) := a.mul (E.refl v)
  have c : E (u * v * inv (u % 257)) (0 * inv (u % 257)) := h.mul (E.refl _)
  have d : u * inv (u % 257) * v = u * v * inv (u % 257) := by rw [Int.mul_assoc, Int.mul_comm (inv (u % 257)) v, ← Int.mul_assoc]
  rw [Int.one_mul] at b
  rw [Int.zero_mul] at c
  rw [d] at b
  exact b.symm.trans c
def ev : List Int → Int → Int
  | [], _ => 0
  | c :: cs, x => c + x * ev cs x
def Poly (k : Nat) (g : Int → Int) : Prop := ∃ c : List Int, c.length ≤ k ∧ ∀ x, E (g x) (ev c x)
theorem ev_add : ∀ (c d : List Int), ∃ e : List Int, e.length ≤ max c.length d.length ∧ ∀ x, ev e x = ev c x + ev d x
  | [], d => ⟨d, by simp, fun x => by show ev d x = 0 + ev d x; omega⟩
  | c, [] => ⟨c, by simp, fun x => by show ev c x = ev c x + 0; omega⟩
  | a :: c, b :: d => by
    obtain ⟨e, h1, h2⟩ := ev_add c d
    refine ⟨(a + b) :: e, by simp only [List.length_cons]; omega, fun x => ?_⟩
    show a + b + x * ev e x = a + x * ev c x + (b + x * ev d x)
    rw [h2, Int.mul_add]; omega
theorem ev_smul (a : Int) : ∀ c : List Int, ev (c.map (a * ·)) = fun x => a * ev c x
  | [] => by funext x; show (0 : Int) = a * 0; omega
  | c :: cs => by
    funext x
    show a * c + x * ev (cs.map (a * ·)) x = a * (c + x * ev cs x)
    rw [ev_smul a cs, Int.mul_add, ← Int.mul_assoc, ← Int.mul_assoc, Int.mul_comm x a]
theorem Poly.zero (k : Nat) : Poly k (fun _ => 0) := ⟨[], Nat.zero_le _, fun _ => rfl⟩
theorem Poly.const {k : Nat} (h : 1 ≤ k) (a : Int) : Poly k (fun _ => a) := ⟨[a], h, fun x => by show E a (a + x * 0); rw [Int.mul_zero, Int.add_zero]; rfl⟩
theorem Poly.mono {k m : Nat} {g : Int → Int} (h : Poly k g) (hk : k ≤ m) : Poly m g := by
  obtain ⟨c, h1, h2⟩ := h
  exact ⟨c, by omega, h2⟩
theorem Poly.congr {k : Nat} {g h : Int → Int} (hg : Poly k g) (e : ∀ x, E (h x) (g x)) : Poly k h := by
  obtain ⟨c, h1, h2⟩ := hg
  exact ⟨c, h1, fun x => (e x).trans (h2 x)⟩
theorem Poly.add {k : Nat} {g h : Int → Int} (hg : Poly k g) (hh : Poly k h) : Poly k (fun x => g x + h x) := by
  obtain ⟨c, h1, h2⟩ := hg
  obtain ⟨d, h3, h4⟩ := hh
  obtain ⟨e, h5, h6⟩ := ev_add c d
  exact ⟨e, by omega, fun x => by rw [h6]; exact (h2 x).add (h4 x)⟩
theorem Poly.smul {k : Nat} {g : Int → Int} (hg : Poly k g) (a : Int) : Poly k (fun x => a * g x) := by
  obtain ⟨c, h1, h2⟩ := hg
  exact ⟨c.map (a * ·), by rw [List.length_map]; exact h1, fun x => by rw [ev_smul]; exact (E.refl a).mul (h2 x)⟩
theorem Poly.sub {k : Nat} {g h : Int → Int} (hg : Poly k g) (hh : Poly k h) : Poly k (fun x => g x - h x) :=
  (hg.add (hh.smul (-1))).congr fun x => by
    show E (g x - h x) (g x + -1 * h x)
    rw [show g x - h x = g x + -1 * h x by omega]; rfl
theorem Poly.xmul {k : Nat} {g : Int → Int} (hg : Poly k g) : Poly (k + 1) (fun x => x * g x) := by
  obtain ⟨c, h1, h2⟩ := hg
  exact ⟨0 :: c, by rw [List.length_cons]; omega, fun x => by
    show E (x * g x) (0 + x * ev c x)
    rw [Int.zero_add]
    exact (E.refl x).mul (h2 x)⟩
theorem Poly.lin {k : Nat} {g : Int → Int} (hg : Poly k g) (a : Int) : Poly (k + 1) (fun x => g x * (x - a)) :=
  (hg.xmul.sub ((hg.smul a).mono (Nat.le_succ k))).congr fun x => by
    show E (g x * (x - a)) (x * g x - a * g x)
    rw [Int.mul_sub, Int.mul_comm (g x) x, Int.mul_comm (g x) a]; rfl
theorem ev_div (a : Int) : ∀ c : List Int, ∃ d : List Int, d.length ≤ c.length - 1 ∧ ∀ x, ev c x = (x - a) * ev d x + ev c a
  | [] => ⟨[], Nat.le_refl _, fun x => by show (0 : Int) = (x - a) * 0 + 0; omega⟩
  | c0 :: cs => by
    obtain ⟨d, h1, h2⟩ := ev_div a cs
    by_cases hc : cs = []
    · subst hc
      exact ⟨[], Nat.zero_le _, fun x => by show c0 + x * 0 = (x - a) * 0 + (c0 + a * 0); omega⟩
    · have hp : 0 < cs.length := List.length_pos_iff.mpr hc
      refine ⟨ev cs a :: d, by simp only [List.length_cons]; omega, fun x => ?_⟩
      show c0 + x * ev cs x = (x - a) * (ev cs a + x * ev d x) + (c0 + a * ev cs a)
      rw [h2 x, Int.mul_add, Int.mul_add, Int.sub_mul x a (ev cs a), ← Int.mul_assoc x (x - a), ← Int.mul_assoc (x - a) x, Int.mul_comm x (x - a)]
      omega
theorem Poly.root {k : Nat} {g : Int → Int} (hg : Poly (k + 1) g) (a : Int) (h : E (g a) 0) : ∃ q, Poly k q ∧ ∀ x, E (g x) ((x - a) * q x) := by
  obtain ⟨c, h1, h2⟩ := hg
  obtain ⟨d, h3, h4⟩ := ev_div a c
  refine ⟨ev d, ⟨d, by omega, fun _ => rfl⟩, fun x => (h2 x).trans ?_⟩
  rw [h4 x]
  have : E (ev c a) 0 := (h2 a).symm.trans h
  have z := (E.refl ((x - a) * ev d x)).add this
  rw [Int.add_zero] at z
  exact z
theorem Poly.none : ∀ (as : List Int) (g : Int → Int), Poly as.length g → as.Pairwise (fun a b => ¬ E a b) → (∀ a ∈ as, E (g a) 0) → ∀ x, E (g x) 0
  | [], g, ⟨c, h1, h2⟩, _, _, x => by
    have : c = [] := List.length_eq_zero_iff.mp (Nat.le_zero.mp h1)
    subst this
    exact h2 x
  | a :: as, g, hg, hp, hr, x => by
    obtain ⟨q, hq, e⟩ := hg.root a (hr a List.mem_cons_self)
    have hp2 := List.pairwise_cons.mp hp
    have z := Poly.none as q hq hp2.2 (fun b hb => by
      have h0 := (e b).symm.trans (hr b (List.mem_cons_of_mem _ hb))
      refine cancel (fun z => hp2.1 b hb ?_) h0
      have := z.add (E.refl a)
      rw [Int.zero_add, Int.sub_add_cancel] at this
      exact this.symm) x
    have y := (E.refl (x - a)).mul z
    rw [Int.mul_zero] at y
    exact (e x).trans y
theorem Poly.diff : ∀ (k : Nat) (c : List Int), c.length ≤ k + 1 → Poly k (fun x => ev c (x + 1) - ev c x)
  | k, [], _ => (Poly.zero k).congr fun x => by show E (0 - 0) 0; rfl
  | 0, c0 :: cs, h => by
    have : cs = [] := List.length_eq_zero_iff.mp (by rw [List.length_cons] at h; omega)
    subst this
    refine (Poly.zero 0).congr fun x => ?_
    show E (c0 + (x + 1) * 0 - (c0 + x * 0)) 0
    rw [Int.mul_zero, Int.mul_zero, Int.sub_self]; rfl
  | k + 1, c0 :: cs, h => by
    rw [List.length_cons] at h
    have d := Poly.diff k cs (by omega)
    have e : Poly (k + 1) (ev cs) := ⟨cs, by omega, fun _ => rfl⟩
    refine ((d.xmul.add (d.mono (Nat.le_succ k))).add e).congr fun x => ?_
    show E (c0 + (x + 1) * ev cs (x + 1) - (c0 + x * ev cs x)) (x * (ev cs (x + 1) - ev cs x) + (ev cs (x + 1) - ev cs x) + ev cs x)
    rw [Int.mul_sub, Int.add_mul, Int.one_mul, show c0 + (x * ev cs (x + 1) + ev cs (x + 1)) - (c0 + x * ev cs x) = x * ev cs (x + 1) - x * ev cs x + (ev cs (x + 1) - ev cs x) + ev cs x by omega]
    rfl
theorem Poly.step {k : Nat} {g : Int → Int} (hg : Poly (k + 1) g) : Poly k (fun x => g (x + 1) - g x) := by
  obtain ⟨c, h1, h2⟩ := hg
  exact (Poly.diff k c h1).congr fun x => (h2 (x + 1)).sub (h2 x)
def prodO (p : Int) (ps : List Int) (x : Int) : Int := ps.foldl (fun a o => if o ≠ p then a * (x - o) % 257 else a) 1
theorem prodO_from (p x : Int) : ∀ (ps : List Int) (a : Int), E (ps.foldl (fun a o => if o ≠ p then a * (x - o) % 257 else a) a) (a * prodO p ps x)
  | [], a => by show E a (a * 1); rw [Int.mul_one]; rfl
  | o :: ps, a => by
    have z := prodO_from p x ps (if o ≠ p then a * (x - o) % 257 else a)
    have y := prodO_from p x ps (if o ≠ p then 1 * (x - o) % 257 else 1)
    refine E.trans z ?_
    show E ((if o ≠ p then a * (x - o) % 257 else a) * prodO p ps x) (a * prodO p (o :: ps) x)
    have y : E (prodO p (o :: ps) x) ((if o ≠ p then 1 * (x - o) % 257 else 1) * prodO p ps x) := y
    refine E.trans ?_ ((E.refl a).mul y.symm)
    by_cases h : o ≠ p
    · rw [if_pos h, if_pos h, Int.one_mul]
      refine ((E.md _).mul (E.refl _)).trans ?_
      rw [Int.mul_assoc]
      exact (E.refl a).mul ((E.md _).symm.mul (E.refl _))
    · rw [if_neg h, if_neg h, Int.one_mul]; rfl
theorem prodO_cons (p x o : Int) (ps : List Int) : E (prodO p (o :: ps) x) ((if o ≠ p then x - o else 1) * prodO p ps x) := by
  have y : E (prodO p (o :: ps) x) ((if o ≠ p then 1 * (x - o) % 257 else 1) * prodO p ps x) := prodO_from p x ps _
  refine y.trans (E.mul ?_ (E.refl _))
  by_cases h : o ≠ p
  · rw [if_pos h, if_pos h, Int.one_mul]; exact E.md _
  · rw [if_neg h, if_neg h]; rfl
theorem prodO_lo (p x : Int) (ps : List Int) : 0 ≤ prodO p ps x ∧ prodO p ps x < 257 := by
  have go : ∀ (ps : List Int) (a : Int), 0 ≤ a ∧ a < 257 → 0 ≤ ps.foldl (fun a o => if o ≠ p then a * (x - o) % 257 else a) a ∧ ps.foldl (fun a o => if o ≠ p then a * (x - o) % 257 else a) a < 257 := by
    intro ps
    induction ps with
    | nil => exact fun a h => h
    | cons o ps ih =>
      intro a h
      refine ih _ ?_
      show 0 ≤ (if o ≠ p then a * (x - o) % 257 else a) ∧ (if o ≠ p then a * (x - o) % 257 else a) < 257
      by_cases ho : o ≠ p
      · rw [if_pos ho]; omega
      · rw [if_neg ho]; exact h
  exact go ps 1 (by decide)
theorem prodO_none {p x : Int} : ∀ {ps : List Int}, (∀ o ∈ ps, o ≠ p → ¬ E x o) → ¬ E (prodO p ps x) 0
  | [], _, h => by
    have h : (1 : Int) % 257 = 0 % 257 := h
    exact absurd h (by decide)
  | o :: ps, ho, h => by
    have z := (prodO_cons p x o ps).symm.trans h
    have ih := prodO_none (p := p) (x := x) (ps := ps) fun q hq => ho q (List.mem_cons_of_mem _ hq)
    by_cases hp : o ≠ p
    · rw [if_pos hp] at z
      refine ih (cancel (fun y => ho o List.mem_cons_self hp ?_) z)
      have := y.add (E.refl o)
      rw [Int.zero_add, Int.sub_add_cancel] at this
      exact this
    · rw [if_neg hp, Int.one_mul] at z
      exact ih z
theorem prodO_zero {p x : Int} : ∀ {ps : List Int}, (∃ o ∈ ps, o ≠ p ∧ E x o) → E (prodO p ps x) 0
  | [], h => by obtain ⟨o, ho, _⟩ := h; cases ho
  | o :: ps, h => by
    obtain ⟨q, hq, h1, h2⟩ := h
    refine (prodO_cons p x o ps).trans ?_
    rcases List.mem_cons.mp hq with e | hq
    · subst e
      rw [if_pos h1]
      have z : E (x - q) 0 := by
        have := h2.sub (E.refl q)
        rw [Int.sub_self] at this
        exact this
      have y := z.mul (E.refl (prodO p ps x))
      rw [Int.zero_mul] at y
      exact y
    · have z := prodO_zero (p := p) (x := x) ⟨q, hq, h1, h2⟩
      have y := (E.refl (if o ≠ p then x - o else 1)).mul z
      rw [Int.mul_zero] at y
      exact y
theorem prodO_poly (p : Int) : ∀ (ps : List Int), Poly ((ps.filter (· ≠ p)).length + 1) (fun x => prodO p ps x)
  | [] => Poly.const (by simp) 1
  | o :: ps => by
    have ih := prodO_poly p ps
    by_cases h : o ≠ p
    · rw [List.filter_cons_of_pos (by simpa using h), List.length_cons]
      refine (ih.lin o).congr fun x => ?_
      have z := prodO_cons p x o ps
      rw [if_pos h, Int.mul_comm] at z
      exact z
    · rw [List.filter_cons_of_neg (by simpa using h)]
      refine ih.congr fun x => ?_
      have z := prodO_cons p x o ps
      rw [if_neg h, Int.one_mul] at z
      exact z
def share (ps : List Int) (x p : Int) : Int := prodO p ps x * inv (prodO p ps p) % 257
def lagS (ps all : List Int) (y : Int → Int) (x : Int) : Int := (ps.map fun p => share all x p * y p).sum
theorem lagS_cons (p : Int) (ps all : List Int) (y : Int → Int) (x : Int) : lagS (p :: ps) all y x = share all x p * y p + lagS ps all y x := by
  unfold lagS; rw [List.map_cons, List.sum_cons]
theorem lag_poly (all : List Int) (k : Nat) (y : Int → Int) : ∀ (ps : List Int), (∀ p ∈ ps, (all.filter (· ≠ p)).length + 1 ≤ k) → Poly k (lagS ps all y)
  | [], _ => (Poly.zero k).congr fun x => rfl
  | p :: ps, h => by
    have h1 := (prodO_poly p all).mono (h p List.mem_cons_self)
    refine ((h1.smul (inv (prodO p all p) * y p)).add (lag_poly all k y ps fun q hq => h q (List.mem_cons_of_mem _ hq))).congr fun x => ?_
    show E (lagS (p :: ps) all y x) (inv (prodO p all p) * y p * prodO p all x + lagS ps all y x)
    rw [lagS_cons]
    refine E.add ?_ (E.refl _)
    refine ((E.md _).mul (E.refl _)).trans ?_
    rw [Int.mul_assoc, Int.mul_comm (prodO p all x)]
    rfl
theorem filter_ne {p : Int} : ∀ {ps : List Int}, ps.Pairwise (fun a b => ¬ E a b) → p ∈ ps → (ps.filter (· ≠ p)).length + 1 ≤ ps.length
  | [], _, h => by cases h
  | o :: ps, hp, h => by
    have hp2 := List.pairwise_cons.mp hp
    rcases List.mem_cons.mp h with e | h
    · subst e
      rw [List.filter_cons_of_neg (by simp), List.length_cons]
      have := List.length_filter_le (fun x => decide (x ≠ p)) ps
      omega
    · have ho : o ≠ p := fun z => hp2.1 p h (by rw [z]; rfl)
      rw [List.filter_cons_of_pos (by simpa using ho), List.length_cons, List.length_cons]
      have := filter_ne hp2.2 h
      omega
theorem lag_node {all : List Int} (hp : all.Pairwise (fun a b => ¬ E a b)) (y : Int → Int) {q : Int} (hq : q ∈ all) : ∀ (ps : List Int), (∀ p ∈ ps, p ∈ all) → ps.Pairwise (fun a b => ¬ E a b) → E (lagS ps all y q) (if q ∈ ps then y q else 0)
  | [], _, _ => by show E 0 (if q ∈ [] then y q else 0); rw [if_neg (fun z => by cases z)]; rfl
  | p :: ps, hs, hpp => by
    have hp2 := List.pairwise_cons.mp hpp
    have ih := lag_node hp y hq ps (fun r hr => hs r (List.mem_cons_of_mem _ hr)) hp2.2
    have inj : ∀ a ∈ all, ∀ b ∈ all, a ≠ b → ¬ E a b := fun a ha b hb n z => by
      have : ∀ (l : List Int), l.Pairwise (fun a b => ¬ E a b) → a ∈ l → b ∈ l → False := by
        intro l
        induction l with
        | nil => exact fun _ h => by cases h
        | cons c l ihl =>
          intro hpl h1 h2
          have h3 := List.pairwise_cons.mp hpl
          rcases List.mem_cons.mp h1 with e1 | h1
          · rcases List.mem_cons.mp h2 with e2 | h2
            · exact n (e1.trans e2.symm)
            · exact h3.1 b h2 (e1 ▸ z)
          · rcases List.mem_cons.mp h2 with e2 | h2
            · exact h3.1 a h1 (e2 ▸ z.symm)
            · exact ihl h3.2 h1 h2
      exact this all hp ha hb
    rw [lagS_cons]
    by_cases e : q = p
    · subst e
      rw [if_pos List.mem_cons_self]
      have nq : q ∉ ps := fun h => hp2.1 q h rfl
      rw [if_neg nq] at ih
      have h0 : ¬ E (prodO q all q) 0 := prodO_none fun o ho n => inj q hq o ho (Ne.symm n)
      have lo := prodO_lo q q all
      have h1 : prodO q all q ≠ 0 := fun z => h0 (by rw [z]; rfl)
      have h2 := inv_ok (n := prodO q all q) (by omega) (by omega)
      have z := ((E.md (prodO q all q * inv (prodO q all q))).trans h2).mul (E.refl (y q))
      have y2 := z.add ih
      rw [Int.one_mul, Int.add_zero] at y2
      exact y2
    · have h0 : E (prodO p all q) 0 := prodO_zero ⟨q, hq, e, rfl⟩
      have h1 : E (share all q p) 0 := by
        have := h0.mul (E.refl (inv (prodO p all p)))
        rw [Int.zero_mul] at this
        exact (E.md _).trans this
      have z := (h1.mul (E.refl (y p))).add ih
      rw [Int.zero_mul, Int.zero_add] at z
      have hi : (if q ∈ p :: ps then y q else 0) = (if q ∈ ps then y q else 0) := by
        by_cases h : q ∈ ps
        · rw [if_pos h, if_pos (List.mem_cons_of_mem _ h)]
        · rw [if_neg h, if_neg (fun w => by rcases List.mem_cons.mp w with w | w; exact e w; exact h w)]
      rw [hi]
      exact z
theorem lag_is {all : List Int} (hp : all.Pairwise (fun a b => ¬ E a b)) {f : Int → Int} (hf : Poly all.length f) (x : Int) : E (lagS all all f x) (f x) := by
  have h1 := (lag_poly all all.length f all fun p h => filter_ne hp h).sub hf
  have z := Poly.none all _ h1 hp (fun a ha => by
    have n := lag_node hp f ha all (fun _ h => h) hp
    rw [if_pos ha] at n
    have := n.sub (E.refl (f a))
    rw [Int.sub_self] at this
    exact this) x
  have y := z.add (E.refl (f x))
  rw [Int.zero_add] at y
  have e : lagS all all f x - f x + f x = lagS all all f x := by omega
  have y : E (lagS all all f x - f x + f x) (f x) := y
  rw [e] at y
  exact y
end K81.Sl

namespace K81.Sl
open K81
noncomputable abbrev bodyTO : Sv := (cAsg (.nm 1) (cBin gMod (cBin gMul (cBin gMul (cVar 1) (cVar 1)) (cVar 0)) (cC (.int 257))))
theorem to_loop (n : Int) (h0 : 0 ≤ n) (h1 : n < 257) : ∀ (ks : List Nat) (p : Int) (u : Option D), 0 ≤ p → p < 257 → ∃ u', forL (.nm 2) bodyTO (ks.map nt) [some (.int n), some (.int p), u] = .nx [some (.int n), some (.int (ks.foldl (fun p _ => p * p * n % 257) p)), u']
  | [], p, u, _, _ => ⟨u, rfl⟩
  | k :: ks, p, u, hp, hp2 => by
    obtain ⟨u', e⟩ := to_loop n h0 h1 ks (p * p * n % 257) (some (nt k)) (by omega) (by omega)
    have v1 := cvar_at (r := [some (.int n), some (.int p), some (nt k)]) (i := 1) (d := .int p) rfl rfl
    have st := asg_ok (i := 1) (mod_ok (mul_ok (mul_ok v1 v1 (mulOk_l (by omega))) (cvar_at (i := 0) (d := .int n) rfl rfl) (mulOk_r (by omega))) (cc 257 _) (by decide))
    exact ⟨u', (forL_cons (r1 := [some (.int n), some (.int p), some (nt k)]) rfl st).trans e⟩
theorem turned_ok (n : Int) (h0 : 0 ≤ n) (h1 : n < 257) : F_turned_over [.int n] = .ok (.int (inv n)) := by
  have s1 : cAsg (.nm 1) (cC (.int 1)) (startR 3 [.int n]) = .nx [some (.int n), some (.int 1), none] := rfl
  obtain ⟨u', e⟩ := to_loop n h0 h1 (List.range 8) 1 none (by decide) (by decide)
  have it := it_rng (fa := cC (.int 8)) (r := [some (.int n), some (.int 1), none]) (n := 8) rfl (by decide)
  exact runF_ok ((seq_nx s1).trans ((seq_nx (for_ok it e)).trans (ret_ok (cvar_at (i := 1) (d := .int (inv n)) rfl rfl)))) rfl
noncomputable abbrev bodyO : Sv := (cIfS (cBin gNe (cVar 6) (cVar 3)) (cSeq (cAsg (.nm 4) (cBin gMod (cBin gMul (cVar 4) (cBin VL.gSub (cVar 1) (cVar 6))) (cC (.int 257))))
  (cAsg (.nm 5) (cBin gMod (cBin gMul (cVar 5) (cBin VL.gSub (cVar 3) (cVar 6))) (cC (.int 257))))) cSkip)
noncomputable abbrev Ws (ps : List Int) (x : Int) (fo : List Int) (p a b : Int) (u : Option D) : Rho := [some (I false ps), some (.int x), some (I true fo), some (.int p), some (.int a), some (.int b), u]
def stepO (p x : Int) : Int → Int → Int := fun a o => if o ≠ p then a * (x - o) % 257 else a
theorem o_loop (ps : List Int) (x : Int) (fo : List Int) (p : Int) : ∀ (os : List Int) (a b : Int) (u : Option D), 0 ≤ a → a < 257 → 0 ≤ b → b < 257 → ∃ u', forL (.nm 6) bodyO (os.map .int) (Ws ps x fo p a b u) = .nx (Ws ps x fo p (os.foldl (stepO p x) a) (os.foldl (stepO p p) b) u')
  | [], a, b, u, _, _, _, _ => ⟨u, rfl⟩
  | o :: os, a, b, u, h1, h2, h3, h4 => by
    have b1 : 0 ≤ stepO p x a o ∧ stepO p x a o < 257 := by
      unfold stepO
      by_cases h : o ≠ p
      · rw [if_pos h]; omega
      · rw [if_neg h]; omega
    have b2 : 0 ≤ stepO p p b o ∧ stepO p p b o < 257 := by
      unfold stepO
      by_cases h : o ≠ p
      · rw [if_pos h]; omega
      · rw [if_neg h]; omega
    obtain ⟨u', e⟩ := o_loop ps x fo p os (stepO p x a o) (stepO p p b o) (some (.int o)) b1.1 b1.2 b2.1 b2.2
    have g := ne_ok (cvar_at (r := Ws ps x fo p a b (some (.int o))) (i := 6) (d := .int o) rfl rfl) (cvar_at (i := 3) (d := .int p) rfl rfl)
    have st : bodyO (Ws ps x fo p a b (some (.int o))) = .nx (Ws ps x fo p (stepO p x a o) (stepO p p b o) (some (.int o))) := by
      by_cases h : o = p
      · rw [decide_eq_true h] at g
        have e1 : stepO p x a o = a := if_neg (by simpa using h)
        have e2 : stepO p p b o = b := if_neg (by simpa using h)
        rw [e1, e2]
        exact ifs_not g rfl
      · rw [decide_eq_false h] at g
        have e1 : stepO p x a o = a * (x - o) % 257 := if_pos h
        have e2 : stepO p p b o = b * (p - o) % 257 := if_pos h
        rw [e1, e2]
        have t1 : cAsg (.nm 4) (cBin gMod (cBin gMul (cVar 4) (cBin VL.gSub (cVar 1) (cVar 6))) (cC (.int 257))) (Ws ps x fo p a b (some (.int o))) = .nx (Ws ps x fo p (a * (x - o) % 257) b (some (.int o))) := asg_ok (i := 4) (mod_ok (mul_ok (cvar_at (i := 4) (d := .int a) rfl rfl) (sub_ok (cvar_at (i := 1) (d := .int x) rfl rfl) (cvar_at (i := 6) (d := .int o) rfl rfl)) (mulOk_l (by omega))) (cc 257 _) (by decide))
        have t2 : cAsg (.nm 5) (cBin gMod (cBin gMul (cVar 5) (cBin VL.gSub (cVar 3) (cVar 6))) (cC (.int 257))) (Ws ps x fo p (a * (x - o) % 257) b (some (.int o))) = .nx (Ws ps x fo p (a * (x - o) % 257) (b * (p - o) % 257) (some (.int o))) := asg_ok (i := 5) (mod_ok (mul_ok (cvar_at (i := 5) (d := .int b) rfl rfl) (sub_ok (cvar_at (i := 3) (d := .int p) rfl rfl) (cvar_at (i := 6) (d := .int o) rfl rfl)) (mulOk_l (by omega))) (cc 257 _) (by decide))
        exact ifs_yes g ((seq_nx t1).trans t2)
    exact ⟨u', (forL_cons (r1 := Ws ps x fo p a b (some (.int o))) rfl st).trans e⟩
noncomputable abbrev bodySh : Sv := (cSeq (cAsg (.nm 4) (cC (.int 1)))
  (cSeq (cAsg (.nm 5) (cC (.int 1)))
  (cSeq (cFor (.nm 6) (iLst (cVar 0)) bodyO)
  (cExpr (cApp 2 (cBin gMod (cBin gMul (cVar 4) (cCall 1 F_turned_over (cCons (cVar 5) cNil))) (cC (.int 257))))))))
theorem sh_loop (ps : List Int) (x : Int) : ∀ (qs : List Int) (fo : List Int) (p a b u : Option D), fo.length + qs.length < 100000 → ∃ p' a' b' u', forL (.nm 3) bodySh (qs.map .int) [some (I false ps), some (.int x), some (I true fo), p, a, b, u] = .nx [some (I false ps), some (.int x), some (I true (fo ++ qs.map (share ps x))), p', a', b', u']
  | [], fo, p, a, b, u, _ => ⟨p, a, b, u, by rw [List.map_nil, List.map_nil, List.append_nil]; rfl⟩
  | q :: qs, fo, p, a, b, u, hl => by
    simp only [List.length_cons] at hl
    have s1 : cAsg (.nm 4) (cC (.int 1)) [some (I false ps), some (.int x), some (I true fo), some (.int q), a, b, u] = .nx [some (I false ps), some (.int x), some (I true fo), some (.int q), some (.int 1), b, u] := rfl
    have s2 : cAsg (.nm 5) (cC (.int 1)) [some (I false ps), some (.int x), some (I true fo), some (.int q), some (.int 1), b, u] = .nx (Ws ps x fo q 1 1 u) := rfl
    obtain ⟨u1, e3⟩ := o_loop ps x fo q ps 1 1 u (by decide) (by decide) (by decide) (by decide)
    have it := it_lst (r := Ws ps x fo q 1 1 u) (i := 0) (o := false) rfl (frzs_ints ps)
    have l1 := prodO_lo q x ps
    have l2 := prodO_lo q q ps
    have e3 : forL (.nm 6) bodyO (ps.map .int) (Ws ps x fo q 1 1 u) = .nx (Ws ps x fo q (prodO q ps x) (prodO q ps q) u1) := e3
    have tc := call1 (F := F_turned_over) (cvar_at (r := Ws ps x fo q (prodO q ps x) (prodO q ps q) u1) (i := 5) (d := .int (prodO q ps q)) rfl rfl) rfl (turned_ok _ l2.1 l2.2) rfl
    have s4 : cExpr (cApp 2 (cBin gMod (cBin gMul (cVar 4) (cCall 1 F_turned_over (cCons (cVar 5) cNil))) (cC (.int 257)))) (Ws ps x fo q (prodO q ps x) (prodO q ps q) u1) = .nx (Ws ps x (fo ++ [share ps x q]) q (prodO q ps x) (prodO q ps q) u1) := appI rfl (mod_ok (mul_ok (cvar_at (i := 4) (d := .int (prodO q ps x)) rfl rfl) tc (mulOk_l (by omega))) (cc 257 _) (by decide)) rfl (by omega)
    obtain ⟨p', a', b', u', e5⟩ := sh_loop ps x qs (fo ++ [share ps x q]) (some (.int q)) (some (.int (prodO q ps x))) (some (.int (prodO q ps q))) u1 (by rw [List.length_append, List.length_singleton]; omega)
    refine ⟨p', a', b', u', ?_⟩
    refine (forL_cons (r1 := [some (I false ps), some (.int x), some (I true fo), some (.int q), a, b, u]) rfl ((seq_nx s1).trans ((seq_nx s2).trans ((seq_nx (for_ok it e3)).trans s4)))).trans ?_
    rw [List.map_cons (f := share ps x), show fo ++ (share ps x q :: qs.map (share ps x)) = fo ++ [share ps x q] ++ qs.map (share ps x) by rw [List.append_assoc]; rfl]
    exact e5
theorem shares_ok (ps : List Int) (x : Int) (hl : ps.length < 100000) : F_shares_at [I false ps, .int x] = .ok (I true (ps.map (share ps x))) := by
  have s1 : cAsg (.nm 2) (cLst cNil) (startR 7 [I false ps, .int x]) = .nx [some (I false ps), some (.int x), some (I true []), none, none, none, none] := rfl
  obtain ⟨p', a', b', u', e⟩ := sh_loop ps x ps [] none none none none (by simpa using hl)
  rw [List.nil_append] at e
  have it := it_lst (r := [some (I false ps), some (.int x), some (I true []), none, none, none, none]) (i := 0) (o := false) rfl (frzs_ints ps)
  exact runF_ok ((seq_nx s1).trans ((seq_nx (for_ok it e)).trans (ret_ok (cvar_loc (i := 2) (d := I true (ps.map (share ps x))) rfl rfl)))) rfl
structure At (rd : List D) (js : List Nat) (Y : Nat → List Int) (w : Nat) : Prop where
  row : ∀ j ∈ js, rd[j]? = some (I false (Y j))
  wide : ∀ j ∈ js, (Y j).length = w
def zz (js : List Nat) : List Int := js.map fun j => ((j : Nat) : Int)
def lag (js : List Nat) (Y : Nat → List Int) (x : Int) (c : Nat) : Int := lagS (zz js) (zz js) (fun p => (Y p.toNat).getD c 0) x % 257
theorem sum_v {fa : Ev} {r r1 : Rho} {o : Bool} {xs : List Int} (h : fa r = .ok (.val (I o xs)) r1) : cB (b1 sumD) (cCons fa cNil) r = .ok (.val (.int xs.sum)) r1 := by
  refine b1_ok h rfl ?_ rfl
  show (intsOf (xs.map D.int)).map _ = _
  rw [intsOf_map]; rfl
noncomputable abbrev bodyRA : Sv := (cExpr (cApp 4 (cBin gMod (cB (b1 sumD) (cCons (cLc [6, 7] (.tp [6, 7]) (iRng gZip (cCons (cSet (cVar 3)) (cCons (cSet (cVar 1)) cNil))) none (cBin gMul (cVar 6) (cBin gIx (cBin gIx (cVar 0) (cVar 7)) (cVar 5)))) cNil)) (cC (.int 257)))))
theorem share_lo (ps : List Int) (x p : Int) : 0 ≤ share ps x p ∧ share ps x p < 257 := by unfold share; omega
theorem ra_step (rd : List D) (hf : frzs rd = rd) (js : List Nat) (Y : Nat → List Int) (w : Nat) (hA : At rd js Y w) (hl : js.length < 10000) (x : D) (xi : Int) (o : Bool) (fo : List Int) (hfo : fo.length < 10000) (c : Nat) (hc : c < w) : bodyRA [some (.node .lst false rd), some (I false (zz js)), some x, some (I o ((zz js).map (share (zz js) xi))), some (I true fo), some (nt c), none, none] = .nx [some (.node .lst false rd), some (I false (zz js)), some x, some (I false ((zz js).map (share (zz js) xi))), some (I true (fo ++ [lag js Y xi c])), some (nt c), none, none] := by
  have z := it_zip (fa := cVar 3) (fb := cVar 1) (r := [some (.node .lst false rd), some (I false (zz js)), some x, some (I o ((zz js).map (share (zz js) xi))), some (I true fo), some (nt c), none, none]) (set_loc (i := 3) (o := o) rfl (frzs_ints _)) (set_loc (i := 1) (o := false) rfl (frzs_ints _)) (frzs_ints _) (frzs_ints _)
  have ez : zipD (((zz js).map (share (zz js) xi)).map D.int) ((zz js).map D.int) = js.map fun (j : Nat) => D.node .tup false [.int (share (zz js) xi (j : Int)), nt j] := by
    unfold zipD
    have go : ∀ l : List Nat, List.zipWith (fun d e => D.node .tup false [d, e]) (((zz l).map (share (zz js) xi)).map D.int) ((zz l).map D.int) = l.map fun (j : Nat) => D.node .tup false [.int (share (zz js) xi (j : Int)), nt j] := by
      intro l
      induction l with
      | nil => rfl
      | cons j l ih =>
        show D.node .tup false [.int (share (zz js) xi (j : Int)), nt j] :: List.zipWith (fun d e => D.node .tup false [d, e]) (((zz l).map (share (zz js) xi)).map D.int) ((zz l).map D.int) = _
        rw [ih]; rfl
    exact go js
  rw [ez] at z
  obtain ⟨R0, hR⟩ : ∃ R0 : Rho, [some (.node .lst false rd), some (I false (zz js)), some x, some (I false ((zz js).map (share (zz js) xi))), some (I true fo), some (nt c), none, none] = R0 := ⟨_, rfl⟩
  have lc := lc_all (α := Nat) (enc := fun (j : Nat) => D.node .tup false [.int (share (zz js) xi (j : Int)), nt j]) (g := fun (j : Nat) => D.int (share (zz js) xi (j : Int) * (Y j).getD c 0)) (fe := cBin gMul (cVar 6) (cBin gIx (cBin gIx (cVar 0) (cVar 7)) (cVar 5))) (t := .tp [6, 7]) (vs := [6, 7]) (r0 := [some (.node .lst false rd), some (I false (zz js)), some x, some (I false ((zz js).map (share (zz js) xi))), some (I true fo), some (nt c), none, none]) js z rfl (by omega) (fun j hj => by
    refine ⟨[some (.node .lst false rd), some (I false (zz js)), some x, some (I false ((zz js).map (share (zz js) xi))), some (I true fo), some (nt c), some (.int (share (zz js) xi (j : Int))), some (nt j)], rfl, [some (.node .lst false rd), some (I false (zz js)), some x, some (I false ((zz js).map (share (zz js) xi))), some (I true fo), some (nt c), some (.int (share (zz js) xi (j : Int))), some (nt j)], ?_, rfl⟩
    have i0 := bin_ok (cvar_loc (r := [some (.node .lst false rd), some (I false (zz js)), some x, some (I false ((zz js).map (share (zz js) xi))), some (I true fo), some (nt c), some (.int (share (zz js) xi (j : Int))), some (nt j)]) (i := 0) rfl rfl) (cvar_at (i := 7) (d := nt j) rfl rfl) (ix_fz (i := 0) (o := false) rfl hf (by rw [VL.atI_nat]; exact hA.row j hj) (frz_I false (Y j)))
    have i1 := ixd_ok (o := false) (xs := Y j) (n := c) i0 (cvar_at (i := 5) (d := nt c) rfl rfl) (by rw [hA.wide j hj]; exact hc)
    have eg : (Y j)[c]'(by rw [hA.wide j hj]; exact hc) = (Y j).getD c 0 := by rw [List.getD_eq_getElem?_getD, List.getElem?_eq_getElem (by rw [hA.wide j hj]; exact hc)]; rfl
    rw [eg] at i1
    have lo := share_lo (zz js) xi (j : Int)
    exact set_val (mul_ok (cvar_at (i := 6) (d := .int (share (zz js) xi (j : Int))) rfl rfl) i1 (mulOk_l (by omega))))
  have em : js.map (fun (j : Nat) => D.int (share (zz js) xi (j : Int) * (Y j).getD c 0)) = (js.map fun (j : Nat) => share (zz js) xi (j : Int) * (Y j).getD c 0).map D.int := by rw [List.map_map]; rfl
  rw [em] at lc
  have sm := mod_ok (sum_v lc) (cc 257 _) (by decide)
  have es : (js.map fun (j : Nat) => share (zz js) xi (j : Int) * (Y j).getD c 0).sum % 257 = lag js Y xi c := by
    unfold lag lagS zz
    rw [List.map_map]
    rfl
  rw [es] at sm
  exact appI rfl sm rfl (by omega)
theorem ra_loop (rd : List D) (hf : frzs rd = rd) (js : List Nat) (Y : Nat → List Int) (w : Nat) (hA : At rd js Y w) (hl : js.length < 10000) (x : D) (xi : Int) : ∀ (cs : List Nat) (o : Bool) (fo : List Int) (u : Option D), fo.length + cs.length < 10000 → (∀ c ∈ cs, c < w) → ∃ o' u', forL (.nm 5) bodyRA (cs.map nt) [some (.node .lst false rd), some (I false (zz js)), some x, some (I o ((zz js).map (share (zz js) xi))), some (I true fo), u, none, none] = .nx [some (.node .lst false rd), some (I false (zz js)), some x, some (I o' ((zz js).map (share (zz js) xi))), some (I true (fo ++ cs.map (lag js Y xi))), u', none, none]
  | [], o, fo, u, _, _ => ⟨o, u, by rw [List.map_nil, List.map_nil, List.append_nil]; rfl⟩
  | c :: cs, o, fo, u, hfo, hc => by
    simp only [List.length_cons] at hfo
    obtain ⟨o', u', e⟩ := ra_loop rd hf js Y w hA hl x xi cs false (fo ++ [lag js Y xi c]) (some (nt c)) (by rw [List.length_append, List.length_singleton]; omega) (fun k hk => hc k (List.mem_cons_of_mem _ hk))
    refine ⟨o', u', ?_⟩
    refine (forL_cons (r1 := [some (.node .lst false rd), some (I false (zz js)), some x, some (I o ((zz js).map (share (zz js) xi))), some (I true fo), some (nt c), none, none]) rfl (ra_step rd hf js Y w hA hl x xi o fo (by omega) c (hc c List.mem_cons_self))).trans ?_
    rw [List.map_cons (f := lag js Y xi), show fo ++ (lag js Y xi c :: cs.map (lag js Y xi)) = fo ++ [lag js Y xi c] ++ cs.map (lag js Y xi) by rw [List.append_assoc]; rfl]
    exact e
theorem row_at_ok (rd : List D) (hf : frzs rd = rd) (js : List Nat) (hj : js ≠ []) (Y : Nat → List Int) (w : Nat) (hw : w < 5000) (hA : At rd js Y w) (hl : js.length < 10000) (xi : Int) : F_row_at [.node .lst false rd, I false (zz js), .int xi] = .ok (I true ((List.range w).map (lag js Y xi))) := by
  have zl : (zz js).length = js.length := by unfold zz; rw [List.length_map]
  have sh := shares_ok (zz js) xi (by omega)
  have c1 := call2 (F := F_shares_at) (cvar_loc (r := startR 8 [.node .lst false rd, I false (zz js), .int xi]) (i := 1) (d := I false (zz js)) rfl rfl) (cvar_at (i := 2) (d := .int xi) rfl rfl) rfl rfl (by rw [frz_I]; exact sh) (noL_lints _)
  have s1 : cAsg (.nm 3) (cCall 2 F_shares_at (cCons (cVar 1) (cCons (cVar 2) cNil))) (startR 8 [.node .lst false rd, I false (zz js), .int xi]) = .nx [some (.node .lst false rd), some (I false (zz js)), some (.int xi), some (I true ((zz js).map (share (zz js) xi))), none, none, none, none] := asg_ok (i := 3) c1
  have s2 : cAsg (.nm 4) (cLst cNil) [some (.node .lst false rd), some (I false (zz js)), some (.int xi), some (I true ((zz js).map (share (zz js) xi))), none, none, none, none] = .nx [some (.node .lst false rd), some (I false (zz js)), some (.int xi), some (I true ((zz js).map (share (zz js) xi))), some (I true []), none, none, none] := rfl
  obtain ⟨j0, js', ej⟩ := List.exists_cons_of_ne_nil hj
  have m0 : j0 ∈ js := by rw [ej]; exact List.mem_cons_self
  have i0 := ix_get (r := [some (.node .lst false rd), some (I false (zz js)), some (.int xi), some (I true ((zz js).map (share (zz js) xi))), some (I true []), none, none, none]) (i := 1) (fa := cC (.int 0)) (o := false) (xs := zz js) (n := 0) rfl rfl (by rw [zl, ej]; simp)
  have e0 : (zz js).getD 0 0 = (j0 : Int) := by rw [ej]; rfl
  rw [e0] at i0
  have i1 := bin_ok (cvar_loc (r := [some (.node .lst false rd), some (I false (zz js)), some (.int xi), some (I true ((zz js).map (share (zz js) xi))), some (I true []), none, none, none]) (i := 0) rfl rfl) i0 (ix_fz (i := 0) (o := false) rfl hf (by rw [VL.atI_nat]; exact hA.row j0 m0) (frz_I false (Y j0)))
  have ln : cB (b1 lenD) (cCons (cBin gIx (cVar 0) (cBin gIx (cVar 1) (cC (.int 0)))) cNil) [some (.node .lst false rd), some (I false (zz js)), some (.int xi), some (I true ((zz js).map (share (zz js) xi))), some (I true []), none, none, none] = .ok (.val (nt w)) [some (.node .lst false rd), some (I false (zz js)), some (.int xi), some (I true ((zz js).map (share (zz js) xi))), some (I true []), none, none, none] := by
    refine b1_ok i1 rfl ?_ rfl
    show some (D.int (((Y j0).map D.int).length : Nat)) = _
    rw [List.length_map, hA.wide j0 m0]
  have it := it_rng ln (by omega)
  obtain ⟨o', u', e⟩ := ra_loop rd hf js Y w hA hl (.int xi) xi (List.range w) true [] none (by simp; omega) (fun c hc => List.mem_range.mp hc)
  rw [List.nil_append] at e
  exact runF_ok ((seq_nx s1).trans ((seq_nx s2).trans ((seq_nx (for_ok it e)).trans (ret_ok (cvar_loc (i := 4) (d := I true ((List.range w).map (lag js Y xi))) rfl rfl))))) rfl
abbrev M (o o' : Bool) (rows : List (List Int)) : D := .node .lst o (rows.map (I o'))
theorem frzs_M (o : Bool) (rows : List (List Int)) : frzs (rows.map (I o)) = rows.map (I false) := by
  rw [frzs_map, List.map_map]
  exact List.map_congr_left fun b _ => frz_I o b
theorem frz_M (o o' : Bool) (rows : List (List Int)) : frz (M o o' rows) = M false false rows := by
  show D.node .lst false (frzs (rows.map (I o'))) = _
  rw [frzs_M]
theorem noL_M : ∀ rows : List (List Int), noL (M true true rows) = true := fun rows => by
  show (true && noLs (rows.map (I true))) = true
  induction rows with
  | nil => rfl
  | cons row rows ih =>
    show (true && (noL (I true row) && noLs (rows.map (I true)))) = true
    rw [show noL (I true row) = true from noL_lints row]
    exact ih
theorem fp_I (o : Bool) (xs : List Int) : FP 1 (I o xs) := fp_lst (k := 0) fun x hx => by
  obtain ⟨p, _, rfl⟩ := List.mem_map.mp hx
  exact fp_int _ 0
theorem fp_M (o o' : Bool) (rows : List (List Int)) : FP 2 (M o o' rows) := fp_lst (k := 1) fun x hx => by
  obtain ⟨p, _, rfl⟩ := List.mem_map.mp hx
  exact fp_I o' p
theorem toPy_M (o o' p p' : Bool) (rows : List (List Int)) : toPy (M o o' rows) = toPy (M p p' rows) := by
  show PyData.list (toPys (rows.map (I o'))) = PyData.list (toPys (rows.map (I p')))
  rw [toPys_map, toPys_map, List.map_map, List.map_map]
  rfl
end K81.Sl

namespace K81.Sl
open K81
def tabl (Y : Nat → List Int) (n : Nat) : List (List Int) := (List.range n).map Y
theorem tabl_len (Y : Nat → List Int) (n : Nat) : (tabl Y n).length = n := by unfold tabl; rw [List.length_map, List.length_range]
theorem tabl_at {Y : Nat → List Int} {n z : Nat} (h : z < n) : (tabl Y n)[z]? = some (Y z) := by unfold tabl; rw [List.getElem?_map, List.getElem?_range h]; rfl
theorem tabl_congr {Y Z : Nat → List Int} {n : Nat} (h : ∀ z < n, Y z = Z z) : tabl Y n = tabl Z n := List.map_congr_left fun z hz => h z (List.mem_range.mp hz)
def Cols (k wd : Nat) (H : Nat → Int → Int) : Prop := ∀ c < wd, Poly k (H c) ∧ ∀ x, 0 ≤ H c x ∧ H c x < 257
def rowH (H : Nat → Int → Int) (w : Nat) (z : Nat) : List Int := (List.range w).map fun c => H c (z : Int)
theorem rowH_len (H : Nat → Int → Int) (w z : Nat) : (rowH H w z).length = w := by unfold rowH; rw [List.length_map, List.length_range]
def cell (o : Bool) (th : Nat → Bool) (Y : Nat → List Int) (z : Nat) : D := if th z = true then I o (Y z) else .non
def cells (o : Bool) (th : Nat → Bool) (Y : Nat → List Int) (n : Nat) : List D := (List.range n).map (cell o th Y)
theorem cells_len (o : Bool) (th : Nat → Bool) (Y : Nat → List Int) (n : Nat) : (cells o th Y n).length = n := by unfold cells; rw [List.length_map, List.length_range]
theorem cells_at {o : Bool} {th : Nat → Bool} {Y : Nat → List Int} {n z : Nat} (h : z < n) : (cells o th Y n)[z]? = some (cell o th Y z) := by unfold cells; rw [List.getElem?_map, List.getElem?_range h]; rfl
theorem frz_cell (o : Bool) (th : Nat → Bool) (Y : Nat → List Int) (z : Nat) : frz (cell o th Y z) = cell false th Y z := by
  unfold cell
  by_cases h : th z = true
  · rw [if_pos h, if_pos h, frz_I]
  · rw [if_neg h, if_neg h]; rfl
theorem frzs_cells (o : Bool) (th : Nat → Bool) (Y : Nat → List Int) (n : Nat) : frzs (cells o th Y n) = cells false th Y n := by
  unfold cells
  rw [frzs_map, List.map_map]
  exact List.map_congr_left fun z _ => frz_cell o th Y z
abbrev Ce (o o' : Bool) (th : Nat → Bool) (Y : Nat → List Int) (n : Nat) : D := .node .lst o (cells o' th Y n)
theorem frz_Ce (o o' : Bool) (th : Nat → Bool) (Y : Nat → List Int) (n : Nat) : frz (Ce o o' th Y n) = Ce false false th Y n := by
  show D.node .lst false (frzs (cells o' th Y n)) = _
  rw [frzs_cells]
def gone (th : Nat → Bool) : Nat → Nat
  | 0 => 0
  | n + 1 => gone th n + if th n = true then 0 else 1
theorem gone_all (n : Nat) : gone (fun _ => true) n = 0 := by
  induction n with
  | zero => rfl
  | succ n ih => show gone _ n + (if true = true then 0 else 1) = 0; rw [ih]; rfl
def lose (th : Nat → Bool) (v : Nat) : Nat → Bool := fun z => if z = v then false else th z
theorem gone_lose (th : Nat → Bool) (v : Nat) : ∀ n, gone (lose th v) n ≤ gone th n + if v < n then 1 else 0
  | 0 => Nat.zero_le _
  | n + 1 => by
    have ih := gone_lose th v n
    show gone (lose th v) n + (if lose th v n = true then 0 else 1) ≤ gone th n + (if th n = true then 0 else 1) + if v < n + 1 then 1 else 0
    by_cases h : n = v
    · subst h
      have e : lose th n n = false := if_pos rfl
      rw [e]
      rw [if_neg (Nat.lt_irrefl n)] at ih
      rw [if_pos (Nat.lt_succ_self n), if_neg (by decide)]
      omega
    · have e : lose th v n = th n := if_neg h
      rw [e]
      by_cases h2 : v < n
      · rw [if_pos h2] at ih
        rw [if_pos (show v < n + 1 by omega)]
        omega
      · rw [if_neg h2] at ih
        rw [if_neg (show ¬ v < n + 1 by omega)]
        omega
theorem gone_filter (th : Nat → Bool) : ∀ n, ((List.range n).filter th).length + gone th n = n
  | 0 => rfl
  | n + 1 => by
    have ih := gone_filter th n
    rw [List.range_succ, List.filter_append, List.length_append]
    show _ + (gone th n + if th n = true then 0 else 1) = _
    by_cases h : th n = true
    · rw [if_pos h, List.filter_cons_of_pos h]
      simp only [List.filter_nil, List.length_cons, List.length_nil]
      omega
    · rw [if_neg h, List.filter_cons_of_neg h]
      simp only [List.filter_nil, List.length_nil]
      omega
def isR : D → Bool
  | .non => false
  | _ => true
theorem filt_cells (Y : Nat → List Int) (th : Nat → Bool) : ∀ ks : List Nat, ((ks.map (cell false th Y)).filter isR).map id = (ks.filter th).map fun z => I false (Y z)
  | [] => rfl
  | k :: ks => by
    have ih := filt_cells Y th ks
    rw [List.map_cons]
    by_cases h : th k = true
    · have e : cell false th Y k = I false (Y k) := if_pos h
      rw [e, List.filter_cons_of_pos (show isR (I false (Y k)) = true from rfl), List.filter_cons_of_pos h, List.map_cons, List.map_cons, ih]
      rfl
    · have e : cell false th Y k = .non := if_neg h
      rw [e, List.filter_cons_of_neg (show ¬ isR .non = true by decide), List.filter_cons_of_neg h, ih]
structure Good (th : Nat → Bool) (Y : Nat → List Int) (n k w : Nat) : Prop where
  k1 : 1 ≤ k
  k2 : k ≤ 64
  n1 : k ≤ n
  n2 : n ≤ k + 16
  w1 : w < 700
  wide : ∀ z < n, (Y z).length = w
  lo : ∀ z < n, ∀ x ∈ Y z, 0 ≤ x ∧ x < 257
noncomputable abbrev Wn (th : Nat → Bool) (Y : Nat → List Int) (n k : Nat) (rws : List (List Int)) (row nu : Option D) : Rho := [some (Ce false false th Y n), some (nt k), some (M true false rws), row, nu]
theorem need_rows_ok {th : Nat → Bool} {Y : Nat → List Int} {n k w : Nat} (h : Good th Y n k w) : F_need_rows [Ce false false th Y n, nt k] = .ok .non := by
  have it := it_lst (r := startR 5 [Ce false false th Y n, nt k]) (i := 0) (o := false) rfl (frzs_cells false th Y n)
  have hn := h.n2; have hk := h.k2
  have lc := lc_map (t := .nm 3) (fc := some (cBin gIsNot (cVar 3) (cC .non))) (fe := cVar 3) (vs := [3]) (ds := cells false th Y n) (p := isR) (q := id) (r0 := startR 5 [Ce false false th Y n, nt k]) it rfl (by rw [cells_len]; omega) fun d hd => by
    obtain ⟨z, _, rfl⟩ := List.mem_map.mp hd
    unfold cell
    by_cases hz : th z = true
    · rw [if_pos hz]
      exact ⟨_, rfl, _, rfl, rfl, fun _ => ⟨_, set_loc (r := [some (Ce false false th Y n), some (nt k), none, some (I false (Y z)), none]) (i := 3) (o := false) rfl (frzs_ints _), rfl⟩⟩
    · rw [if_neg hz]
      exact ⟨_, rfl, _, rfl, rfl, fun h => nomatch h⟩
  have ef : ((cells false th Y n).filter isR).map id = (((List.range n).filter th).map Y).map (I false) := by
    unfold cells
    rw [filt_cells, List.map_map]
    rfl
  rw [ef] at lc
  have hrow : ∀ row ∈ ((List.range n).filter th).map Y, row.length = w ∧ ∀ x ∈ row, 0 ≤ x ∧ x < 257 := fun row hr => by
    obtain ⟨z, hz, rfl⟩ := List.mem_map.mp hr
    have hz := List.mem_range.mp (List.mem_filter.mp hz).1
    exact ⟨h.wide z hz, h.lo z hz⟩
  generalize ((List.range n).filter th).map Y = rws at lc hrow
  have s1 : cAsg (.nm 2) (cLc [3] (.nm 3) (iLst (cVar 0)) (some (cBin gIsNot (cVar 3) (cC .non))) (cVar 3)) (startR 5 [Ce false false th Y n, nt k]) = .nx (Wn th Y n k rws none none) := asg_ok (i := 2) lc
  have le := len_at (r := Wn th Y n k rws none none) (i := 0) (k := .lst) (o := false) (xs := cells false th Y n) rfl (.inl rfl)
  rw [cells_len] at le
  have ek : cVar 1 (Wn th Y n k rws none none) = .ok (.val (nt k)) (Wn th Y n k rws none none) := rfl
  have c1 := chain_ok (f := fun i j => decide (i ≤ j)) (g := fun i j => decide (i ≤ j)) (cc 1 _) ek (cc 64 _)
  have c2 := chain_ok (f := fun i j => decide (i ≤ j)) (g := fun i j => decide (i ≤ j)) ek le (add_nt ek (cc 16 _) (j := 16))
  have := h.k1; have := h.n1
  rw [decide_eq_true (show (1 : Int) ≤ (k : Int) by omega), decide_eq_true (show (k : Int) ≤ 64 by omega)] at c1
  rw [decide_eq_true (show (k : Int) ≤ (n : Int) by omega), decide_eq_true (show (n : Int) ≤ ((k + 16 : Nat) : Int) by omega)] at c2
  have s2 := guard_no (f := cRaise 2) (or_no (not_ok c1) (not_ok c2))
  have it3 := it_fz (r := Wn th Y n k rws none none) (i := 2) rfl
  rw [frzs_M] at it3
  have lp : ∀ (qs : List (List Int)) (row nu : Option D), (∀ q ∈ qs, q ∈ rws) → ∃ row' nu', forL (.nm 3) (cSeq (cIfS (cBin gNe (cB (b1 lenD) (cCons (cVar 3) cNil)) (cB (b1 lenD) (cCons (cBin gIx (cVar 2) (cC (.int 0))) cNil))) (cRaise 2) cSkip)
      (cFor (.nm 4) (iLst (cVar 3)) (cIfS (cOr (cBin gLt (cVar 4) (cC (.int 0))) (cBin gGe (cVar 4) (cC (.int 257)))) (cRaise 2) cSkip))) (qs.map (I false)) [some (Ce false false th Y n), some (nt k), some (M false false rws), row, nu] = .nx [some (Ce false false th Y n), some (nt k), some (M false false rws), row', nu'] := by
    intro qs
    induction qs with
    | nil => exact fun row nu _ => ⟨row, nu, rfl⟩
    | cons q qs ih =>
      intro row nu hq
      have hq0 := hq q List.mem_cons_self
      have hr := hrow q hq0
      have hpos : 0 < rws.length := List.length_pos_of_mem hq0
      have i0 := bin_ok (cvar_loc (r := [some (Ce false false th Y n), some (nt k), some (M false false rws), some (I false q), nu]) (i := 2) rfl rfl) (cc 0 _) (ix_fz (i := 2) (o := false) (d := I false rws[0]) rfl (frzs_M false rws) (by
        have e : atI (rws.map (I false)) ((0 : Nat) : Int) = (rws.map (I false))[0]? := VL.atI_nat 0
        rw [List.getElem?_map, List.getElem?_eq_getElem hpos] at e
        exact e) (frz_I false _))
      have l0 : cB (b1 lenD) (cCons (cBin gIx (cVar 2) (cC (.int 0))) cNil) [some (Ce false false th Y n), some (nt k), some (M false false rws), some (I false q), nu] = .ok (.val (nt w)) [some (Ce false false th Y n), some (nt k), some (M false false rws), some (I false q), nu] := by
        refine b1_ok i0 rfl ?_ rfl
        show some (D.int (((rws[0]).map D.int).length : Nat)) = _
        rw [List.length_map, (hrow _ (List.getElem_mem hpos)).1]
      have g := ne_ok (len_I (r := [some (Ce false false th Y n), some (nt k), some (M false false rws), some (I false q), nu]) (i := 3) (o := false) (xs := q) rfl) l0
      rw [hr.1, decide_eq_true rfl] at g
      have t1 := guard_no (f := cRaise 2) g
      have itq := it_lst (r := [some (Ce false false th Y n), some (nt k), some (M false false rws), some (I false q), nu]) (i := 3) (o := false) rfl (frzs_ints q)
      obtain ⟨y, e2⟩ := forL_look (v := 4) (f := (cIfS (cOr (cBin gLt (cVar 4) (cC (.int 0))) (cBin gGe (cVar 4) (cC (.int 257)))) (cRaise 2) cSkip)) (r0 := [some (Ce false false th Y n), some (nt k), some (M false false rws), some (I false q), nu]) (q.map .int) (fun d hd => by
        obtain ⟨x, hx, rfl⟩ := List.mem_map.mp hd
        have hb := hr.2 x hx
        have a1 := lt_ok (cvar_at (r := [some (Ce false false th Y n), some (nt k), some (M false false rws), some (I false q), some (.int x)]) (i := 4) (d := .int x) rfl rfl) (cc 0 _)
        rw [decide_eq_false (by omega)] at a1
        have a2 := ge_ok (cvar_at (r := [some (Ce false false th Y n), some (nt k), some (M false false rws), some (I false q), some (.int x)]) (i := 4) (d := .int x) rfl rfl) (cc 257 _)
        rw [decide_eq_false (by omega)] at a2
        exact guard_no (or_no a1 a2)) nu
      obtain ⟨row', nu', e3⟩ := ih (some (I false q)) y (fun x hx => hq x (List.mem_cons_of_mem _ hx))
      refine ⟨row', nu', ?_⟩
      rw [List.map_cons]
      exact (forL_cons (r1 := [some (Ce false false th Y n), some (nt k), some (M false false rws), some (I false q), nu]) rfl ((seq_nx t1).trans (for_ok itq e2))).trans e3
  obtain ⟨row', nu', e⟩ := lp rws none none (fun q hq => hq)
  exact runF_nx ((seq_nx s1).trans ((seq_nx s2).trans (for_ok it3 e)))
theorem in_ok {fa fb : Ev} {r : Rho} {x : R} {js : List Nat} {z : Nat} {o : Bool} (h1 : fa r = .ok (.val (nt z)) r) (h2 : fb r = .ok x r) (ho : opd r x = some (I o (zz js))) : cBin gIn fa fb r = .ok (.val (.bl (decide (z ∈ js)))) r := by
  refine bin_ok h1 h2 (g2_ok rfl ho (?_ : (inD (nt z) (I o (zz js))).map D.bl = some (.bl (decide (z ∈ js)))) rfl)
  have e1 : eqOk (nt z) = true := rfl
  have e2 : eqOk (I o (zz js)) = true := eqOk_fp (fp_I o (zz js)) (by decide)
  show ((if (eqOk (nt z) && eqOk (I o (zz js))) = true then some (((zz js).map D.int).any fun y => PyData.eqv (toPy y) (toPy (nt z))) else none)).map D.bl = _
  rw [e1, e2]
  show some (D.bl (((zz js).map D.int).any fun y => PyData.eqv (toPy y) (toPy (nt z)))) = _
  congr 2
  have one : ∀ a b : Int, PyData.eqv (toPy (.int a)) (toPy (.int b)) = decide (a = b) := fun a b => by
    have q := @q_eqI a b
    unfold eqD at q
    rw [eqOk_fp (fp_int a 0) (by decide), eqOk_fp (fp_int b 0) (by decide)] at q
    have q := Option.some.inj q
    injection q
  rw [List.any_map]
  unfold zz
  rw [List.any_map]
  rw [Bool.eq_iff_iff, List.any_eq_true, decide_eq_true_eq]
  constructor
  · rintro ⟨j, hj, e⟩
    have e : PyData.eqv (toPy (.int (j : Int))) (toPy (.int (z : Int))) = true := e
    rw [one, decide_eq_true_eq] at e
    have : j = z := by omega
    exact this ▸ hj
  · intro hz
    refine ⟨z, hz, ?_⟩
    show PyData.eqv (toPy (.int (z : Int))) (toPy (.int (z : Int))) = true
    rw [one, decide_eq_true rfl]
theorem listOf_val {fa : Ev} {r r1 : Rho} {o : Bool} {xs : List Int} (h : fa r = .ok (.val (I o xs)) r1) : cB gListOf (cCons fa cNil) r = .ok (.val (I true xs)) r1 := by
  rw [q_B, cons_ok h (nil_ok r1)]
  show (match opd r1 (.val (I o xs)) with | some (.node .lst _ ys) => EO.ok (.val (.node .lst true (frzs ys))) (touch r1 (.val (I o xs))) | some (.node .rd _ ys) => .ok (.val (.node .lst true (frzs ys))) (touch r1 (.val (I o xs))) | _ => .bad) = _
  show EO.ok (.val (.node .lst true (frzs (xs.map D.int)))) r1 = _
  rw [frzs_ints]
theorem lag_cols {k wd : Nat} {H : Nat → Int → Int} (hH : Cols k wd H) (js : List Nat) (hl : js.length = k) (hj : ∀ j ∈ js, j < 257) (hnd : js.Pairwise (· < ·)) (c : Nat) (hc : c < wd) (x : Int) : lag js (rowH H wd) x c = H c x := by
  have hp : (zz js).Pairwise (fun a b => ¬ E a b) := by
    unfold zz
    rw [List.pairwise_map]
    refine hnd.imp_of_mem fun {a b} ha hb hab => ?_
    have := hj a ha
    have := hj b hb
    unfold E
    omega
  obtain ⟨h1, h2⟩ := hH c hc
  have zl : (zz js).length = k := by unfold zz; rw [List.length_map, hl]
  have hi := lag_is hp (f := H c) (by rw [zl]; exact h1) x
  have ee : lagS (zz js) (zz js) (fun p => (rowH H wd p.toNat).getD c 0) x = lagS (zz js) (zz js) (H c) x := by
    unfold lagS
    congr 1
    refine List.map_congr_left fun p hp => ?_
    obtain ⟨j, _, rfl⟩ := List.mem_map.mp hp
    show share (zz js) x (j : Int) * (rowH H wd ((j : Nat) : Int).toNat).getD c 0 = share (zz js) x (j : Int) * H c (j : Int)
    congr 1
    unfold rowH
    rw [Int.toNat_natCast, List.getD_eq_getElem?_getD, List.getElem?_map, List.getElem?_range hc]
    rfl
  unfold lag
  rw [ee]
  have := h2 x
  have hi : lagS (zz js) (zz js) (H c) x % 257 = H c x % 257 := hi
  rw [hi]
  omega
theorem tabl_succ (Y : Nat → List Int) (x : Nat) : tabl Y (x + 1) = tabl Y x ++ [Y x] := by unfold tabl; rw [List.range_succ, List.map_append]; rfl
noncomputable abbrev Wa (th : Nat → Bool) (Y Z : Nat → List Int) (n : Nat) (js : List Nat) (m : Nat) (x : Option D) : Rho := [some (Ce false false th Y n), some (I false (zz js)), some (M true true (tabl Z m)), x]
noncomputable abbrev bodyA : Sv := (cIfS (cBin gIn (cVar 3) (cVar 1)) (cExpr (cApp 2 (cB (gListOf) (cCons (cBin gIx (cVar 0) (cVar 3)) cNil)))) (cExpr (cApp 2 (cCall 3 F_row_at (cCons (cVar 0) (cCons (cVar 1) (cCons (cVar 3) cNil)))))))
structure Pl (th : Nat → Bool) (n k : Nat) (js : List Nat) : Prop where
  len : js.length = k
  inn : ∀ j ∈ js, j < n ∧ th j = true
  up : js.Pairwise (· < ·)
theorem cell_yes {o : Bool} {th : Nat → Bool} {Y : Nat → List Int} {z : Nat} (h : th z = true) : cell o th Y z = I o (Y z) := if_pos h
theorem cell_ix {r : Rho} {i : Nat} {th : Nat → Bool} {Y : Nat → List Int} {n z : Nat} {fk : Ev} (h : r[i]? = some (some (Ce false false th Y n))) (hk : fk r = .ok (.val (nt z)) r) (hz : z < n) : cBin gIx (cVar i) fk r = .ok (.val (cell false th Y z)) r :=
  bin_ok (cvar_loc h rfl) hk (ix_fz h (frzs_cells false th Y n) (by rw [VL.atI_nat]; exact cells_at hz) (frz_cell false th Y z))
def byY (js : List Nat) (Y : Nat → List Int) (w x : Nat) : List Int := if x ∈ js then Y x else (List.range w).map (lag js Y (x : Int))
theorem a_step {th : Nat → Bool} {Y : Nat → List Int} {n k w : Nat} (hn2 : n < 1000) (hw1 : w < 700) (hk1 : 1 ≤ k) (hk2 : k ≤ 64) (hY : ∀ z < n, (Y z).length = w) {js : List Nat} (hp : Pl th n k js) (x : Nat) (hx : x < n) : bodyA (Wa th Y (byY js Y w) n js x (some (nt x))) = .nx (Wa th Y (byY js Y w) n js (x + 1) (some (nt x))) := by
  have g := in_ok (fa := cVar 3) (fb := cVar 1) (r := Wa th Y (byY js Y w) n js x (some (nt x))) (z := x) (js := js) (o := false) rfl (cvar_loc rfl rfl) (opd_loc' rfl)
  have fin : ∀ fa : Ev, fa (Wa th Y (byY js Y w) n js x (some (nt x))) = .ok (.val (I true (byY js Y w x))) (Wa th Y (byY js Y w) n js x (some (nt x))) → cExpr (cApp 2 fa) (Wa th Y (byY js Y w) n js x (some (nt x))) = .nx (Wa th Y (byY js Y w) n js (x + 1) (some (nt x))) := fun fa h => by
    have e := app_ok (i := 2) (ds := (tabl (byY js Y w) x).map (I true)) rfl h rfl (by rw [List.length_map, tabl_len]; omega)
    rw [e]
    show SO.nx [some (Ce false false th Y n), some (I false (zz js)), some (.node .lst true ((tabl (byY js Y w) x).map (I true) ++ [I true (byY js Y w x)])), some (nt x)] = SO.nx [some (Ce false false th Y n), some (I false (zz js)), some (.node .lst true ((tabl (byY js Y w) (x + 1)).map (I true))), some (nt x)]
    rw [tabl_succ, List.map_append]
    rfl
  by_cases h : x ∈ js
  · rw [decide_eq_true h] at g
    have ix := cell_ix (r := Wa th Y (byY js Y w) n js x (some (nt x))) (i := 0) (fk := cVar 3) (z := x) rfl rfl hx
    rw [cell_yes (hp.inn x h).2] at ix
    have e : byY js Y w x = Y x := if_pos h
    rw [← e] at ix
    exact ifs_yes g (fin _ (listOf_val ix))
  · rw [decide_eq_false h] at g
    have ra := row_at_ok (cells false th Y n) (frzs_cells false th Y n) js (fun z => by have := hp.len; rw [z, List.length_nil] at this; omega) Y w (by omega) ⟨fun j hj => by rw [cells_at (hp.inn j hj).1, cell_yes (hp.inn j hj).2], fun j hj => hY j (hp.inn j hj).1⟩ (by rw [hp.len]; omega) (x : Int)
    have e : byY js Y w x = (List.range w).map (lag js Y (x : Int)) := if_neg h
    rw [← e] at ra
    have ca := call_noL (n := 3) (F := F_row_at) (r := Wa th Y (byY js Y w) n js x (some (nt x))) (ds := [Ce false false th Y n, I false (zz js), nt x]) (cons_ok (cvar_loc (i := 0) (d := Ce false false th Y n) rfl rfl) (cons_ok (cvar_loc (i := 1) (d := I false (zz js)) rfl rfl) (cons_ok (cvar_at (i := 3) (d := nt x) rfl rfl) (nil_ok _)))) rfl rfl (noL_lints _) (by
      show F_row_at [frz (Ce false false th Y n), frz (I false (zz js)), nt x] = _
      rw [frz_Ce, frz_I]
      exact ra)
    exact ifs_not g (fin _ ca)
theorem a_loop {th : Nat → Bool} {Y : Nat → List Int} {n k w : Nat} (hn2 : n < 1000) (hw1 : w < 700) (hk1 : 1 ≤ k) (hk2 : k ≤ 64) (hY : ∀ z < n, (Y z).length = w) {js : List Nat} (hp : Pl th n k js) : ∀ (m x : Nat) (u : Option D), x + m = n → ∃ u', forL (.nm 3) bodyA ((List.range' x m).map nt) (Wa th Y (byY js Y w) n js x u) = .nx (Wa th Y (byY js Y w) n js n u')
  | 0, x, u, h => ⟨u, by
      have : x = n := by omega
      subst this; rfl⟩
  | m + 1, x, u, h => by
    obtain ⟨u', e⟩ := a_loop hn2 hw1 hk1 hk2 hY hp m (x + 1) (some (nt x)) (by omega)
    refine ⟨u', ?_⟩
    rw [List.range'_succ, List.map_cons]
    exact (forL_cons (r1 := Wa th Y (byY js Y w) n js x (some (nt x))) rfl (a_step hn2 hw1 hk1 hk2 hY hp x (by omega))).trans e
theorem all_by_gen {th : Nat → Bool} {Y : Nat → List Int} {n k w : Nat} (hn2 : n < 1000) (hw1 : w < 700) (hk1 : 1 ≤ k) (hk2 : k ≤ 64) (hY : ∀ z < n, (Y z).length = w) {js : List Nat} (hp : Pl th n k js) : F_all_by [Ce false false th Y n, I false (zz js)] = .ok (M true true (tabl (byY js Y w) n)) := by
  have s1 : cAsg (.nm 2) (cLst cNil) (startR 4 [Ce false false th Y n, I false (zz js)]) = .nx (Wa th Y (byY js Y w) n js 0 none) := rfl
  have le := len_at (r := Wa th Y (byY js Y w) n js 0 none) (i := 0) (k := .lst) (o := false) (xs := cells false th Y n) rfl (.inl rfl)
  rw [cells_len] at le
  have it := it_rng le (by omega)
  obtain ⟨u', e⟩ := a_loop hn2 hw1 hk1 hk2 hY hp n 0 none (by omega)
  rw [← List.range_eq_range'] at e
  exact runF_ok ((seq_nx s1).trans ((seq_nx (for_ok it e)).trans (ret_ok (cvar_loc (i := 2) (d := M true true (tabl (byY js Y w) n)) rfl rfl)))) rfl
theorem by_cols {th : Nat → Bool} {H : Nat → Int → Int} {n k w : Nat} (hn : n < 257) (hH : Cols k w H) {js : List Nat} (hp : Pl th n k js) (x : Nat) : byY js (rowH H w) w x = rowH H w x := by
  unfold byY
  by_cases h : x ∈ js
  · rw [if_pos h]
  · rw [if_neg h]
    exact List.map_congr_left fun c hc => lag_cols hH js hp.len (fun j hj => by have := (hp.inn j hj).1; omega) hp.up c (List.mem_range.mp hc) (x : Int)
theorem all_by_ok {th : Nat → Bool} {H : Nat → Int → Int} {n k w : Nat} (hg : Good th (rowH H w) n k w) (hH : Cols k w H) {js : List Nat} (hp : Pl th n k js) : F_all_by [Ce false false th (rowH H w) n, I false (zz js)] = .ok (M true true (tabl (rowH H w) n)) := by
  have hn2 := hg.n2; have hk2 := hg.k2
  rw [all_by_gen (by omega) hg.w1 hg.k1 hg.k2 (fun z _ => rowH_len H w z) hp]
  rw [tabl_congr (Y := byY js (rowH H w) w) (Z := rowH H w) fun z _ => by_cols (by omega) hH hp z]
theorem zz_map (ks : List Nat) : ks.map nt = (zz ks).map D.int := by unfold zz; rw [List.map_map]; rfl
theorem mend_ok {th : Nat → Bool} {H : Nat → Int → Int} {n k w : Nat} (hg : Good th (rowH H w) n k w) (hH : Cols k w H) (hfw : k + gone th n ≤ n) : F_mend_rows [Ce false false th (rowH H w) n, nt k] = .ok (M true true (tabl (rowH H w) n)) := by
  have hn2 := hg.n2; have hk2 := hg.k2
  have nr := need_rows_ok hg
  have s0 : cExpr (cCall 2 F_need_rows (cCons (cVar 0) (cCons (cVar 1) cNil))) (startR 5 [Ce false false th (rowH H w) n, nt k]) = .nx (startR 5 [Ce false false th (rowH H w) n, nt k]) := by
    rw [q_expr, call2 (F := F_need_rows) (r2 := startR 5 [Ce false false th (rowH H w) n, nt k]) (d := .non) (cvar_loc (i := 0) (d := Ce false false th (rowH H w) n) rfl rfl) (cvar_at (i := 1) (d := nt k) rfl rfl) rfl rfl (by rw [frz_Ce]; exact nr) rfl]
    rfl
  have le := len_at (r := startR 5 [Ce false false th (rowH H w) n, nt k]) (i := 0) (k := .lst) (o := false) (xs := cells false th (rowH H w) n) rfl (.inl rfl)
  rw [cells_len] at le
  have it := it_rng le (by omega)
  have lc := lc_filt (v := 4) (fc := cBin gIsNot (cBin gIx (cVar 0) (cVar 4)) (cC .non)) (r0 := startR 5 [Ce false false th (rowH H w) n, nt k]) (List.range n) th it rfl rfl (by rw [List.length_range]; omega) (fun z hz => by
    have ix := cell_ix (r := (startR 5 [Ce false false th (rowH H w) n, nt k]).set 4 (some (nt z))) (i := 0) (fk := cVar 4) (z := z) rfl rfl (List.mem_range.mp hz)
    refine bin_ok ix (show cC .non _ = .ok (.val .non) _ from rfl) ?_
    unfold cell
    by_cases h : th z = true
    · rw [if_pos h, h]; rfl
    · rw [if_neg h, Bool.eq_false_iff.mpr h]; rfl)
  have hgf := gone_filter th n
  have hfew := hfw
  have hin : ∀ z ∈ (List.range n).filter th, z < n ∧ th z = true := fun z hz => ⟨List.mem_range.mp (List.mem_filter.mp hz).1, (List.mem_filter.mp hz).2⟩
  have hup : ((List.range n).filter th).Pairwise (· < ·) := List.pairwise_lt_range.filter _
  generalize (List.range n).filter th = pls at lc hgf hin hup
  have e1 : L true pls = I true (zz pls) := by show D.node .lst true (pls.map nt) = _; rw [zz_map]
  rw [e1] at lc
  have s1 : cAsg (.nm 2) (cLc [4] (.nm 4) (iRng rngI1 (cCons (cB (b1 lenD) (cCons (cVar 0) cNil)) cNil)) (some (cBin gIsNot (cBin gIx (cVar 0) (cVar 4)) (cC .non))) (cVar 4)) (startR 5 [Ce false false th (rowH H w) n, nt k]) = .nx [some (Ce false false th (rowH H w) n), some (nt k), some (I true (zz pls)), none, none] := asg_ok (i := 2) lc
  have zl : (zz pls).length = pls.length := by unfold zz; rw [List.length_map]
  have lt := lt_ok (len_I (r := [some (Ce false false th (rowH H w) n), some (nt k), some (I true (zz pls)), none, none]) (i := 2) (o := true) (xs := zz pls) rfl) (cvar_at (i := 1) (d := nt k) rfl rfl)
  rw [zl, decide_eq_false (by omega)] at lt
  have s2 := guard_no (f := cRaise 2) lt
  have hPl : Pl th n k (pls.take k) := ⟨by rw [List.length_take]; omega, fun j hj => hin j (List.mem_of_mem_take hj), hup.sublist (List.take_sublist _ _)⟩
  have ab := all_by_ok hg hH hPl
  have sl := sl_to (r := [some (Ce false false th (rowH H w) n), some (nt k), some (I true (zz pls)), none, none]) (i := 2) (o := true) (xs := zz pls) (fh := cVar 1) (m := k) rfl rfl
  rw [show (zz pls).take k = zz (pls.take k) by unfold zz; rw [List.map_take]] at sl
  have ca := call2 (F := F_all_by) (cvar_loc (r := [some (Ce false false th (rowH H w) n), some (nt k), some (I true (zz pls)), none, none]) (i := 0) (d := Ce false false th (rowH H w) n) rfl rfl) sl rfl rfl (by rw [frz_Ce, frz_I]; exact ab) (noL_M _)
  have s3 := asg_ok (i := 3) ca
  have sl2 := sl_of (r := [some (Ce false false th (rowH H w) n), some (nt k), some (I true (zz pls)), some (M true true (tabl (rowH H w) n)), none]) (i := 2) (o := true) (xs := zz pls) (fl := cVar 1) (m := k) rfl rfl
  rw [show (zz pls).drop k = zz (pls.drop k) by unfold zz; rw [List.map_drop]] at sl2
  have it4 : iLst (cSl (cVar 2) (some (cVar 1)) none) [some (Ce false false th (rowH H w) n), some (nt k), some (I true (zz pls)), some (M true true (tabl (rowH H w) n)), none] = .ok ((pls.drop k).map nt) [some (Ce false false th (rowH H w) n), some (nt k), some (I true (zz pls)), some (M true true (tabl (rowH H w) n)), none] := by
    show (match cSet (cSl (cVar 2) (some (cVar 1)) none) [some (Ce false false th (rowH H w) n), some (nt k), some (I true (zz pls)), some (M true true (tabl (rowH H w) n)), none] with | .ok (.val (.node .lst _ ds)) r1 => IO.ok ds r1 | .ok (.val (.node .rd _ ds)) r1 => .ok ds r1 | .exc c r1 => .exc c r1 | _ => .bad) = _
    rw [set_val sl2, zz_map]
  obtain ⟨y, e4⟩ := forL_look (v := 4) (f := (cIfS (cPure (cBin gNe (cBin gIx (cVar 3) (cVar 4)) (cB (gListOf) (cCons (cBin gIx (cVar 0) (cVar 4)) cNil)))) (cRaise 2) cSkip)) (r0 := [some (Ce false false th (rowH H w) n), some (nt k), some (I true (zz pls)), some (M true true (tabl (rowH H w) n)), none]) ((pls.drop k).map nt) (fun d hd => by
    obtain ⟨z, hz, rfl⟩ := List.mem_map.mp hd
    obtain ⟨hz1, hz2⟩ := hin z (List.mem_of_mem_drop hz)
    have fr : frzR [some (Ce false false th (rowH H w) n), some (nt k), some (I true (zz pls)), some (M true true (tabl (rowH H w) n)), some (nt z)] = [some (Ce false false th (rowH H w) n), some (nt k), some (I false (zz pls)), some (M false false (tabl (rowH H w) n)), some (nt z)] := by
      show [some (frz (Ce false false th (rowH H w) n)), some (nt k), some (frz (I true (zz pls))), some (frz (M true true (tabl (rowH H w) n))), some (nt z)] = _
      rw [frz_Ce, frz_I, frz_M]
    have i3 := bin_ok (cvar_loc (r := [some (Ce false false th (rowH H w) n), some (nt k), some (I false (zz pls)), some (M false false (tabl (rowH H w) n)), some (nt z)]) (i := 3) rfl rfl) (cvar_at (i := 4) (d := nt z) rfl rfl) (ix_fz (i := 3) (o := false) (d := I false (rowH H w z)) rfl (frzs_M false _) (by rw [VL.atI_nat, List.getElem?_map, tabl_at hz1]; rfl) (frz_I false _))
    have i0 := cell_ix (r := [some (Ce false false th (rowH H w) n), some (nt k), some (I false (zz pls)), some (M false false (tabl (rowH H w) n)), some (nt z)]) (i := 0) (fk := cVar 4) (z := z) rfl rfl hz1
    rw [cell_yes hz2] at i0
    have ne := bin_ok (g := gNe) i3 (listOf_val i0) (g2_ok rfl rfl (neD_same (fp_I false (rowH H w z)) (by decide) rfl) rfl)
    rw [← fr] at ne
    exact guard_no (pure_ok ne rfl)) none
  exact runF_ok ((seq_nx s0).trans ((seq_nx s1).trans ((seq_nx s2).trans ((seq_nx s3).trans ((seq_nx (for_ok it4 e4)).trans (ret_ok (cvar_loc (r := [some (Ce false false th (rowH H w) n), some (nt k), some (I true (zz pls)), some (M true true (tabl (rowH H w) n)), y]) (i := 3) (d := M true true (tabl (rowH H w) n)) rfl rfl))))))) rfl
end K81.Sl

namespace K81.Sl
open K81
def Row (w : Nat) (row : List Int) : Prop := row.length = w ∧ ∀ x ∈ row, 0 ≤ x ∧ x ≤ 256
def Rows (w : Nat) (rows : List (List Int)) : Prop := ∀ row ∈ rows, Row w row
def rowY (rows : List (List Int)) (j : Nat) : List Int := rows.getD j []
def spare (rows : List (List Int)) (w : Nat) (x : Int) : List Int := (List.range w).map (lag (List.range rows.length) (rowY rows) x)
def spares (rows : List (List Int)) (w r : Nat) : List (List Int) := (List.range r).map fun one => spare rows w ((rows.length + one : Nat) : Int)
theorem at_rows {w : Nat} {rows : List (List Int)} (hr : Rows w rows) : At (rows.map (I false)) (List.range rows.length) (rowY rows) w where
  row := fun j hj => by
    have hj := List.mem_range.mp hj
    unfold rowY
    rw [List.getElem?_map, List.getElem?_eq_getElem hj, List.getD_eq_getElem?_getD, List.getElem?_eq_getElem hj]
    rfl
  wide := fun j hj => by
    have hj := List.mem_range.mp hj
    unfold rowY
    rw [List.getD_eq_getElem?_getD, List.getElem?_eq_getElem hj]
    exact (hr _ (List.getElem_mem hj)).1
theorem spares_ok {w : Nat} {rows : List (List Int)} (hr : Rows w rows) (h1 : 1 ≤ rows.length) (h2 : rows.length ≤ 64) (hw : w < 700) (r : Nat) (hr2 : r ≤ 16) : F_spares_of [M false false rows, nt r] = .ok (M true true (spares rows w r)) := by
  have le := len_at (r := startR 4 [M false false rows, nt r]) (i := 0) (k := .lst) (o := false) (xs := rows.map (I false)) rfl (.inl rfl)
  rw [List.length_map] at le
  have lr := listRg1_ok le (by unfold rgOk within; simp; omega)
  have er : rgD 0 (rows.length : Int) = (zz (List.range rows.length)).map D.int := by
    rw [rgD_ints]
    congr 1
    unfold zz
    rw [show ((rows.length : Int) - 0).toNat = rows.length by omega]
    refine List.map_congr_left fun i _ => ?_
    omega
  rw [er] at lr
  have s1 : cAsg (.nm 2) (cListRg1 (cB (b1 lenD) (cCons (cVar 0) cNil))) (startR 4 [M false false rows, nt r]) = .nx [some (M false false rows), some (nt r), some (I true (zz (List.range rows.length))), none] := asg_ok (i := 2) lr
  have it := it_rng (fa := cVar 1) (r := [some (M false false rows), some (nt r), some (I true (zz (List.range rows.length))), none]) (n := r) rfl (by omega)
  have lc := lc_all (α := Nat) (enc := nt) (g := fun one => I true (spare rows w ((rows.length + one : Nat) : Int))) (fe := cCall 3 F_row_at (cCons (cVar 0) (cCons (cVar 2) (cCons (cBin gAdd (cB (b1 lenD) (cCons (cVar 0) cNil)) (cVar 3)) cNil)))) (t := .nm 3) (vs := [3]) (r0 := [some (M false false rows), some (nt r), some (I true (zz (List.range rows.length))), none]) (List.range r) it rfl (by simp; omega) (fun one _ => by
    have le := len_at (r := [some (M false false rows), some (nt r), some (I true (zz (List.range rows.length))), some (nt one)]) (i := 0) (k := .lst) (o := false) (xs := rows.map (I false)) rfl (.inl rfl)
    rw [List.length_map] at le
    have ra := row_at_ok (rows.map (I false)) (frzs_M false rows) (List.range rows.length) (fun z => by have := congrArg List.length z; rw [List.length_range, List.length_nil] at this; omega) (rowY rows) w (by omega) (at_rows hr) (by rw [List.length_range]; omega) ((rows.length + one : Nat) : Int)
    have ca := call_noL (n := 3) (F := F_row_at) (r := [some (M false false rows), some (nt r), some (I true (zz (List.range rows.length))), some (nt one)]) (ds := [M false false rows, I true (zz (List.range rows.length)), nt (rows.length + one)]) (cons_ok (cvar_loc (i := 0) (d := M false false rows) rfl rfl) (cons_ok (cvar_loc (i := 2) (d := I true (zz (List.range rows.length))) rfl rfl) (cons_ok (add_nt le (cvar_at (i := 3) (d := nt one) rfl rfl)) (nil_ok _)))) rfl rfl (noL_lints _) (by
      show F_row_at [frz (M false false rows), frz (I true (zz (List.range rows.length))), nt (rows.length + one)] = _
      rw [frz_M, frz_I]
      exact ra)
    exact ⟨_, rfl, _, set_val ca, rfl⟩)
  have em : (List.range r).map (fun one => I true (spare rows w ((rows.length + one : Nat) : Int))) = (spares rows w r).map (I true) := by
    unfold spares
    rw [List.map_map]; rfl
  rw [em] at lc
  exact runF_ok ((seq_nx s1).trans (ret_ok lc)) rfl
theorem pairs_range (k : Nat) : (zz (List.range k)).Pairwise (fun a b => ¬ E a b) ∨ 257 < k := by
  by_cases h : k ≤ 257
  · refine .inl ?_
    unfold zz
    rw [List.pairwise_map]
    refine (List.pairwise_lt_range).imp_of_mem fun {a b} ha hb hab => ?_
    have := List.mem_range.mp ha
    have := List.mem_range.mp hb
    unfold E
    omega
  · exact .inr (by omega)
theorem slab_cols {w : Nat} {rows : List (List Int)} (hr : Rows w rows) (h2 : rows.length ≤ 64) (r : Nat) : ∃ H, Cols rows.length w H ∧ tabl (rowH H w) (rows.length + r) = rows ++ spares rows w r := by
  have hp : (zz (List.range rows.length)).Pairwise (fun a b => ¬ E a b) := (pairs_range rows.length).resolve_right (by omega)
  have zl : (zz (List.range rows.length)).length = rows.length := by unfold zz; rw [List.length_map, List.length_range]
  refine ⟨fun c x => lag (List.range rows.length) (rowY rows) x c, fun c hc => ⟨?_, fun x => ⟨Int.emod_nonneg _ (by decide), Int.emod_lt_of_pos _ (by decide)⟩⟩, ?_⟩
  · exact (lag_poly (zz (List.range rows.length)) rows.length (fun p => (rowY rows p.toNat).getD c 0) (zz (List.range rows.length)) (fun p h => by have := filter_ne hp h; omega)).congr fun x => E.md _
  · refine List.ext_getElem? fun i => ?_
    by_cases hi : i < rows.length + r
    · rw [tabl_at hi]
      by_cases h : i < rows.length
      · rw [List.getElem?_append_left h, List.getElem?_eq_getElem h]
        have hrow := hr _ (List.getElem_mem h)
        congr 1
        refine List.ext_getElem? fun c => ?_
        unfold rowH
        rw [List.getElem?_map]
        by_cases hc : c < w
        · have hcl : c < (rows[i]).length := by rw [hrow.1]; exact hc
          rw [List.getElem?_range hc, List.getElem?_eq_getElem hcl]
          have hx := hrow.2 _ (List.getElem_mem hcl)
          have hm : ((i : Nat) : Int) ∈ zz (List.range rows.length) := List.mem_map.mpr ⟨i, List.mem_range.mpr h, rfl⟩
          have n := lag_node hp (fun p => (rowY rows p.toNat).getD c 0) hm (zz (List.range rows.length)) (fun _ h => h) hp
          rw [if_pos hm] at n
          have ey : (rowY rows ((i : Nat) : Int).toNat).getD c 0 = (rows[i])[c] := by
            unfold rowY
            rw [Int.toNat_natCast, List.getD_eq_getElem?_getD, List.getD_eq_getElem?_getD, List.getElem?_eq_getElem h]
            show ((rows[i])[c]?).getD 0 = _
            rw [List.getElem?_eq_getElem hcl]; rfl
          have n : lagS (zz (List.range rows.length)) (zz (List.range rows.length)) (fun p => (rowY rows p.toNat).getD c 0) (i : Int) % 257 = (rowY rows ((i : Nat) : Int).toNat).getD c 0 % 257 := n
          show some (lag (List.range rows.length) (rowY rows) (i : Int) c) = some (rows[i])[c]
          unfold lag
          rw [n, ey]
          congr 1
          omega
        · rw [List.getElem?_eq_none (by rw [List.length_range]; omega), List.getElem?_eq_none (by rw [hrow.1]; omega)]
          rfl
      · rw [List.getElem?_append_right (by omega)]
        unfold spares
        rw [List.getElem?_map, List.getElem?_range (by omega)]
        show some (rowH _ w i) = some (spare rows w ((rows.length + (i - rows.length) : Nat) : Int))
        rw [show rows.length + (i - rows.length) = i by omega]
        rfl
    · rw [List.getElem?_eq_none (by rw [tabl_len]; omega), List.getElem?_eq_none (by unfold spares; rw [List.length_append, List.length_map, List.length_range]; omega)]
end K81.Sl

namespace K81.Sb
open K81
abbrev I (o : Bool) (xs : List Int) : D := .node .lst o (xs.map .int)
theorem cc (n : Int) (r : Rho) : cC (.int n) r = .ok (.val (.int n)) r := rfl
theorem set_val {fa : Ev} {r r1 : Rho} {d : D} (h : fa r = .ok (.val d) r1) : cSet fa r = .ok (.val d) r1 := by
  rw [q_set, h, bd_ok]
theorem set_loc {r : Rho} {i : Nat} {o : Bool} {ds : List D} (h : r[i]? = some (some (.node .lst o ds))) (f : frzs ds = ds) : cSet (cVar i) r = .ok (.val (.node .lst false ds)) (r.set i (some (.node .lst false ds))) := by
  have e : frz (.node .lst o ds) = .node .lst false ds := frz_lst f
  rw [q_set, cvar_loc h rfl, bd_ok]
  show (match opd r (.loc i) with | some d => EO.ok (.val (frz d)) (settle r (.loc i)) | none => .bad) = _
  rw [opd_loc' h, q_settle2, h]
  show EO.ok (R.val (frz (.node .lst o ds))) (r.set i (some (frz (.node .lst o ds)))) = _
  rw [e]
theorem appI {fa : Ev} {r r1 : Rho} {i : Nat} {n : Int} {xs : List Int} (hi : isLst r i = true) (h : fa r = .ok (.val (.int n)) r1) (h2 : r1[i]? = some (some (I true xs))) (hl : xs.length < 16777216) : cExpr (cApp i fa) r = .nx (r1.set i (some (I true (xs ++ [n])))) := by
  rw [app_ok hi h h2 (by rw [List.length_map]; exact hl), I, List.map_append]
  rfl
theorem len_at {r : Rho} {i : Nat} {k : Kd} {o : Bool} {xs : List D} (h : r[i]? = some (some (.node k o xs))) (hk : k = .lst ∨ k = .rd ∨ k = .tup) : cB (b1 lenD) (cCons (cVar i) cNil) r = .ok (.val (.int xs.length)) r :=
  b1_ok (cvar_loc h rfl) (opd_loc' h) (by rcases hk with h | h | h <;> subst h <;> rfl) rfl
theorem len_I {r : Rho} {i : Nat} {o : Bool} {xs : List Int} (h : r[i]? = some (some (I o xs))) : cB (b1 lenD) (cCons (cVar i) cNil) r = .ok (.val (.int xs.length)) r := by
  have e := len_at h (.inl rfl)
  rw [List.length_map] at e
  exact e
theorem cons_ok {fa : Ev} {fs : Av} {r r1 r2 : Rho} {x : R} {xs : List R} (h : fa r = .ok x r1) (h2 : fs r1 = .ok xs r2) : cCons fa fs r = .ok (x :: xs) r2 := by
  rw [q_cons, h]
  show (match fs r1 with | .ok xs r2 => AO.ok (x :: xs) r2 | .exc c r2 => .exc c r2 | .bad => .bad) = _
  rw [h2]
theorem nil_ok (r : Rho) : cNil r = .ok [] r := rfl
theorem lst_ok {fs : Av} {r r1 : Rho} {xs : List R} {ds : List D} (h : fs r = .ok xs r1) (h2 : valsR xs = some ds) (hl : ds.length ≤ 16777216) : cLst fs r = .ok (.val (.node .lst true ds)) r1 := by
  rw [q_lst, h]
  show (match valsR xs with | some ds => if ds.length ≤ 16777216 then EO.ok (.val (.node .lst true ds)) r1 else .bad | none => .bad) = _
  rw [h2]
  show (if ds.length ≤ 16777216 then EO.ok (.val (.node .lst true ds)) r1 else .bad) = _
  rw [if_pos hl]
theorem tup_ok {fs : Av} {r r1 : Rho} {xs : List R} {ds : List D} (h : fs r = .ok xs r1) (h2 : valsR xs = some ds) (hl : ds.length ≤ 16777216) : cTup fs r = .ok (.val (.node .tup false ds)) r1 := by
  rw [q_tup, h]
  show (match valsR xs with | some ds => if ds.length ≤ 16777216 then EO.ok (.val (.node .tup false ds)) r1 else .bad | none => .bad) = _
  rw [h2]
  show (if ds.length ≤ 16777216 then EO.ok (.val (.node .tup false ds)) r1 else .bad) = _
  rw [if_pos hl]
theorem frz_I (o : Bool) (xs : List Int) : frz (I o xs) = I false xs := frz_ints xs o
abbrev nt (k : Nat) : D := .int (k : Nat)
abbrev L (o : Bool) (ks : List Nat) : D := .node .lst o (ks.map nt)
theorem rng_nt (n : Nat) : rngD 0 1 n = (List.range n).map nt := by
  unfold rngD
  refine List.map_congr_left fun i _ => ?_
  show D.int ((0 : Int) + (i : Nat) * 1) = D.int (i : Nat)
  congr 1; omega
theorem it_rng {fa : Ev} {r r1 : Rho} {n : Nat} (h : fa r = .ok (.val (nt n)) r1) (hn : n ≤ 1000000) : iRng rngI1 (cCons fa cNil) r = .ok ((List.range n).map nt) r1 := by
  rw [q_iRng, q_cons, h]
  show rngI1 r1 [.val (.int (n : Nat))] = _
  rw [q_rng1, if_pos (within_le (by omega) (by omega)), Int.toNat_natCast, rng_nt]
theorem add_nt {fa fb : Ev} {r r1 r2 : Rho} {i j : Nat} (h1 : fa r = .ok (.val (nt i)) r1) (h2 : fb r1 = .ok (.val (nt j)) r2) : cBin gAdd fa fb r = .ok (.val (nt (i + j))) r2 := by
  have e := add_ok h1 h2
  exact e
theorem lt_nt {fa fb : Ev} {r r1 r2 : Rho} {i j : Nat} (h1 : fa r = .ok (.val (nt i)) r1) (h2 : fb r1 = .ok (.val (nt j)) r2) : cBin gLt fa fb r = .ok (.val (.bl (decide (i < j)))) r2 := by
  rw [lt_ok h1 h2, decide_eq_decide.mpr (show (i : Int) < j ↔ i < j by omega)]
theorem and_no {fa fb : Ev} {r : Rho} (h : fa r = .ok (.val (.bl false)) r) : cAnd fa fb r = .ok (.val (.bl false)) r := by
  rw [q_and, h, bd_ok]
theorem so : PyData.canLay0 (.str "sign") = true ∧ PyData.canLay0 (.str "copy") = true := by decide +kernel
theorem ix_tup {r : Rho} {i : Nat} {k : Int} {o : Bool} {xs : List D} {d : D} (h : r[i]? = some (some (.node .tup o xs))) (f : frzs xs = xs) (hd : atI xs k = some d) (fd : frz d = d) : gIx (.loc i) (.val (.int k)) r = .ok (.val d) r := by
  have a : opd r (.loc i) = some (.node .tup o xs) := opd_loc' h
  simp only [q_ix, a, q_opd1, hd, q_pick, fd, touch_fz h f]
  split <;> rfl
theorem cs : (("copy" : Str) == "sign") = false := by decide +kernel
theorem part_ok {f : Ev} {r r1 : Rho} {i : Int} {k : Option Int → Rho → EO} (h : f r = .ok (.val (.int i)) r1) : VL.part (some f) r k = k (some i) r1 := by
  show (f r).bd _ = _
  rw [h]
  rfl
theorem frz_script (ns : List Int) : frz (script ns) = script ns := by
  show D.node .rd false (frzs (ns.map D.int)) = _
  rw [frzs_ints]; rfl
theorem rd_at {ns : List Int} {r : Rho} {i k : Nat} {fa : Ev} (h : r[i]? = some (some (script ns))) (h2 : fa r = .ok (.val (nt k)) r) (hk : k < ns.length) : cBin gIx (cVar i) fa r = .ok (.val (.int ns[k])) r := by
  refine bin_ok (cvar_loc h rfl) h2 ?_
  rw [q_ix, opd_loc' h]
  show (match atI (ns.map D.int) (k : Int) with | some d => pick r (.loc i) d | none => EO.bad) = _
  rw [at_map hk]
  rfl
theorem sc : (("sign" : Str) == "copy") = false := by decide +kernel
theorem neg_ok {fa : Ev} {r r1 : Rho} {n : Int} (h : fa r = .ok (.val (.int n)) r1) : cNeg fa r = .ok (.val (.int (-n))) r1 := by
  unfold cNeg
  rw [h]
  rfl
theorem lcL_all {α : Type} {enc g : α → D} {t : Tg} {fe : Ev} {vs : List Nat} {r0 : Rho} : ∀ (xs : List α) (acc : List D), acc.length + xs.length < 16777216 →
    (∀ a ∈ xs, ∃ r2, tgt t (enc a) r0 = some r2 ∧ ∃ r3, cSet fe r2 = .ok (.val (g a)) r3 ∧ wipeR r3 vs = r0) → lcL t none fe vs (xs.map enc) acc r0 = .ok (acc ++ xs.map g) r0
  | [], acc, _, _ => by simp [lcL]
  | a :: xs, acc, hl, hs => by
    simp only [List.length_cons] at hl
    obtain ⟨r2, e1, r3, e2, e3⟩ := hs a List.mem_cons_self
    rw [List.map_cons]
    unfold lcL
    rw [e1]
    show (match cSet fe r2 with | .ok (.val e) r3 => if acc.length < 16777216 then lcL t none fe vs (xs.map enc) (acc ++ [e]) (wipeR r3 vs) else .bad | _ => LO.bad) = _
    rw [e2]
    show (if acc.length < 16777216 then lcL t none fe vs (xs.map enc) (acc ++ [g a]) (wipeR r3 vs) else LO.bad) = _
    rw [if_pos (by omega), e3, lcL_all xs (acc ++ [g a]) (by rw [List.length_append, List.length_singleton]; omega) (fun x hx => hs x (List.mem_cons_of_mem _ hx)), List.append_assoc]
    rfl
theorem lc_all {α : Type} {enc g : α → D} {fi : Iv} {t : Tg} {fe : Ev} {vs : List Nat} {r r1 r0 : Rho} (xs : List α) (hi : fi r = .ok (xs.map enc) r1) (h0 : wipeR r1 vs = r0) (hl : xs.length < 16777216)
    (hs : ∀ a ∈ xs, ∃ r2, tgt t (enc a) r0 = some r2 ∧ ∃ r3, cSet fe r2 = .ok (.val (g a)) r3 ∧ wipeR r3 vs = r0) : cLc vs t fi none fe r = .ok (.val (.node .lst true (xs.map g))) (backR r1 r0 vs) := by
  rw [q_lc, hi]
  show (match lcL t none fe vs (xs.map enc) [] (wipeR r1 vs) with | .ok acc r2 => EO.ok (.val (.node .lst true acc)) (backR r1 r2 vs) | .bad => .bad) = _
  rw [h0, lcL_all xs [] (by simpa using hl) hs]
  rfl
theorem min_nt {fa fb : Ev} {r : Rho} {i j : Nat} (h1 : fa r = .ok (.val (nt i)) r) (h2 : fb r = .ok (.val (nt j)) r) : cB gMin2 (cCons fa (cCons fb cNil)) r = .ok (.val (nt (min i j))) r := by
  rw [q_B, cons_ok h1 (cons_ok h2 (nil_ok r))]
  show gMin2 [.val (nt i), .val (nt j)] r = _
  rw [q_min2]
  congr 3
  by_cases hn : (j : Int) < i
  · rw [if_pos hn]; omega
  · rw [if_neg hn]; omega
theorem sub_nt {fa fb : Ev} {r r1 r2 : Rho} {i j : Nat} (h1 : fa r = .ok (.val (nt i)) r1) (h2 : fb r1 = .ok (.val (nt j)) r2) (h : j ≤ i) : cBin VL.gSub fa fb r = .ok (.val (nt (i - j))) r2 := by
  have e := sub_ok h1 h2
  rw [show (i : Int) - (j : Int) = ((i - j : Nat) : Int) by omega] at e
  exact e
theorem emod_nt (z : Int) (m : Nat) (hm : 1 ≤ m) : ∃ q : Nat, z % (m : Int) = (q : Int) ∧ q < m := by
  have h1 := Int.emod_nonneg z (show (m : Int) ≠ 0 by omega)
  have h2 := Int.emod_lt_of_pos z (show (0 : Int) < (m : Int) by omega)
  exact ⟨(z % (m : Int)).toNat, by omega, by omega⟩
abbrev pl (a b c : Int) : D := .node .lst true [.int a, .int b, .int c]
def Pool (d : D) (n : Nat) : Prop := ∃ a b c, d = pl a b c ∧ 0 ≤ c ∧ c ≤ n
theorem Pool.mono {d : D} {n m : Nat} (h : Pool d n) (hn : n ≤ m) : Pool d m := by
  obtain ⟨a, b, c, e, h1, h2⟩ := h
  exact ⟨a, b, c, e, h1, by omega⟩
theorem take_ok {d : D} {n : Nat} (h : Pool d n) (hn : n < 999999) (m : Nat) (hm : 0 < m) (hm2 : m < 1000000) : ∃ (v : Nat) (d' : D), F__law_take d [nt m] = .ok (nt v) d' ∧ v < m ∧ Pool d' (n + 1) := by
  obtain ⟨a, b, c, e, h1, h2⟩ := h
  subst e
  by_cases hb : b = 1
  · subst hb
    obtain ⟨q, eq, hq⟩ := emod_nt a m hm
    refine ⟨q, pl (a / m) 1 c, ?_, hq, a / m, 1, c, rfl, h1, by omega⟩
    have i1 : cBin gEq (cBin gIx (cVar 0) (cC (.int 1))) (cC (.int 1)) [some (pl a 1 c), some (nt m), none, none, none] = .ok (.val (.bl true)) [some (pl a 1 c), some (nt m), none, none, none] := rfl
    have v0 : cBin gIx (cVar 0) (cC (.int 0)) [some (pl a 1 c), some (nt m), none, none, none] = .ok (.val (.int a)) [some (pl a 1 c), some (nt m), none, none, none] := rfl
    have m0 := mod_ok v0 (cvar_at (i := 1) (d := nt m) rfl rfl) (by omega)
    rw [eq] at m0
    have s1 : cAsg (.nm 2) (cBin gMod (cBin gIx (cVar 0) (cC (.int 0))) (cVar 1)) [some (pl a 1 c), some (nt m), none, none, none] = .nx [some (pl a 1 c), some (nt m), some (nt q), none, none] := asg_ok (i := 2) m0
    have w0 : cBin gIx (cVar 0) (cC (.int 0)) [some (pl a 1 c), some (nt m), some (nt q), none, none] = .ok (.val (.int a)) [some (pl a 1 c), some (nt m), some (nt q), none, none] := rfl
    have d0 := div_ok w0 (cvar_at (i := 1) (d := nt m) rfl rfl) (by omega) (by omega)
    have s2 : cSetIx 0 (cC (.int 0)) (cBin gDiv (cBin gIx (cVar 0) (cC (.int 0))) (cVar 1)) [some (pl a 1 c), some (nt m), some (nt q), none, none] = .nx [some (pl (a / m) 1 c), some (nt m), some (nt q), none, none] := by
      rw [q_setIx, set_val d0]
      rfl
    have s3 : cRet (cVar 2) [some (pl (a / m) 1 c), some (nt m), some (nt q), none, none] = .rt (.val (nt q)) [some (pl (a / m) 1 c), some (nt m), some (nt q), none, none] := rfl
    have fin : f__law_take [some (pl a 1 c), some (nt m), none, none, none] = .rt (.val (nt q)) [some (pl (a / m) 1 c), some (nt m), some (nt q), none, none] := seq_rt (ifs_yes i1 ((seq_nx s1).trans ((seq_nx s2).trans s3)))
    show (match f__law_take [some (pl a 1 c), some (nt m), none, none, none] with | .rt (.val d) r => (match r[0]? with | some (some d0') => MO.ok d d0' | _ => .bad) | .rt (.loc i) r => _ | .nx r => _ | _ => _) = _
    rw [fin]
    rfl
  · have i1 : cBin gEq (cBin gIx (cVar 0) (cC (.int 1))) (cC (.int 1)) [some (pl a b c), some (nt m), none, none, none] = .ok (.val (.bl (decide (b = 1)))) [some (pl a b c), some (nt m), none, none, none] := rfl
    rw [decide_eq_false hb] at i1
    have i2 : cBin gIx (cVar 0) (cC (.int 2)) [some (pl a b c), some (nt m), none, none, none] = .ok (.val (.int c)) [some (pl a b c), some (nt m), none, none, none] := rfl
    have s1 : cSetIx 0 (cC (.int 2)) (cBin gAdd (cBin gIx (cVar 0) (cC (.int 2))) (cC (.int 1))) [some (pl a b c), some (nt m), none, none, none] = .nx [some (pl a b (c + 1)), some (nt m), none, none, none] := by
      rw [q_setIx, set_val (add_ok i2 (cc 1 _))]
      rfl
    obtain ⟨t, ht⟩ : ∃ t : Int, c + 1 = t := ⟨c + 1, rfl⟩
    rw [ht] at s1
    have s2 : cAsg (.nm 3) (cBin gIx (cVar 0) (cC (.int 2))) [some (pl a b t), some (nt m), none, none, none] = .nx [some (pl a b t), some (nt m), none, some (.int t), none] := rfl
    have a0 : cBin gIx (cVar 0) (cC (.int 0)) [some (pl a b t), some (nt m), none, some (.int t), none] = .ok (.val (.int a)) [some (pl a b t), some (nt m), none, some (.int t), none] := rfl
    have e3 : cVar 3 [some (pl a b t), some (nt m), none, some (.int t), none] = .ok (.val (.int t)) [some (pl a b t), some (nt m), none, some (.int t), none] := rfl
    have hz0 := Int.emod_nonneg a (show (9999999833 : Int) ≠ 0 by decide)
    have hz1 := Int.emod_lt_of_pos a (show (0 : Int) < 9999999833 by decide)
    have v3 := mul_ok (add_ok (mod_ok a0 (cc 9999999833 _) (by decide)) (cc 401 _)) (add_ok (mul_ok (cc 7 _) e3 (mulOk_l (by decide))) (cc 19 _)) (mulOk_l (by omega))
    have b1 : 0 ≤ (a % 9999999833 + 401) * (7 * t + 19) := Int.mul_nonneg (by omega) (by omega)
    have b2 : (a % 9999999833 + 401) * (7 * t + 19) ≤ 10000000234 * 7000026 := Int.mul_le_mul (by omega) (by omega) (by omega) (by omega)
    generalize (a % 9999999833 + 401) * (7 * t + 19) = k1 at v3 b1 b2
    have s3 : cAsg (.nm 4) (cBin gMul (cBin gAdd (cBin gMod (cBin gIx (cVar 0) (cC (.int 0))) (cC (.int 9999999833))) (cC (.int 401))) (cBin gAdd (cBin gMul (cC (.int 7)) (cVar 3)) (cC (.int 19)))) [some (pl a b t), some (nt m), none, some (.int t), none] = .nx [some (pl a b t), some (nt m), none, some (.int t), some (.int k1)] := asg_ok (i := 4) v3
    have f3 : ∀ k, cVar 3 [some (pl a b t), some (nt m), none, some (.int t), some (.int k)] = .ok (.val (.int t)) [some (pl a b t), some (nt m), none, some (.int t), some (.int k)] := fun _ => rfl
    have f4 : ∀ k, cVar 4 [some (pl a b t), some (nt m), none, some (.int t), some (.int k)] = .ok (.val (.int k)) [some (pl a b t), some (nt m), none, some (.int t), some (.int k)] := fun _ => rfl
    have v4 := add_ok (f4 k1) (mul_ok (mul_ok (cc 3001 _) (f3 k1) (mulOk_l (by decide))) (f3 k1) (mulOk_r (by omega)))
    have b3 : 0 ≤ 3001 * t * t := Int.mul_nonneg (by omega) (by omega)
    have b4 : 3001 * t * t ≤ 3001000000 * 1000000 := Int.mul_le_mul (by omega) (by omega) (by omega) (by omega)
    generalize 3001 * t * t = k2 at v4 b3 b4
    have s4 : cAsg (.nm 4) (cBin gAdd (cVar 4) (cBin gMul (cBin gMul (cC (.int 3001)) (cVar 3)) (cVar 3))) [some (pl a b t), some (nt m), none, some (.int t), some (.int k1)] = .nx [some (pl a b t), some (nt m), none, some (.int t), some (.int (k1 + k2))] := asg_ok (i := 4) v4
    have v5 := mod_ok (mul_ok (f4 (k1 + k2)) (f4 (k1 + k2)) (mulOk_l (by omega))) (cc 99999999829 _) (by decide)
    generalize (k1 + k2) * (k1 + k2) = k3 at v5
    have b5 := Int.emod_nonneg k3 (show (99999999829 : Int) ≠ 0 by decide)
    have b6 := Int.emod_lt_of_pos k3 (show (0 : Int) < 99999999829 by decide)
    generalize k3 % 99999999829 = k4 at v5 b5 b6
    have s5 : cAsg (.nm 4) (cBin gMod (cBin gMul (cVar 4) (cVar 4)) (cC (.int 99999999829))) [some (pl a b t), some (nt m), none, some (.int t), some (.int (k1 + k2))] = .nx [some (pl a b t), some (nt m), none, some (.int t), some (.int k4)] := asg_ok (i := 4) v5
    have v6 := mod_ok (div_ok (mod_ok (mul_ok (f4 k4) (add_ok (f4 k4) (cc 11 _)) (mulOk_l (by omega))) (cc 99999999821 _) (by decide)) (cc 53 _) (by decide) (by decide)) (cvar_at (i := 1) (d := nt m) rfl rfl) (by omega)
    obtain ⟨q, eq, hq⟩ := emod_nt (k4 * (k4 + 11) % 99999999821 / 53) m hm
    rw [eq] at v6
    refine ⟨q, pl a b t, ?_, hq, a, b, t, rfl, by omega, by omega⟩
    have fin : f__law_take [some (pl a b c), some (nt m), none, none, none] = .rt (.val (nt q)) [some (pl a b t), some (nt m), none, some (.int t), some (.int k4)] := (seq_nx (ifs_not i1 rfl)).trans ((seq_nx s1).trans ((seq_nx s2).trans ((seq_nx s3).trans ((seq_nx s4).trans ((seq_nx s5).trans (ret_ok v6))))))
    show (match f__law_take [some (pl a b c), some (nt m), none, none, none] with | .rt (.val d) r => (match r[0]? with | some (some d0') => MO.ok d d0' | _ => .bad) | .rt (.loc i) r => _ | .nx r => _ | _ => _) = _
    rw [fin]
    rfl
theorem takeQ {r r1 : Rho} {i : Nat} {d : D} {n m : Nat} {fa : Ev} (h : r1[i]? = some (some d)) (hp : Pool d n) (hn : n < 999999) (ha : fa r = .ok (.val (nt m)) r1) (hx : cVar i r = .ok (.loc i) r) (hm : 0 < m) (hm2 : m < 1000000) : ∃ (v : Nat) (d' : D), cCallQ 0 1 F__law_take (cCons (cVar i) (cCons (cSet fa) cNil)) r = .ok (.val (nt v)) (r1.set i (some d')) ∧ v < m ∧ Pool d' (n + 1) := by
  obtain ⟨v, d', e, h1, h2⟩ := take_ok hp hn m hm hm2
  exact ⟨v, d', callQ_loc (xs := [.loc i, .val (nt m)]) (rest := [.val (nt m)]) (ds1 := []) (ds2 := [nt m]) (cons_ok hx (cons_ok (set_val ha) (nil_ok _))) rfl rfl rfl rfl h e, h1, h2⟩
theorem Pool.var {r : Rho} {i : Nat} {d : D} {n : Nat} (hp : Pool d n) (h : r[i]? = some (some d)) : cVar i r = .ok (.loc i) r := by
  obtain ⟨a, b, c, e, _, _⟩ := hp
  subst e
  exact cvar_loc h rfl
theorem pool_ok (ns : List Int) (k : Nat) : ∃ d, F__law_pool [script ns, nt k] = .ok d ∧ Pool d (7 * k) ∧ noL d = true := by
  have s1 : cAsg (.nm 2) (cC (.int 0)) (startR 3 [script ns, nt k]) = .nx [some (script ns), some (nt k), some (.int 0)] := rfl
  have le := len_at (r := [some (script ns), some (nt k), some (.int 0)]) (i := 0) (k := .rd) (o := false) (xs := ns.map .int) rfl (.inr (.inl rfl))
  rw [List.length_map] at le
  have c := lt_nt (cvar_at (r := [some (script ns), some (nt k), some (.int 0)]) (i := 1) (d := nt k) rfl rfl) le
  obtain ⟨v, s2⟩ : ∃ v, cIfS (cBin gLt (cVar 1) (cB (b1 lenD) (cCons (cVar 0) cNil))) (cAsg (.nm 2) (cBin gIx (cVar 0) (cVar 1))) cSkip [some (script ns), some (nt k), some (.int 0)] = .nx [some (script ns), some (nt k), some (.int v)] := by
    by_cases h : k < ns.length
    · rw [decide_eq_true h] at c
      exact ⟨_, ifs_yes c (asg_ok (i := 2) (rd_at rfl (cvar_at rfl rfl) h))⟩
    · rw [decide_eq_false h] at c
      exact ⟨_, ifs_not c rfl⟩
  have ev : cVar 2 [some (script ns), some (nt k), some (.int v)] = .ok (.val (.int v)) [some (script ns), some (nt k), some (.int v)] := rfl
  have ek : cVar 1 [some (script ns), some (nt k), some (.int v)] = .ok (.val (.int (k : Int))) [some (script ns), some (nt k), some (.int v)] := rfl
  have l := lst_ok (ds := [.int (v / 2), .int (v % 2), .int (7 * (k : Int))]) (cons_ok (set_val (div_ok ev (cc 2 _) (by decide) (by decide))) (cons_ok (set_val (mod_ok ev (cc 2 _) (by decide))) (cons_ok (set_val (mul_ok (cc 7 _) ek (mulOk_l (by decide)))) (nil_ok _)))) rfl (by simp)
  exact ⟨_, runF_ok ((seq_nx s1).trans ((seq_nx s2).trans (ret_ok l))) rfl, ⟨_, _, _, rfl, by omega, by omega⟩, rfl⟩
theorem runQ_ok {q n : Nat} {f : Sv} {d0 d d0' : D} {ds : List D} {r : Rho} (h : f (startR n (putQ q d0 ds)) = .rt (.val d) r) (h2 : r[q]? = some (some d0')) : runQ q n f d0 ds = .ok d d0' := by
  unfold runQ
  rw [h]
  show (match r[q]? with | some (some d0') => MO.ok d d0' | _ => .bad) = _
  rw [h2]
theorem runQ_loc {q n i : Nat} {f : Sv} {d0 d d0' : D} {ds : List D} {r : Rho} (h : f (startR n (putQ q d0 ds)) = .rt (.loc i) r) (hi : i ≠ q) (h1 : r[i]? = some (some d)) (h2 : r[q]? = some (some d0')) : runQ q n f d0 ds = .ok d d0' := by
  unfold runQ
  rw [h]
  show (if i = q then MO.bad else (match opd r (.loc i), r[q]? with | some d, some (some d0') => MO.ok d d0' | _, _ => .bad)) = _
  rw [if_neg hi, opd_loc' h1, h2]
theorem mul_nt {fa fb : Ev} {r r1 r2 : Rho} {i j : Nat} (h1 : fa r = .ok (.val (nt i)) r1) (h2 : fb r1 = .ok (.val (nt j)) r2) (hi : i < 1000000) : cBin gMul fa fb r = .ok (.val (nt (i * j))) r2 := by
  have e := mul_ok h1 h2 (mulOk_l (by omega))
  rw [← Int.natCast_mul] at e
  exact e
theorem pickn {fa fk : Ev} {r r1 : Rho} {xs : List Nat} {k : Nat} (h : fa r = .ok (.val (L true xs)) r) (hk : fk r = .ok (.val (nt k)) r1) (hl : k < xs.length) : cBin gIx fa fk r = .ok (.val (nt xs[k])) r1 := by
  have h' : fa r = .ok (.val (.node .lst true ((xs.map fun x => ((x : Nat) : Int)).map .int))) r := by
    rw [h, L, List.map_map]; rfl
  have e := ixd_ok (n := k) h' hk (by simpa using hl)
  rw [e]
  simp
theorem sl_in {r : Rho} {i : Nat} {o : Bool} {xs : List Int} {m n : Nat} {fl fh : Ev} (h : r[i]? = some (some (I o xs))) (h1 : fl r = .ok (.val (nt m)) r) (h2 : fh r = .ok (.val (nt n)) r) : cSl (cVar i) (some fl) (some fh) r = .ok (.val (I true ((xs.drop m).take (n - m)))) r := by
  have e := sl_ok (fa := cVar i) (r := r) (lo := some fl) (hi := some fh) (l := some ((m : Nat) : Int)) (h := some ((n : Nat) : Int)) (k := .lst) (o := o) (xs := xs.map .int) (.inl rfl) (cvar_loc h rfl) (opd_loc' h) (frzs_ints _) (touch_fz h (frzs_ints _)) (fun {k} => by rw [part_ok h1]) (fun {k} => by rw [part_ok h2])
  rw [cutD_some, ← List.map_drop, ← List.map_take] at e
  exact e
theorem slv_to {r r1 : Rho} {fa : Ev} {o : Bool} {xs : List Int} {m : Nat} {fh : Ev} (h : fa r = .ok (.val (I o xs)) r1) (hh : fh r1 = .ok (.val (nt m)) r1) : cSl fa none (some fh) r = .ok (.val (I true (xs.take m))) r1 := by
  have e := sl_ok (fa := fa) (r := r) (lo := none) (hi := some fh) (l := none) (h := some ((m : Nat) : Int)) (k := .lst) (o := o) (xs := xs.map .int) (.inl rfl) h rfl (frzs_ints _) rfl rfl (fun {k} => by rw [part_ok hh])
  rw [cutD_to, ← List.map_take] at e
  exact e
def mx : List Nat → Nat
  | [] => 0
  | k :: ks => ks.foldl max k
theorem mx_foldl : ∀ (ks : List Nat) (k : Nat), (ks.map fun x => ((x : Nat) : Int)).foldl max (k : Int) = ((ks.foldl max k : Nat) : Int)
  | [], _ => rfl
  | x :: ks, k => by
    show (ks.map fun x => ((x : Nat) : Int)).foldl max (max (k : Int) (x : Int)) = _
    rw [show max (k : Int) (x : Int) = ((max k x : Nat) : Int) by omega, mx_foldl ks (max k x)]
    rfl
theorem mx_ge : ∀ (ks : List Nat) (k : Nat), k ≤ ks.foldl max k ∧ ∀ x ∈ ks, x ≤ ks.foldl max k
  | [], k => ⟨Nat.le_refl k, fun x hx => by cases hx⟩
  | y :: ks, k => by
    obtain ⟨h1, h2⟩ := mx_ge ks (max k y)
    refine ⟨Nat.le_trans (Nat.le_max_left k y) h1, fun x hx => ?_⟩
    rcases List.mem_cons.mp hx with e | hx
    · rw [e]; exact Nat.le_trans (Nat.le_max_right k y) h1
    · exact h2 x hx
theorem le_mx {ks : List Nat} {x : Nat} (h : x ∈ ks) : x ≤ mx ks := by
  cases ks with
  | nil => cases h
  | cons k ks =>
    rcases List.mem_cons.mp h with e | h
    · rw [e]; exact (mx_ge ks k).1
    · exact (mx_ge ks k).2 x h
theorem mx_le : ∀ {ks : List Nat} {b : Nat}, (∀ x ∈ ks, x ≤ b) → mx ks ≤ b
  | [], _, _ => Nat.zero_le _
  | k :: ks, b, h => by
    have go : ∀ (ks : List Nat) (k : Nat), k ≤ b → (∀ x ∈ ks, x ≤ b) → ks.foldl max k ≤ b := by
      intro ks
      induction ks with
      | nil => exact fun k h _ => h
      | cons y ks ih => exact fun k h1 h2 => ih (max k y) (Nat.max_le.mpr ⟨h1, h2 y List.mem_cons_self⟩) (fun x hx => h2 x (List.mem_cons_of_mem _ hx))
    exact go ks k (h k List.mem_cons_self) (fun x hx => h x (List.mem_cons_of_mem _ hx))
theorem max_ok {fa : Ev} {r r1 : Rho} {ks : List Nat} (h : fa r = .ok (.val (L true ks)) r1) (hk : ks ≠ []) : cB (b1 maxD) (cCons fa cNil) r = .ok (.val (nt (mx ks))) r1 := by
  refine b1_ok h rfl ?_ rfl
  show ((intsOf (ks.map nt)).bind fun ns => (maxL ns).map D.int) = _
  have e : ks.map nt = (ks.map fun x => ((x : Nat) : Int)).map D.int := by rw [List.map_map]; rfl
  rw [e, intsOf_map]
  cases ks with
  | nil => exact absurd rfl hk
  | cons k ks =>
    show some (D.int ((ks.map fun x => ((x : Nat) : Int)).foldl max (k : Int))) = _
    rw [mx_foldl]
    rfl
theorem it_rng3 {fa fb : Ev} {r : Rho} {n c : Nat} (ha : fa r = .ok (.val (.int 0)) r) (hb : fb r = .ok (.val (nt n)) r) (hn : n ≤ 1000000) (hc : 1 ≤ c) (hc2 : c ≤ 1000) : iRng rngI3 (cCons fa (cCons fb (cCons (cC (nt c)) cNil))) r = .ok ((List.range ((n + c - 1) / c)).map fun k => nt (c * k)) r := by
  rw [q_iRng, cons_ok ha (cons_ok hb (cons_ok (show cC (nt c) r = .ok (.val (nt c)) r from rfl) (nil_ok _)))]
  show (if (decide ((c : Int) ≠ 0) && decide ((c : Int).natAbs < 1073741824) && Builtin.Range.small 0 n c) = true then IO.ok (rngD 0 c (turns 0 n c)) r else .bad) = _
  have hs : Builtin.Range.rangeSize 0 n c = (((n + c - 1) / c : Nat) : Int) := by
    unfold Builtin.Range.rangeSize
    rw [if_pos (by omega)]
    by_cases h : n = 0
    · subst h
      rw [if_neg (by decide), show (0 + c - 1) / c = 0 from Nat.div_eq_of_lt (by omega)]
      rfl
    · rw [if_pos (by omega)]
      have e : (n + c - 1) / c = (n - 1) / c + 1 := by rw [show n + c - 1 = n - 1 + c by omega, Nat.add_div_right _ (by omega)]
      rw [e, show ((n : Int) - 0 - 1) = ((n - 1 : Nat) : Int) by omega]
      rfl
  have hle : (n + c - 1) / c ≤ n := by
    rw [Nat.div_le_iff_le_mul_add_pred (by omega)]
    have : n ≤ c * n := Nat.le_mul_of_pos_left n (by omega)
    omega
  have hsm : Builtin.Range.small 0 n c = true := by
    unfold Builtin.Range.small
    rw [hs]
    have f : ∀ z : Int, 0 ≤ z → z < 2000000 → Builtin.Range.rangeFitsLong z = true := fun z h1 h2 => by
      unfold Builtin.Range.rangeFitsLong
      simp
      omega
    rw [f 0 (by decide) (by decide), f n (by omega) (by omega), f c (by omega) (by omega), f _ (Int.natCast_nonneg _) (by omega), if_pos (show (c : Int) > 0 by omega), f ((n : Int) + ((c : Int) - 1)) (by omega) (by omega)]
    simp
  have ht : turns 0 n c = (n + c - 1) / c := by unfold turns; rw [hs, Int.toNat_natCast]
  have hr : rngD 0 c ((n + c - 1) / c) = (List.range ((n + c - 1) / c)).map fun k => nt (c * k) := by
    unfold rngD
    refine List.map_congr_left fun k _ => ?_
    show D.int (0 + (k : Int) * (c : Int)) = D.int ((c * k : Nat) : Int)
    rw [Int.zero_add, Int.natCast_mul, Int.mul_comm]
  have hg : (decide ((c : Int) ≠ 0) && decide ((c : Int).natAbs < 1073741824) && Builtin.Range.small 0 n c) = true := by
    rw [hsm, Bool.and_true, Bool.and_eq_true, decide_eq_true_eq, decide_eq_true_eq]
    omega
  rw [if_pos hg, ht, hr]
theorem it_fz {r : Rho} {i : Nat} {o : Bool} {ds : List D} (h : r[i]? = some (some (.node .lst o ds))) : iLst (cVar i) r = .ok (frzs ds) (r.set i (some (.node .lst false (frzs ds)))) := by
  have e : cSet (cVar i) r = .ok (.val (.node .lst false (frzs ds))) (r.set i (some (.node .lst false (frzs ds)))) := by
    rw [q_set, cvar_loc h rfl, bd_ok]
    show (match opd r (.loc i) with | some d => EO.ok (.val (frz d)) (settle r (.loc i)) | none => .bad) = _
    rw [opd_loc' h, q_settle2, h]
    rfl
  show (match cSet (cVar i) r with | .ok (.val (.node .lst _ ds)) r1 => IO.ok ds r1 | .ok (.val (.node .rd _ ds)) r1 => .ok ds r1 | .exc c r1 => .exc c r1 | _ => .bad) = _
  rw [e]
theorem forL_look {v : Nat} {f : Sv} {r0 : Rho} : ∀ (ds : List D), (∀ d ∈ ds, f (r0.set v (some d)) = .nx (r0.set v (some d))) → ∀ x : Option D, ∃ y, forL (.nm v) f ds (r0.set v x) = .nx (r0.set v y)
  | [], _, x => ⟨x, rfl⟩
  | d :: ds, h, x => by
    obtain ⟨y, e⟩ := forL_look ds (fun e he => h e (List.mem_cons_of_mem _ he)) (some d)
    refine ⟨y, (forL_cons (r1 := r0.set v (some d)) ?_ (h d List.mem_cons_self)).trans e⟩
    show some ((r0.set v x).set v (some d)) = _
    rw [List.set_set]
theorem runF_nx {n : Nat} {f : Sv} {ds : List D} {r : Rho} (h : f (startR n ds) = .nx r) : runF n f ds = .ok .non := by
  unfold runF
  rw [h]
def Bits (bs : List Int) : Prop := ∀ x ∈ bs, x = 0 ∨ x = 1
noncomputable abbrev TK : Ev := cCallQ 0 1 F__law_take (cCons (cVar 0) (cCons (cSet (cC (.int 2))) cNil))
theorem bits_loop (x1 x2 x3 : Option D) : ∀ (ds : List D) (acc : List Int) (d : D) (n : Nat), Pool d n → n + ds.length < 999999 → acc.length + ds.length < 16777216 → Bits acc → ∃ bs d', lcL (.nm 4) none TK [4] ds (acc.map .int) [some d, x1, x2, x3, none] = .ok (bs.map .int) [some d', x1, x2, x3, none] ∧ Pool d' (n + ds.length) ∧ Bits bs ∧ bs.length = acc.length + ds.length
  | [], acc, d, n, hp, _, _, hb => ⟨acc, d, rfl, hp, hb, rfl⟩
  | e :: ds, acc, d, n, hp, hn, hl, hb => by
    simp only [List.length_cons] at hn hl
    obtain ⟨v, d1, e1, hv, hp1⟩ := takeQ (r := [some d, x1, x2, x3, some e]) (r1 := [some d, x1, x2, x3, some e]) (i := 0) (fa := cC (.int 2)) (m := 2) rfl hp (by omega) rfl (hp.var rfl) (by decide) (by decide)
    have hb2 : Bits (acc ++ [(v : Int)]) := fun x hx => by
      rcases List.mem_append.mp hx with hx | hx
      · exact hb x hx
      · rw [List.mem_singleton.mp hx]; omega
    obtain ⟨bs, d', e2, hp2, h3, h4⟩ := bits_loop x1 x2 x3 ds (acc ++ [(v : Int)]) d1 (n + 1) hp1 (by omega) (by rw [List.length_append, List.length_singleton]; omega) hb2
    refine ⟨bs, d', ?_, by rw [List.length_cons, show n + (ds.length + 1) = n + 1 + ds.length by omega]; exact hp2, h3, by rw [h4, List.length_append, List.length_singleton, List.length_cons]; omega⟩
    have e3 : cSet TK [some d, x1, x2, x3, some e] = .ok (.val (nt v)) [some d1, x1, x2, x3, some e] := set_val e1
    show (match (some [some d, x1, x2, x3, some e] : Option Rho) with | some r2 => (match cSet TK r2 with | .ok (.val z) r3 => if (acc.map D.int).length < 16777216 then lcL (.nm 4) none TK [4] ds (acc.map D.int ++ [z]) (wipeR r3 [4]) else .bad | _ => LO.bad) | none => .bad) = _
    show (match cSet TK [some d, x1, x2, x3, some e] with | .ok (.val z) r3 => if (acc.map D.int).length < 16777216 then lcL (.nm 4) none TK [4] ds (acc.map D.int ++ [z]) (wipeR r3 [4]) else .bad | _ => LO.bad) = _
    rw [e3]
    show (if (acc.map D.int).length < 16777216 then lcL (.nm 4) none TK [4] ds (acc.map D.int ++ [nt v]) [some d1, x1, x2, x3, none] else .bad) = _
    rw [if_pos (by rw [List.length_map]; omega), show acc.map D.int ++ [nt v] = (acc ++ [(v : Int)]).map D.int by rw [List.map_append]; rfl]
    exact e2
theorem rep_bits (n : Nat) (b : Int) (h : b = 0 ∨ b = 1) : Bits (List.replicate n [b]).flatten := fun x hx => by
  simp at hx
  rw [hx.2]; exact h
theorem rep_len (n : Nat) (b : Int) : (List.replicate n [b]).flatten.length = n := by simp
theorem bits_ok {d : D} {n : Nat} (hp : Pool d n) (hn : n ≤ 400000) : ∃ bs d', F__law_bits d [] = .ok (I true bs) d' ∧ Bits bs ∧ bs.length < 300 := by
  obtain ⟨v1, d1, t1, h1, p1⟩ := takeQ (r := [some d, none, none, none, none]) (i := 0) (fa := cC (.int 9)) (m := 9) rfl hp (by omega) rfl (hp.var rfl) (by decide) (by decide)
  obtain ⟨v2, d2, t2, h2, p2⟩ := takeQ (r := [some d1, none, none, none, none]) (i := 0) (fa := cC (.int 40)) (m := 40) rfl p1 (by omega) rfl (p1.var rfl) (by decide) (by decide)
  obtain ⟨v3, d3, t3, h3, p3⟩ := takeQ (r := [some d2, none, none, none, none]) (i := 0) (fa := cC (.int 300)) (m := 300) rfl p2 (by omega) rfl (p2.var rfl) (by decide) (by decide)
  have s1 := asg_ok (i := 1) (lst_ok (ds := [nt v1, nt v2, nt v3]) (cons_ok (set_val t1) (cons_ok (set_val t2) (cons_ok (set_val t3) (nil_ok _)))) rfl (by simp))
  have s1 : cAsg (.nm 1) (cLst (cCons (cSet (cCallQ 0 1 F__law_take (cCons (cVar 0) (cCons (cSet (cC (.int 9))) cNil)))) (cCons (cSet (cCallQ 0 1 F__law_take (cCons (cVar 0) (cCons (cSet (cC (.int 40))) cNil)))) (cCons (cSet (cCallQ 0 1 F__law_take (cCons (cVar 0) (cCons (cSet (cC (.int 300))) cNil)))) cNil)))) [some d, none, none, none, none] = .nx [some d3, some (L true [v1, v2, v3]), none, none, none] := s1
  obtain ⟨v4, d4, t4, h4, p4⟩ := takeQ (r := [some d3, some (L true [v1, v2, v3]), none, none, none]) (i := 0) (fa := cC (.int 8)) (m := 8) rfl p3 (by omega) rfl (p3.var rfl) (by decide) (by decide)
  have q4 := pickn (fa := cLst (cCons (cSet (cC (.int 0))) (cCons (cSet (cC (.int 0))) (cCons (cSet (cC (.int 1))) (cCons (cSet (cC (.int 1))) (cCons (cSet (cC (.int 1))) (cCons (cSet (cC (.int 2))) (cCons (cSet (cC (.int 0))) (cCons (cSet (cC (.int 1))) cNil))))))))) (xs := [0, 0, 1, 1, 1, 2, 0, 1]) rfl t4 (by simpa using h4)
  have b4 : ∀ j (hj : j < [0, 0, 1, 1, 1, 2, 0, 1].length), [0, 0, 1, 1, 1, 2, 0, 1][j] < 3 := by decide
  have b4 := b4 v4 (by simpa using h4)
  generalize [0, 0, 1, 1, 1, 2, 0, 1][v4]'(by simpa using h4) = j at q4 b4
  obtain ⟨lg, hlg, q5⟩ : ∃ lg, lg < 300 ∧ cBin gIx (cVar 1) (cBin gIx (cLst (cCons (cSet (cC (.int 0))) (cCons (cSet (cC (.int 0))) (cCons (cSet (cC (.int 1))) (cCons (cSet (cC (.int 1))) (cCons (cSet (cC (.int 1))) (cCons (cSet (cC (.int 2))) (cCons (cSet (cC (.int 0))) (cCons (cSet (cC (.int 1))) cNil))))))))) (cCallQ 0 1 F__law_take (cCons (cVar 0) (cCons (cSet (cC (.int 8))) cNil)))) [some d3, some (L true [v1, v2, v3]), none, none, none] = .ok (.val (nt lg)) [some d4, some (L true [v1, v2, v3]), none, none, none] := by
    have cv : cVar 1 [some d3, some (L true [v1, v2, v3]), none, none, none] = .ok (.loc 1) [some d3, some (L true [v1, v2, v3]), none, none, none] := cvar_loc rfl rfl
    match j, b4 with
    | 0, _ => exact ⟨v1, by omega, bin_ok cv q4 rfl⟩
    | 1, _ => exact ⟨v2, by omega, bin_ok cv q4 rfl⟩
    | 2, _ => exact ⟨v3, by omega, bin_ok cv q4 rfl⟩
  have s2 := asg_ok (i := 2) q5
  obtain ⟨v6, d6, t6, h6, p6⟩ := takeQ (r := [some d4, some (L true [v1, v2, v3]), some (nt lg), none, none]) (i := 0) (fa := cC (.int 4)) (m := 4) rfl p4 (by omega) rfl (p4.var rfl) (by decide) (by decide)
  have s3 := asg_ok (i := 3) t6
  have k6 : cVar 3 [some d6, some (L true [v1, v2, v3]), some (nt lg), some (nt v6), none] = .ok (.val (nt v6)) [some d6, some (L true [v1, v2, v3]), some (nt lg), some (nt v6), none] := rfl
  have g0 := eq_ok k6 (cc 0 _)
  have g1 := eq_ok k6 (cc 1 _)
  have mulb : ∀ b : Int, cBin gMul (cLst (cCons (cSet (cC (.int b))) cNil)) (cVar 2) [some d6, some (L true [v1, v2, v3]), some (nt lg), some (nt v6), none] = .ok (.val (I true (List.replicate lg [b]).flatten)) [some d6, some (L true [v1, v2, v3]), some (nt lg), some (nt v6), none] := fun b => by
    refine bin_ok (show cLst (cCons (cSet (cC (.int b))) cNil) _ = .ok (.val (I true [b])) _ from rfl) (cvar_at (i := 2) (d := nt lg) rfl rfl) ?_
    have e := q_mulLI (r := [some d6, some (L true [v1, v2, v3]), some (nt lg), some (nt v6), none]) (o := true) [b] (k := (lg : Int)) ⟨by omega, by omega, by simp; omega⟩
    rw [Int.toNat_natCast] at e
    exact e
  have start : ∀ {o : SO}, f__law_bits [some d, none, none, none, none] = o → f__law_bits (startR 5 (putQ 0 d [])) = o := fun h => h
  by_cases z0 : v6 = 0
  · rw [decide_eq_true (by omega)] at g0
    exact ⟨_, d6, runQ_ok (start ((seq_nx s1).trans ((seq_nx s2).trans ((seq_nx s3).trans (seq_rt (ifs_yes g0 (ret_ok (mulb 0)))))))) rfl, rep_bits _ _ (.inl rfl), by rw [rep_len]; exact hlg⟩
  rw [decide_eq_false (by omega)] at g0
  by_cases z1 : v6 = 1
  · rw [decide_eq_true (by omega)] at g1
    exact ⟨_, d6, runQ_ok (start ((seq_nx s1).trans ((seq_nx s2).trans ((seq_nx s3).trans ((seq_nx (guard_no g0)).trans (seq_rt (ifs_yes g1 (ret_ok (mulb 1))))))))) rfl, rep_bits _ _ (.inr rfl), by rw [rep_len]; exact hlg⟩
  rw [decide_eq_false (by omega)] at g1
  obtain ⟨bs, d7, e7, p7, hb, hl⟩ := bits_loop (some (L true [v1, v2, v3])) (some (nt lg)) (some (nt v6)) ((List.range lg).map nt) [] d6 (n + 1 + 1 + 1 + 1 + 1) p6 (by simp; omega) (by simp; omega) (fun x hx => by cases hx)
  have it := it_rng (fa := cVar 2) (r := [some d6, some (L true [v1, v2, v3]), some (nt lg), some (nt v6), none]) (n := lg) rfl (by omega)
  have lc : cLc [4] (.nm 4) (iRng rngI1 (cCons (cVar 2) cNil)) none TK [some d6, some (L true [v1, v2, v3]), some (nt lg), some (nt v6), none] = .ok (.val (I true bs)) [some d7, some (L true [v1, v2, v3]), some (nt lg), some (nt v6), none] := by
    rw [q_lc, it]
    show (match lcL (.nm 4) none TK [4] ((List.range lg).map nt) (([] : List Int).map D.int) [some d6, some (L true [v1, v2, v3]), some (nt lg), some (nt v6), none] with | .ok acc r2 => EO.ok (.val (.node .lst true acc)) (backR [some d6, some (L true [v1, v2, v3]), some (nt lg), some (nt v6), none] r2 [4]) | .bad => .bad) = _
    rw [e7]
    rfl
  refine ⟨bs, d7, runQ_ok (start ((seq_nx s1).trans ((seq_nx s2).trans ((seq_nx s3).trans ((seq_nx (guard_no g0)).trans ((seq_nx (guard_no g1)).trans (ret_ok lc))))))) rfl, hb, ?_⟩
  rw [hl]; simp; omega
abbrev Blk := Int × List Int
abbrev enB (o : Bool) (b : Blk) : D := .node .tup false [.int b.1, I o b.2]
abbrev Bl (o o' : Bool) (bl : List Blk) : D := .node .lst o (bl.map (enB o'))
structure GoodB (b : Blk) : Prop where
  lo : 0 ≤ b.1
  hi : b.1 ≤ 255
  bits : Bits b.2
  len : b.2.length < 700
def GoodBs (bl : List Blk) : Prop := ∀ b ∈ bl, GoodB b
theorem frz_enB (o : Bool) (b : Blk) : frz (enB o b) = enB false b := by
  show D.node .tup false [.int b.1, frz (I o b.2)] = _
  rw [frz_I]
theorem frzs_enB (o : Bool) (bl : List Blk) : frzs (bl.map (enB o)) = bl.map (enB false) := by
  rw [frzs_map, List.map_map]
  exact List.map_congr_left fun b _ => frz_enB o b
noncomputable abbrev Wc (ns : List Int) (d : D) (sz mo bo mn tt : Nat) (bl : List Blk) (k sm wy : Option D) : Rho := [some (script ns), some d, some (nt sz), some (nt mo), some (nt bo), some (nt mn), some (nt tt), some (Bl true true bl), k, sm, wy]
noncomputable abbrev sW : Sv := (cAsg (.nm 10) (cBin gIx (cLst (cCons (cSet (cCallQ 0 1 F__law_take (cCons (cVar 9) (cCons (cSet (cC (.int 6))) cNil)))) (cCons (cSet (cCallQ 0 1 F__law_take (cCons (cVar 9) (cCons (cSet (cC (.int 256))) cNil)))) (cCons (cSet (cC (.int 255))) cNil)))) (cBin gIx (cLst (cCons (cSet (cC (.int 0))) (cCons (cSet (cC (.int 0))) (cCons (cSet (cC (.int 1))) (cCons (cSet (cC (.int 2))) cNil))))) (cCallQ 0 1 F__law_take (cCons (cVar 9) (cCons (cSet (cC (.int 4))) cNil))))))
noncomputable abbrev bodyC : Sv := (cSeq (cAsg (.nm 9) (cCall 2 F__law_pool (cCons (cVar 0) (cCons (cBin gAdd (cC (.int 2)) (cVar 8)) cNil))))
  (cSeq sW (cExpr (cApp 7 (cTup (cCons (cSet (cVar 10)) (cCons (cSet (cCallQ 0 0 F__law_bits (cCons (cVar 9) cNil))) cNil)))))))
theorem cont_step (ns : List Int) (d : D) (sz mo bo mn tt : Nat) (bl : List Blk) (hl : bl.length < 1000) (k : Nat) (hk : k < 1000) (sm wy : Option D) : ∃ b sm' wy', GoodB b ∧ bodyC (Wc ns d sz mo bo mn tt bl (some (nt k)) sm wy) = .nx (Wc ns d sz mo bo mn tt (bl ++ [b]) (some (nt k)) sm' wy') := by
  obtain ⟨p, ep, hp, nl⟩ := pool_ok ns (2 + k)
  have c1 := call2 (F := F__law_pool) (cvar_loc (r := Wc ns d sz mo bo mn tt bl (some (nt k)) sm wy) (i := 0) (d := script ns) rfl rfl) (add_nt (cc 2 _) (cvar_at (i := 8) (d := nt k) rfl rfl) (i := 2)) rfl rfl (by rw [frz_script]; exact ep) nl
  have s1 : cAsg (.nm 9) (cCall 2 F__law_pool (cCons (cVar 0) (cCons (cBin gAdd (cC (.int 2)) (cVar 8)) cNil))) (Wc ns d sz mo bo mn tt bl (some (nt k)) sm wy) = .nx (Wc ns d sz mo bo mn tt bl (some (nt k)) (some p) wy) := asg_ok (i := 9) c1
  obtain ⟨v1, d1, t1, h1, p1⟩ := takeQ (r := Wc ns d sz mo bo mn tt bl (some (nt k)) (some p) wy) (i := 9) (fa := cC (.int 6)) (m := 6) rfl hp (by omega) rfl (hp.var rfl) (by decide) (by decide)
  obtain ⟨v2, d2, t2, h2, p2⟩ := takeQ (r := Wc ns d sz mo bo mn tt bl (some (nt k)) (some d1) wy) (i := 9) (fa := cC (.int 256)) (m := 256) rfl p1 (by omega) rfl (p1.var rfl) (by decide) (by decide)
  have l3 := lst_ok (ds := [nt v1, nt v2, nt 255]) (cons_ok (set_val t1) (cons_ok (set_val t2) (cons_ok (set_val (cc 255 _)) (nil_ok _)))) rfl (by simp)
  obtain ⟨v4, d4, t4, h4, p4⟩ := takeQ (r := Wc ns d sz mo bo mn tt bl (some (nt k)) (some d2) wy) (i := 9) (fa := cC (.int 4)) (m := 4) rfl p2 (by omega) rfl (p2.var rfl) (by decide) (by decide)
  have q4 := pickn (fa := cLst (cCons (cSet (cC (.int 0))) (cCons (cSet (cC (.int 0))) (cCons (cSet (cC (.int 1))) (cCons (cSet (cC (.int 2))) cNil))))) (xs := [0, 0, 1, 2]) rfl t4 (by simpa using h4)
  have b4 : ∀ j (hj : j < [0, 0, 1, 2].length), [0, 0, 1, 2][j] < 3 := by decide
  have b4 := b4 v4 (by simpa using h4)
  generalize [0, 0, 1, 2][v4]'(by simpa using h4) = j at q4 b4
  obtain ⟨w, hw, s2⟩ : ∃ w : Nat, w ≤ 255 ∧ sW (Wc ns d sz mo bo mn tt bl (some (nt k)) (some p) wy) = .nx (Wc ns d sz mo bo mn tt bl (some (nt k)) (some d4) (some (nt w))) := by
    have st : ∀ w : Nat, gIx (.val (.node .lst true [nt v1, nt v2, nt 255])) (.val (nt j)) (Wc ns d sz mo bo mn tt bl (some (nt k)) (some d4) wy) = .ok (.val (nt w)) (Wc ns d sz mo bo mn tt bl (some (nt k)) (some d4) wy) → sW (Wc ns d sz mo bo mn tt bl (some (nt k)) (some p) wy) = .nx (Wc ns d sz mo bo mn tt bl (some (nt k)) (some d4) (some (nt w))) := fun w h => by
      have e := bin_ok l3 q4 h
      exact asg_ok (i := 10) e
    match j, b4 with
    | 0, _ => exact ⟨v1, by omega, st v1 rfl⟩
    | 1, _ => exact ⟨v2, by omega, st v2 rfl⟩
    | 2, _ => exact ⟨255, by omega, st 255 rfl⟩
  obtain ⟨bs, d5, eb, hb, hbl⟩ := bits_ok p4 (by omega)
  have cb := callQ_loc (q := 0) (n := 0) (F := F__law_bits) (r := Wc ns d sz mo bo mn tt bl (some (nt k)) (some d4) (some (nt w))) (i := 9) (xs := [.loc 9]) (rest := []) (ds1 := []) (ds2 := []) (cons_ok (p4.var rfl) (nil_ok _)) rfl rfl rfl rfl rfl eb
  have tp := tup_ok (ds := [nt w, I true bs]) (cons_ok (set_val (cvar_at (r := Wc ns d sz mo bo mn tt bl (some (nt k)) (some d4) (some (nt w))) (i := 10) (d := nt w) rfl rfl)) (cons_ok (set_val cb) (nil_ok _))) rfl (by simp)
  have ap := app_ok (i := 7) (ds := bl.map (enB true)) rfl tp rfl (by rw [List.length_map]; omega)
  refine ⟨((w : Int), bs), some d5, some (nt w), ⟨by show (0 : Int) ≤ (w : Int); omega, by show (w : Int) ≤ 255; omega, hb, by show bs.length < 700; omega⟩, (seq_nx s1).trans ((seq_nx s2).trans ?_)⟩
  rw [ap]
  show SO.nx [some (script ns), some d, some (nt sz), some (nt mo), some (nt bo), some (nt mn), some (nt tt), some (.node .lst true (bl.map (enB true) ++ [enB true ((w : Int), bs)])), some (nt k), some d5, some (nt w)] = SO.nx [some (script ns), some d, some (nt sz), some (nt mo), some (nt bo), some (nt mn), some (nt tt), some (.node .lst true ((bl ++ [((w : Int), bs)]).map (enB true))), some (nt k), some d5, some (nt w)]
  rw [List.map_append]
  rfl
theorem cont_loop (ns : List Int) (d : D) (sz mo bo mn tt : Nat) : ∀ (ks : List Nat) (bl : List Blk) (kk sm wy : Option D), GoodBs bl → bl.length + ks.length < 1000 → (∀ k ∈ ks, k < 1000) → ∃ bl' k' sm' wy', GoodBs bl' ∧ bl'.length = bl.length + ks.length ∧ forL (.nm 8) bodyC (ks.map nt) (Wc ns d sz mo bo mn tt bl kk sm wy) = .nx (Wc ns d sz mo bo mn tt bl' k' sm' wy')
  | [], bl, kk, sm, wy, hg, _, _ => ⟨bl, kk, sm, wy, hg, rfl, rfl⟩
  | k :: ks, bl, kk, sm, wy, hg, hl, hk => by
    simp only [List.length_cons] at hl
    obtain ⟨b, sm1, wy1, gb, e1⟩ := cont_step ns d sz mo bo mn tt bl (by omega) k (hk k List.mem_cons_self) sm wy
    obtain ⟨bl', k', sm', wy', hg', hl', e2⟩ := cont_loop ns d sz mo bo mn tt ks (bl ++ [b]) (some (nt k)) sm1 wy1 (fun x hx => by
      rcases List.mem_append.mp hx with hx | hx
      · exact hg x hx
      · rw [List.mem_singleton.mp hx]; exact gb) (by rw [List.length_append, List.length_singleton]; omega) (fun x hx => hk x (List.mem_cons_of_mem _ hx))
    rw [List.length_append, List.length_singleton] at hl'
    refine ⟨bl', k', sm', wy', hg', by rw [List.length_cons]; omega, ?_⟩
    rw [List.map_cons]
    exact (forL_cons (r1 := Wc ns d sz mo bo mn tt bl (some (nt k)) sm wy) rfl e1).trans e2
theorem ceil_div {s m t : Nat} (hs : 1 ≤ s) (hm : 1 ≤ m) (ht : t < s) : (s * (m - 1) + 1 + t + s - 1) / s = m := by
  obtain ⟨k, rfl⟩ : ∃ k, m = k + 1 := ⟨m - 1, by omega⟩
  rw [show s * (k + 1 - 1) + 1 + t + s - 1 = t + s * (k + 1) by rw [Nat.mul_add]; simp; omega, Nat.add_mul_div_left _ _ (by omega), Nat.div_eq_of_lt ht]
  omega
theorem container_ok (ns : List Int) : ∃ (sz tt : Nat) (bl : List Blk), F__law_container [script ns] = .ok (.node .tup false [nt sz, nt tt, Bl false false bl]) ∧ GoodBs bl ∧ 1 ≤ sz ∧ sz ≤ 64 ∧ tt ≤ 400 ∧ 1 ≤ bl.length ∧ bl.length ≤ 64 ∧ bl.length = (tt + sz - 1) / sz := by
  obtain ⟨p, ep, hp, nl⟩ := pool_ok ns 0
  have c1 := call2 (F := F__law_pool) (cvar_loc (r := startR 11 [script ns]) (i := 0) (d := script ns) rfl rfl) (cc 0 _) rfl rfl (by rw [frz_script]; exact ep) nl
  have s1 : cAsg (.nm 1) (cCall 2 F__law_pool (cCons (cVar 0) (cCons (cC (.int 0)) cNil))) (startR 11 [script ns]) = .nx [some (script ns), some p, none, none, none, none, none, none, none, none, none] := asg_ok (i := 1) c1
  obtain ⟨v1, d1, t1, h1, p1⟩ := takeQ (r := [some (script ns), some p, none, none, none, none, none, none, none, none, none]) (i := 1) (fa := cC (.int 64)) (m := 64) rfl hp (by omega) rfl (hp.var rfl) (by decide) (by decide)
  have s2 := asg_ok (i := 2) (add_nt (cc 1 _) t1 (i := 1))
  obtain ⟨sz, hsz⟩ : ∃ sz, 1 + v1 = sz := ⟨_, rfl⟩
  rw [hsz] at s2
  have v2 := div_ok (cc 400 _) (cvar_at (r := [some (script ns), some d1, some (nt sz), none, none, none, none, none, none, none, none]) (i := 2) (d := nt sz) rfl rfl) (by omega) (by omega)
  have v3 := min_nt (cc 64 _) v2 (i := 64) (j := 400 / sz)
  have s3 := asg_ok (i := 3) v3
  have hdz : sz * (400 / sz) ≤ 400 := Nat.mul_div_le 400 sz
  have hd1 : 1 ≤ 400 / sz := (Nat.le_div_iff_mul_le (by omega)).mpr (by omega)
  obtain ⟨mo, hmo⟩ : ∃ mo, min 64 (400 / sz) = mo := ⟨_, rfl⟩
  rw [hmo] at s3
  obtain ⟨v4, d4, t4, h4, p4⟩ := takeQ (r := [some (script ns), some d1, some (nt sz), some (nt mo), none, none, none, none, none, none, none]) (i := 1) (fa := cC (.int 8)) (m := 8) rfl p1 (by omega) rfl (p1.var rfl) (by decide) (by decide)
  have q4 := pickn (fa := cLst (cCons (cSet (cC (.int 0))) (cCons (cSet (cC (.int 0))) (cCons (cSet (cC (.int 0))) (cCons (cSet (cC (.int 1))) (cCons (cSet (cC (.int 1))) (cCons (cSet (cC (.int 1))) (cCons (cSet (cC (.int 1))) (cCons (cSet (cC (.int 2))) cNil))))))))) (xs := [0, 0, 0, 1, 1, 1, 1, 2]) rfl t4 (by simpa using h4)
  have b4 : ∀ j (hj : j < [0, 0, 0, 1, 1, 1, 1, 2].length), [0, 0, 0, 1, 1, 1, 1, 2][j] < 3 := by decide
  have b4 := b4 v4 (by simpa using h4)
  generalize [0, 0, 0, 1, 1, 1, 1, 2][v4]'(by simpa using h4) = j at q4 b4
  have q5 := pickn (fa := cLst (cCons (cSet (cC (.int 4))) (cCons (cSet (cC (.int 9))) (cCons (cSet (cC (.int 64))) cNil)))) (xs := [4, 9, 64]) rfl q4 (by simpa using b4)
  have b5 : ∀ j (hj : j < [4, 9, 64].length), 1 ≤ [4, 9, 64][j] := by decide
  have b5 := b5 j (by simpa using b4)
  generalize [4, 9, 64][j]'(by simpa using b4) = bo at q5 b5
  have s4 := asg_ok (i := 4) q5
  have mn := min_nt (cvar_at (r := [some (script ns), some d4, some (nt sz), some (nt mo), some (nt bo), none, none, none, none, none, none]) (i := 3) (d := nt mo) rfl rfl) (cvar_at (i := 4) (d := nt bo) rfl rfl)
  have hmn : 1 ≤ min mo bo ∧ min mo bo ≤ mo := by omega
  generalize min mo bo = mb at mn hmn
  obtain ⟨v6, d6, t6, h6, p6⟩ := takeQ (r := [some (script ns), some d4, some (nt sz), some (nt mo), some (nt bo), none, none, none, none, none, none]) (i := 1) (m := mb) rfl p4 (by omega) mn (p4.var rfl) (by omega) (by omega)
  have s5 := asg_ok (i := 5) (add_nt (cc 1 _) t6 (i := 1))
  obtain ⟨m, hm⟩ : ∃ m, 1 + v6 = m := ⟨_, rfl⟩
  rw [hm] at s5
  obtain ⟨v7, d7, t7, h7, p7⟩ := takeQ (r := [some (script ns), some d6, some (nt sz), some (nt mo), some (nt bo), some (nt m), none, none, none, none, none]) (i := 1) (fa := cVar 2) (m := sz) rfl p6 (by omega) rfl (p6.var rfl) (by omega) (by omega)
  have v8 := add_nt (add_nt (mul_nt (cvar_at (r := [some (script ns), some d6, some (nt sz), some (nt mo), some (nt bo), some (nt m), none, none, none, none, none]) (i := 2) (d := nt sz) rfl rfl) (sub_nt (cvar_at (i := 5) (d := nt m) rfl rfl) (cc 1 _) (j := 1) (by omega)) (by omega)) (cc 1 _) (j := 1)) t7
  have s6 := asg_ok (i := 6) v8
  have hcd := ceil_div (s := sz) (m := m) (t := v7) (by omega) (by omega) h7
  have hle : sz * (m - 1) + 1 + v7 ≤ 400 := by
    have h1 : sz * (m - 1) + sz ≤ sz * (400 / sz) := by
      have : sz * (m - 1) + sz = sz * m := by
        obtain ⟨k, hk⟩ : ∃ k, m = k + 1 := ⟨m - 1, by omega⟩
        rw [hk, Nat.mul_add]; simp
      rw [this]
      exact Nat.mul_le_mul_left sz (by omega)
    omega
  generalize sz * (m - 1) + 1 + v7 = tt at s6 hcd hle
  have s7 : cAsg (.nm 7) (cLst cNil) [some (script ns), some d7, some (nt sz), some (nt mo), some (nt bo), some (nt m), some (nt tt), none, none, none, none] = .nx (Wc ns d7 sz mo bo m tt [] none none none) := rfl
  obtain ⟨bl, k', sm', wy', hg, hl, e8⟩ := cont_loop ns d7 sz mo bo m tt (List.range m) [] none none none (fun b hb => by cases hb) (by simp; omega) (fun k hk => by rw [List.mem_range] at hk; omega)
  simp at hl
  have it := it_rng (fa := cVar 5) (r := Wc ns d7 sz mo bo m tt [] none none none) (n := m) rfl (by omega)
  have tp := tup_ok (ds := [nt sz, nt tt, frz (Bl true true bl)]) (cons_ok (set_val (cvar_at (r := Wc ns d7 sz mo bo m tt bl k' sm' wy') (i := 2) (d := nt sz) rfl rfl)) (cons_ok (set_val (cvar_at (i := 6) (d := nt tt) rfl rfl)) (cons_ok (show cSet (cVar 7) (Wc ns d7 sz mo bo m tt bl k' sm' wy') = .ok (.val (frz (Bl true true bl))) ((Wc ns d7 sz mo bo m tt bl k' sm' wy').set 7 (some (frz (Bl true true bl)))) from rfl) (nil_ok _)))) rfl (by simp)
  have fb : frz (Bl true true bl) = Bl false false bl := by
    show D.node .lst false (frzs (bl.map (enB true))) = _
    rw [frzs_enB]
  rw [fb] at tp
  refine ⟨sz, tt, bl, runF_ok ((seq_nx s1).trans ((seq_nx s2).trans ((seq_nx s3).trans ((seq_nx s4).trans ((seq_nx s5).trans ((seq_nx s6).trans ((seq_nx s7).trans ((seq_nx (for_ok it e8)).trans (ret_ok tp))))))))) rfl, hg, by omega, by omega, hle, by omega, by omega, by rw [hcd, hl]⟩
def byte (bs : List Int) (at_ : Nat) : Int := (List.range 8).foldl (fun n p => 2 * n + bs.getD (at_ + p) 0) 0
def bytes (bs : List Int) : List Int := (List.range ((bs.length + 7) / 8)).map fun k => byte bs (8 * k)
def rowOf (b : Blk) : List Int := [b.1, ((b.2.length / 256 : Nat) : Int), ((b.2.length % 256 : Nat) : Int)] ++ bytes b.2
theorem rowOf_len (b : Blk) (h : GoodB b) : (rowOf b).length < 100 := by
  have := h.len
  simp [rowOf, bytes]; omega
noncomputable abbrev Wr (b : Blk) (row : List Int) (at_ : Nat) (n : Option D) (p : Option D) : Rho := [some (enB false b), some (.int b.1), some (I false b.2), some (I true row), some (nt at_), n, p]
theorem asg_blk {b : Blk} {x3 x4 x5 x6 : Option D} : cAsg (.tp [1, 2]) (cVar 0) [some (enB false b), none, none, x3, x4, x5, x6] = .nx [some (enB false b), some (.int b.1), some (I false b.2), x3, x4, x5, x6] := by
  have e : cSet (cVar 0) [some (enB false b), none, none, x3, x4, x5, x6] = .ok (.val (frz (enB false b))) [some (frz (enB false b)), none, none, x3, x4, x5, x6] := rfl
  rw [frz_enB] at e
  rw [q_asg, e]
  rfl
theorem head3 {b : Blk} {x5 x6 : Option D} : cAsg (.nm 3) (cLst (cCons (cSet (cVar 1)) (cCons (cSet (cBin gDiv (cB (b1 lenD) (cCons (cVar 2) cNil)) (cC (.int 256)))) (cCons (cSet (cBin gMod (cB (b1 lenD) (cCons (cVar 2) cNil)) (cC (.int 256)))) cNil)))) [some (enB false b), some (.int b.1), some (I false b.2), none, none, x5, x6] = .nx [some (enB false b), some (.int b.1), some (I false b.2), some (I true [b.1, ((b.2.length / 256 : Nat) : Int), ((b.2.length % 256 : Nat) : Int)]), none, x5, x6] := by
  have le := len_I (r := [some (enB false b), some (.int b.1), some (I false b.2), none, none, x5, x6]) (i := 2) (o := false) (xs := b.2) rfl
  have l := lst_ok (ds := [.int b.1, .int ((b.2.length : Int) / 256), .int ((b.2.length : Int) % 256)]) (cons_ok (set_val (cvar_at (r := [some (enB false b), some (.int b.1), some (I false b.2), none, none, x5, x6]) (i := 1) (d := .int b.1) rfl rfl)) (cons_ok (set_val (div_ok le (cc 256 _) (by decide) (by decide))) (cons_ok (set_val (mod_ok le (cc 256 _) (by decide))) (nil_ok _)))) rfl (by simp)
  exact asg_ok (i := 3) l
end K81.Sb

namespace K81.Sb
open K81
def chunk (bs : List Int) (at_ : Nat) : List Int := ((bs.drop at_).take 8 ++ List.replicate 8 0).take 8
theorem chunk_eq (bs : List Int) (at_ : Nat) : chunk bs at_ = (List.range 8).map fun p => bs.getD (at_ + p) 0 := by
  refine List.ext_getElem? fun j => ?_
  unfold chunk
  rw [List.getElem?_map]
  by_cases hj : j < 8
  · rw [List.getElem?_take_of_lt hj, List.getElem?_range hj]
    by_cases h : at_ + j < bs.length
    · rw [List.getElem?_append_left (by rw [List.length_take, List.length_drop]; omega), List.getElem?_take_of_lt hj, List.getElem?_drop]
      show _ = some (bs.getD (at_ + j) 0)
      rw [List.getD_eq_getElem?_getD, List.getElem?_eq_getElem h]
      rfl
    · rw [List.getElem?_append_right (by rw [List.length_take, List.length_drop]; omega), List.getElem?_replicate, if_pos (by rw [List.length_take, List.length_drop]; omega)]
      show _ = some (bs.getD (at_ + j) 0)
      rw [List.getD_eq_getElem?_getD, List.getElem?_eq_none (show bs.length ≤ at_ + j by omega)]
      rfl
  · rw [List.getElem?_eq_none (by rw [List.length_take]; omega), List.getElem?_eq_none (by rw [List.length_range]; omega)]
    rfl
theorem byte_chunk (bs : List Int) (at_ : Nat) : (chunk bs at_).foldl (fun n x => 2 * n + x) 0 = byte bs at_ := by
  rw [chunk_eq, List.foldl_map]; rfl
noncomputable abbrev bodyQ : Sv := (cAsg (.nm 5) (cBin gAdd (cBin gMul (cC (.int 2)) (cVar 5)) (cVar 6)))
theorem sbyte_loop (b : Blk) (row : List Int) (a : Nat) : ∀ (xs : List Int) (n : Int) (p : Option D), ∃ p', forL (.nm 6) bodyQ (xs.map .int) (Wr b row a (some (.int n)) p) = .nx (Wr b row a (some (.int (xs.foldl (fun n x => 2 * n + x) n))) p')
  | [], n, p => ⟨p, rfl⟩
  | x :: xs, n, p => by
    obtain ⟨p', e⟩ := sbyte_loop b row a xs (2 * n + x) (some (.int x))
    have st : bodyQ (Wr b row a (some (.int n)) (some (.int x))) = .nx (Wr b row a (some (.int (2 * n + x))) (some (.int x))) := asg_ok (i := 5) (add_ok (mul_ok (cc 2 _) (cvar_at (i := 5) (d := .int n) rfl rfl) (mulOk_l (by decide))) (cvar_at (i := 6) (d := .int x) rfl rfl))
    exact ⟨p', (forL_cons (r1 := Wr b row a (some (.int n)) (some (.int x))) rfl st).trans e⟩
noncomputable abbrev sliceE : Ev := (cSl (cBin gAdd (cSl (cVar 2) (some (cVar 4)) (some (cBin gAdd (cVar 4) (cC (.int 8))))) (cBin gMul (cLst (cCons (cSet (cC (.int 0))) cNil)) (cC (.int 8)))) none (some (cC (.int 8))))
noncomputable abbrev bodyS : Sv := (cSeq (cAsg (.nm 5) (cC (.int 0)))
  (cSeq (cFor (.nm 6) (iLst sliceE) bodyQ)
  (cExpr (cApp 3 (cVar 5)))))
theorem slice_ok (b : Blk) (row : List Int) (a : Nat) (n p : Option D) : sliceE (Wr b row a n p) = .ok (.val (I true (chunk b.2 a))) (Wr b row a n p) := by
  have s := sl_in (r := Wr b row a n p) (i := 2) (o := false) (xs := b.2) rfl (cvar_at (i := 4) (d := nt a) rfl rfl) (add_nt (cvar_at (i := 4) (d := nt a) rfl rfl) (cc 8 _) (j := 8))
  rw [show a + 8 - a = 8 by omega] at s
  have m : cBin gMul (cLst (cCons (cSet (cC (.int 0))) cNil)) (cC (.int 8)) (Wr b row a n p) = .ok (.val (I true (List.replicate 8 0))) (Wr b row a n p) := bin_ok (show cLst (cCons (cSet (cC (.int 0))) cNil) (Wr b row a n p) = .ok (.val (I true [0])) (Wr b row a n p) from rfl) (cc 8 _) (q_mulLI (o := true) [0] (k := 8) ⟨by decide, by decide, by decide⟩)
  have ad := bin_ok s m (add_vv (o := true) (o' := true) _ _ (by rw [List.length_take, List.length_replicate]; omega))
  exact slv_to ad (cc 8 _)
theorem srow_loop (b : Blk) : ∀ (ks : List Nat) (row : List Int) (a x p : Option D), row.length + ks.length < 1000 → ∃ a' x' p', forL (.nm 4) bodyS (ks.map fun k => nt (8 * k)) [some (enB false b), some (.int b.1), some (I false b.2), some (I true row), a, x, p] = .nx [some (enB false b), some (.int b.1), some (I false b.2), some (I true (row ++ ks.map fun k => byte b.2 (8 * k))), a', x', p']
  | [], row, a, x, p, _ => ⟨a, x, p, by rw [List.map_nil, List.map_nil, List.append_nil]; rfl⟩
  | k :: ks, row, a, x, p, hl => by
    simp only [List.length_cons] at hl
    have s1 : cAsg (.nm 5) (cC (.int 0)) (Wr b row (8 * k) x p) = .nx (Wr b row (8 * k) (some (.int 0)) p) := rfl
    obtain ⟨p1, e2⟩ := sbyte_loop b row (8 * k) (chunk b.2 (8 * k)) 0 p
    rw [byte_chunk] at e2
    have it : iLst sliceE (Wr b row (8 * k) (some (.int 0)) p) = .ok ((chunk b.2 (8 * k)).map .int) (Wr b row (8 * k) (some (.int 0)) p) := by
      show (match cSet sliceE (Wr b row (8 * k) (some (.int 0)) p) with | .ok (.val (.node .lst _ ds)) r1 => _ | .ok (.val (.node .rd _ ds)) r1 => _ | .exc c r1 => _ | _ => _) = _
      rw [set_val (slice_ok b row (8 * k) _ p)]
    have s3 : cExpr (cApp 3 (cVar 5)) (Wr b row (8 * k) (some (.int (byte b.2 (8 * k)))) p1) = .nx (Wr b (row ++ [byte b.2 (8 * k)]) (8 * k) (some (.int (byte b.2 (8 * k)))) p1) := appI rfl (cvar_at (i := 5) rfl rfl) rfl (by omega)
    obtain ⟨a', x', p', e5⟩ := srow_loop b ks (row ++ [byte b.2 (8 * k)]) (some (nt (8 * k))) (some (.int (byte b.2 (8 * k)))) p1 (by rw [List.length_append, List.length_singleton]; omega)
    refine ⟨a', x', p', ?_⟩
    rw [List.map_cons]
    refine (forL_cons (r1 := Wr b row (8 * k) x p) rfl ((seq_nx s1).trans ((seq_nx (for_ok it e2)).trans s3))).trans ?_
    rw [e5, List.append_assoc]
    rfl
theorem srow_ok (b : Blk) (hb : GoodB b) : F_short_row [enB false b] = .ok (I true (rowOf b)) := by
  have hl := hb.len
  obtain ⟨a', x', p', e4⟩ := srow_loop b (List.range ((b.2.length + 8 - 1) / 8)) [b.1, ((b.2.length / 256 : Nat) : Int), ((b.2.length % 256 : Nat) : Int)] none none none (by simp; omega)
  have it := it_rng3 (fa := cC (.int 0)) (fb := cB (b1 lenD) (cCons (cVar 2) cNil)) (r := [some (enB false b), some (.int b.1), some (I false b.2), some (I true [b.1, ((b.2.length / 256 : Nat) : Int), ((b.2.length % 256 : Nat) : Int)]), none, none, none]) (n := b.2.length) (c := 8) rfl (len_I (i := 2) (o := false) (xs := b.2) rfl) (by omega) (by decide) (by decide)
  refine runF_ok (r := [some (enB false b), some (.int b.1), some (I false b.2), some (I true (rowOf b)), a', x', p']) (x := .loc 3) ?_ rfl
  exact (seq_nx asg_blk).trans ((seq_nx head3).trans ((seq_nx (for_ok it e4)).trans (ret_ok (cvar_loc (i := 3) (d := I true (rowOf b)) rfl rfl))))
def pad (n : Nat) (row : List Int) : List Int := row ++ List.replicate (n - row.length) 0
def lens (rows : List (List Int)) : List Nat := rows.map List.length
def slab (bl : List Blk) : List (List Int) := (bl.map rowOf).map (pad (mx (lens (bl.map rowOf))))
abbrev M (o o' : Bool) (rows : List (List Int)) : D := .node .lst o (rows.map (I o'))
theorem frzs_M (o : Bool) (rows : List (List Int)) : frzs (rows.map (I o)) = rows.map (I false) := by
  rw [frzs_map, List.map_map]
  exact List.map_congr_left fun b _ => frz_I o b
abbrev Ct (sz tt : Nat) (bl : List Blk) : D := .node .tup false [nt sz, nt tt, Bl false false bl]
structure GoodC (sz tt : Nat) (bl : List Blk) : Prop where
  g : GoodBs bl
  s1 : 1 ≤ sz
  s2 : sz ≤ 64
  t1 : tt ≤ 400
  b1 : 1 ≤ bl.length
  b2 : bl.length ≤ 64
  b3 : bl.length = (tt + sz - 1) / sz
theorem frz_Ct (sz tt : Nat) (o o' : Bool) (bl : List Blk) : frz (.node .tup false [nt sz, nt tt, Bl o o' bl]) = Ct sz tt bl := by
  show D.node .tup false [nt sz, nt tt, .node .lst false (frzs (bl.map (enB o')))] = _
  rw [frzs_enB]
theorem it_bl {r : Rho} {i : Nat} {o o' : Bool} {bl : List Blk} (h : r[i]? = some (some (Bl o o' bl))) : iLst (cVar i) r = .ok (bl.map (enB false)) (r.set i (some (Bl false false bl))) := by
  have e := it_fz h
  rw [frzs_enB] at e
  exact e
theorem need_container_ok {sz tt : Nat} {bl : List Blk} (h : GoodC sz tt bl) : F_need_container [Ct sz tt bl] = .ok .non := by
  have s1 : cAsg (.tp [1, 2, 3]) (cVar 0) (startR 5 [Ct sz tt bl]) = .nx [some (Ct sz tt bl), some (nt sz), some (nt tt), some (Bl false false bl), none] := by
    have e : cSet (cVar 0) (startR 5 [Ct sz tt bl]) = .ok (.val (frz (Ct sz tt bl))) [some (frz (Ct sz tt bl)), none, none, none, none] := rfl
    rw [frz_Ct] at e
    rw [q_asg, e]
    rfl
  have e1 : cVar 1 [some (Ct sz tt bl), some (nt sz), some (nt tt), some (Bl false false bl), none] = .ok (.val (nt sz)) [some (Ct sz tt bl), some (nt sz), some (nt tt), some (Bl false false bl), none] := rfl
  have e2 : cVar 2 [some (Ct sz tt bl), some (nt sz), some (nt tt), some (Bl false false bl), none] = .ok (.val (nt tt)) [some (Ct sz tt bl), some (nt sz), some (nt tt), some (Bl false false bl), none] := rfl
  have c1 := chain_ok (f := fun i j => decide (i ≤ j)) (g := fun i j => decide (i ≤ j)) (cc 1 _) e1 (cc 64 _)
  have c2 := chain_ok (f := fun i j => decide (i ≤ j)) (g := fun i j => decide (i ≤ j)) (cc 0 _) e2 (cc 400 _)
  have := h.s1; have := h.s2; have := h.t1
  rw [decide_eq_true (show (1 : Int) ≤ (sz : Int) by omega), decide_eq_true (show (sz : Int) ≤ 64 by omega)] at c1
  rw [decide_eq_true (show (0 : Int) ≤ (tt : Int) by omega), decide_eq_true (show (tt : Int) ≤ 400 by omega)] at c2
  have le := len_at (r := [some (Ct sz tt bl), some (nt sz), some (nt tt), some (Bl false false bl), none]) (i := 3) (k := .lst) (o := false) (xs := bl.map (enB false)) rfl (.inl rfl)
  rw [List.length_map] at le
  have dv := div_ok (sub_ok (add_ok e2 e1) (cc 1 _)) e1 (by omega) (by omega)
  have ne := ne_ok le dv
  have eq3 : ((bl.length : Nat) : Int) = ((tt : Int) + (sz : Int) - 1) / (sz : Int) := by
    rw [h.b3, show (tt : Int) + (sz : Int) - 1 = ((tt + sz - 1 : Nat) : Int) by omega]
    rfl
  rw [show (!decide (((bl.length : Nat) : Int) = ((tt : Int) + (sz : Int) - 1) / (sz : Int))) = false by rw [decide_eq_true eq3]; rfl] at ne
  have s2 := guard_no (f := cRaise 2) (or_no (not_ok c1) (or_no (not_ok c2) ne))
  obtain ⟨y, e3⟩ := forL_look (v := 4) (f := cIfS (cAnd (cBin gIsNot (cVar 4) (cC .non)) (cBin gLt (cBin gIx (cVar 4) (cC (.int 0))) (cC (.int 0)))) (cRaise 2) cSkip) (r0 := [some (Ct sz tt bl), some (nt sz), some (nt tt), some (Bl false false bl), none]) (bl.map (enB false)) (fun d hd => by
    obtain ⟨b, hb, rfl⟩ := List.mem_map.mp hd
    have g1 : cBin gIsNot (cVar 4) (cC .non) [some (Ct sz tt bl), some (nt sz), some (nt tt), some (Bl false false bl), some (enB false b)] = .ok (.val (.bl true)) [some (Ct sz tt bl), some (nt sz), some (nt tt), some (Bl false false bl), some (enB false b)] := rfl
    have ix := bin_ok (cvar_loc (r := [some (Ct sz tt bl), some (nt sz), some (nt tt), some (Bl false false bl), some (enB false b)]) (i := 4) rfl rfl) (cc 0 _) (ix_tup (i := 4) (o := false) (xs := [.int b.1, I false b.2]) (d := .int b.1) rfl (by show [D.int b.1, frz (I false b.2)] = _; rw [frz_I]) rfl rfl)
    have g2 := lt_ok ix (cc 0 _)
    rw [decide_eq_false (by have := (h.g b hb).lo; omega)] at g2
    exact guard_no (and_yes g1 g2)) none
  have it := it_bl (r := [some (Ct sz tt bl), some (nt sz), some (nt tt), some (Bl false false bl), none]) (i := 3) (o := false) (o' := false) rfl
  exact runF_nx (r := [some (Ct sz tt bl), some (nt sz), some (nt tt), some (Bl false false bl), y]) ((seq_nx s1).trans ((seq_nx s2).trans (for_ok it e3)))
theorem need_block_ok (b : Blk) (hb : GoodB b) : F_need_block [enB false b] = .ok .non := by
  have s1 : cAsg (.tp [1, 2]) (cVar 0) (startR 4 [enB false b]) = .nx [some (enB false b), some (.int b.1), some (I false b.2), none] := by
    have e : cSet (cVar 0) (startR 4 [enB false b]) = .ok (.val (frz (enB false b))) [some (frz (enB false b)), none, none, none] := rfl
    rw [frz_enB] at e
    rw [q_asg, e]
    rfl
  have e1 : cVar 1 [some (enB false b), some (.int b.1), some (I false b.2), none] = .ok (.val (.int b.1)) [some (enB false b), some (.int b.1), some (I false b.2), none] := rfl
  have g1 := gt_ok e1 (cc 255 _)
  rw [decide_eq_false (by have := hb.hi; omega)] at g1
  have g2 := gt_ok (len_I (r := [some (enB false b), some (.int b.1), some (I false b.2), none]) (i := 2) (o := false) (xs := b.2) rfl) (cc 65535 _)
  rw [decide_eq_false (by have := hb.len; omega)] at g2
  have s2 := guard_no (f := cRaise 1) (or_no g1 g2)
  obtain ⟨y, e3⟩ := forL_look (v := 3) (f := cIfS (cOr (cNot (cB (gIsi (etab tab)) (cCons (cVar 3) (cCons (cC (.ty "int")) cNil)))) (cOr (cB (gIsi (etab tab)) (cCons (cVar 3) (cCons (cC (.ty "bool")) cNil))) (cBin gNotIn (cVar 3) (cTup (cCons (cSet (cC (.int 0))) (cCons (cSet (cC (.int 1))) cNil)))))) (cRaise 1) cSkip) (r0 := [some (enB false b), some (.int b.1), some (I false b.2), none]) (b.2.map .int) (fun d hd => by
    obtain ⟨x, hx, rfl⟩ := List.mem_map.mp hd
    rcases hb.bits x hx with e | e
    · subst e; rfl
    · subst e; rfl) none
  have it := it_lst (r := [some (enB false b), some (.int b.1), some (I false b.2), none]) (i := 2) (o := false) rfl (frzs_ints b.2)
  exact runF_nx (r := [some (enB false b), some (.int b.1), some (I false b.2), y]) ((seq_nx s1).trans ((seq_nx s2).trans (for_ok it e3)))
theorem frzs_Ct (sz tt : Nat) (bl : List Blk) : frzs [nt sz, nt tt, Bl false false bl] = [nt sz, nt tt, Bl false false bl] := by
  show [nt sz, nt tt, .node .lst false (frzs (bl.map (enB false)))] = _
  rw [frzs_enB]
theorem need_blocks_ok {sz tt : Nat} {bl : List Blk} (h : GoodC sz tt bl) : F_need_blocks [Ct sz tt bl] = .ok .non := by
  have s1 : cExpr (cCall 1 F_need_container (cCons (cVar 0) cNil)) (startR 3 [Ct sz tt bl]) = .nx (startR 3 [Ct sz tt bl]) := by
    rw [q_expr, call1 (F := F_need_container) (r1 := startR 3 [Ct sz tt bl]) (d := .non) (cvar_loc (i := 0) (d := Ct sz tt bl) rfl rfl) rfl (by rw [frz_Ct]; exact need_container_ok h) rfl]
    rfl
  have ix := bin_ok (cvar_loc (r := startR 3 [Ct sz tt bl]) (i := 0) rfl rfl) (cc 2 _) (ix_tup (i := 0) (o := false) (xs := [nt sz, nt tt, Bl false false bl]) (d := Bl false false bl) rfl (frzs_Ct sz tt bl) rfl (by show D.node .lst false (frzs (bl.map (enB false))) = _; rw [frzs_enB]))
  have s2 : cAsg (.nm 1) (cBin gIx (cVar 0) (cC (.int 2))) (startR 3 [Ct sz tt bl]) = .nx [some (Ct sz tt bl), some (Bl false false bl), none] := asg_ok (i := 1) ix
  have le := len_at (r := [some (Ct sz tt bl), some (Bl false false bl), none]) (i := 1) (k := .lst) (o := false) (xs := bl.map (enB false)) rfl (.inl rfl)
  rw [List.length_map] at le
  have c1 := chain_ok (f := fun i j => decide (i ≤ j)) (g := fun i j => decide (i ≤ j)) (cc 1 _) le (cc 64 _)
  have := h.b1; have := h.b2
  rw [decide_eq_true (show (1 : Int) ≤ (bl.length : Int) by omega), decide_eq_true (show (bl.length : Int) ≤ 64 by omega)] at c1
  have s3 := guard_no (f := cRaise 1) (not_ok c1)
  obtain ⟨y, e4⟩ := forL_look (v := 2) (f := cIfS (cBin gIsNot (cVar 2) (cC .non)) (cExpr (cCall 1 F_need_block (cCons (cVar 2) cNil))) cSkip) (r0 := [some (Ct sz tt bl), some (Bl false false bl), none]) (bl.map (enB false)) (fun d hd => by
    obtain ⟨b, hb, rfl⟩ := List.mem_map.mp hd
    have g1 : cBin gIsNot (cVar 2) (cC .non) [some (Ct sz tt bl), some (Bl false false bl), some (enB false b)] = .ok (.val (.bl true)) [some (Ct sz tt bl), some (Bl false false bl), some (enB false b)] := rfl
    refine ifs_yes g1 ?_
    show cExpr (cCall 1 F_need_block (cCons (cVar 2) cNil)) [some (Ct sz tt bl), some (Bl false false bl), some (enB false b)] = .nx [some (Ct sz tt bl), some (Bl false false bl), some (enB false b)]
    rw [q_expr, call1 (F := F_need_block) (r1 := [some (Ct sz tt bl), some (Bl false false bl), some (enB false b)]) (d := .non) (cvar_loc (i := 2) (d := enB false b) rfl rfl) rfl (by rw [frz_enB]; exact need_block_ok b (h.g b hb)) rfl]
    rfl) none
  have it := it_bl (r := [some (Ct sz tt bl), some (Bl false false bl), none]) (i := 1) (o := false) (o' := false) rfl
  exact runF_nx (r := [some (Ct sz tt bl), some (Bl false false bl), y]) ((seq_nx s1).trans ((seq_nx s2).trans ((seq_nx s3).trans (for_ok it e4))))
theorem noL_M : ∀ rows : List (List Int), noL (M true true rows) = true := fun rows => by
  show (true && noLs (rows.map (I true))) = true
  induction rows with
  | nil => rfl
  | cons row rows ih =>
    show (true && (noL (I true row) && noLs (rows.map (I true)))) = true
    rw [show noL (I true row) = true from noL_lints row]
    exact ih
theorem pads {c : Option D} {x3 x4 : Option D} (rows : List (List Int)) (hr : rows ≠ []) (hl : rows.length < 1000) (h2 : ∀ row ∈ rows, row.length < 1000) (x2 : Option D) :
    ∃ r', (cSeq (cAsg (.nm 2) (cB (b1 maxD) (cCons (cLc [4] (.nm 4) (iLst (cVar 1)) none (cB (b1 lenD) (cCons (cVar 4) cNil))) cNil)))
      (cRet (cLc [4] (.nm 4) (iLst (cVar 1)) none (cBin gAdd (cVar 4) (cBin gMul (cLst (cCons (cSet (cC (.int 0))) cNil)) (cBin VL.gSub (cVar 2) (cB (b1 lenD) (cCons (cVar 4) cNil))))))))
      [c, some (M true true rows), x2, x3, none] = .rt (.val (M true true (rows.map (pad (mx (lens rows)))))) r' := by
  have it1 := it_fz (r := [c, some (M true true rows), x2, x3, none]) (i := 1) rfl
  rw [frzs_M] at it1
  have l1 := lc_all (α := List Int) (enc := I false) (g := fun row => nt row.length) (fe := cB (b1 lenD) (cCons (cVar 4) cNil)) (t := .nm 4) (vs := [4]) (r0 := [c, some (M false false rows), x2, x3, none]) rows it1 rfl (by omega) (fun row _ => ⟨[c, some (M false false rows), x2, x3, some (I false row)], rfl, [c, some (M false false rows), x2, x3, some (I false row)], set_val (len_I (i := 4) (o := false) (xs := row) rfl), rfl⟩)
  have e1 : rows.map (fun row => nt row.length) = (lens rows).map nt := by rw [lens, List.map_map]; rfl
  rw [e1] at l1
  have m1 := max_ok (ks := lens rows) l1 (by unfold lens; cases rows with | nil => exact absurd rfl hr | cons _ _ => exact fun z => nomatch z)
  have s1 : cAsg (.nm 2) (cB (b1 maxD) (cCons (cLc [4] (.nm 4) (iLst (cVar 1)) none (cB (b1 lenD) (cCons (cVar 4) cNil))) cNil)) [c, some (M true true rows), x2, x3, none] = .nx [c, some (M false false rows), some (nt (mx (lens rows))), x3, none] := asg_ok (i := 2) m1
  have hm : mx (lens rows) ≤ 1000 := mx_le fun x hx => by
    obtain ⟨row, h3, rfl⟩ := List.mem_map.mp hx
    exact Nat.le_of_lt (h2 row h3)
  have hge : ∀ row ∈ rows, row.length ≤ mx (lens rows) := fun row h3 => le_mx (List.mem_map_of_mem h3)
  generalize mx (lens rows) = m at s1 hm hge
  have it2 := it_fz (r := [c, some (M false false rows), some (nt m), x3, none]) (i := 1) rfl
  rw [frzs_M] at it2
  have l2 := lc_all (α := List Int) (enc := I false) (g := fun row => I true (pad m row)) (fe := cBin gAdd (cVar 4) (cBin gMul (cLst (cCons (cSet (cC (.int 0))) cNil)) (cBin VL.gSub (cVar 2) (cB (b1 lenD) (cCons (cVar 4) cNil))))) (t := .nm 4) (vs := [4]) (r0 := [c, some (M false false rows), some (nt m), x3, none]) rows it2 rfl (by omega) (fun row h3 => by
    have h4 := h2 row h3
    have sb := sub_nt (cvar_at (r := [c, some (M false false rows), some (nt m), x3, some (I false row)]) (i := 2) (d := nt m) rfl rfl) (len_I (i := 4) (o := false) (xs := row) rfl) (hge row h3)
    have ml : cBin gMul (cLst (cCons (cSet (cC (.int 0))) cNil)) (cBin VL.gSub (cVar 2) (cB (b1 lenD) (cCons (cVar 4) cNil))) [c, some (M false false rows), some (nt m), x3, some (I false row)] = .ok (.val (I true (List.replicate (m - row.length) 0))) [c, some (M false false rows), some (nt m), x3, some (I false row)] := by
      refine bin_ok (show cLst (cCons (cSet (cC (.int 0))) cNil) [c, some (M false false rows), some (nt m), x3, some (I false row)] = .ok (.val (I true [0])) _ from rfl) sb ?_
      have e := q_mulLI (r := [c, some (M false false rows), some (nt m), x3, some (I false row)]) (o := true) [0] (k := ((m - row.length : Nat) : Int)) ⟨by omega, by omega, by simp; omega⟩
      rw [Int.toNat_natCast] at e
      rw [show (List.replicate (m - row.length) (0 : Int)) = (List.replicate (m - row.length) [(0 : Int)]).flatten by simp]
      exact e
    have ad : cBin gAdd (cVar 4) (cBin gMul (cLst (cCons (cSet (cC (.int 0))) cNil)) (cBin VL.gSub (cVar 2) (cB (b1 lenD) (cCons (cVar 4) cNil)))) [c, some (M false false rows), some (nt m), x3, some (I false row)] = .ok (.val (I true (pad m row))) [c, some (M false false rows), some (nt m), x3, some (I false row)] := by
      have e := bin_ok (cvar_loc (r := [c, some (M false false rows), some (nt m), x3, some (I false row)]) (i := 4) rfl rfl) ml (add_fz (o := false) (o' := true) (xs := row.map .int) (ys := (List.replicate (m - row.length) (0 : Int)).map .int) (opd_loc' (i := 4) rfl) rfl (frzs_ints _) (frzs_ints _) (by rw [List.length_map, List.length_map, List.length_replicate]; omega) (touch_fz (i := 4) rfl (frzs_ints _)) rfl)
      rw [← List.map_append] at e
      exact e
    exact ⟨_, rfl, _, set_val ad, rfl⟩)
  have e2 : rows.map (fun row => I true (pad m row)) = (rows.map (pad m)).map (I true) := by rw [List.map_map]; rfl
  rw [e2] at l2
  exact ⟨_, (seq_nx s1).trans (ret_ok l2)⟩
theorem rows_ne {bl : List Blk} (h : 1 ≤ bl.length) : bl.map rowOf ≠ [] := fun z => by
  have := congrArg List.length z
  rw [List.length_map, List.length_nil] at this
  omega
theorem slab_of_ok {sz tt : Nat} {bl : List Blk} (h : GoodC sz tt bl) : F_slab_of [Ct sz tt bl] = .ok (M true true (slab bl)) := by
  have s0 : cExpr (cCall 1 F_need_blocks (cCons (cVar 0) cNil)) (startR 5 [Ct sz tt bl]) = .nx (startR 5 [Ct sz tt bl]) := by
    rw [q_expr, call1 (F := F_need_blocks) (r1 := startR 5 [Ct sz tt bl]) (d := .non) (cvar_loc (i := 0) (d := Ct sz tt bl) rfl rfl) rfl (by rw [frz_Ct]; exact need_blocks_ok h) rfl]
    rfl
  have ix := bin_ok (cvar_loc (r := startR 5 [Ct sz tt bl]) (i := 0) rfl rfl) (cc 2 _) (ix_tup (i := 0) (o := false) (xs := [nt sz, nt tt, Bl false false bl]) (d := Bl false false bl) rfl (frzs_Ct sz tt bl) rfl (by show D.node .lst false (frzs (bl.map (enB false))) = _; rw [frzs_enB]))
  have it : iLst (cBin gIx (cVar 0) (cC (.int 2))) (startR 5 [Ct sz tt bl]) = .ok (bl.map (enB false)) (startR 5 [Ct sz tt bl]) := by
    show (match cSet (cBin gIx (cVar 0) (cC (.int 2))) (startR 5 [Ct sz tt bl]) with | .ok (.val (.node .lst _ ds)) r1 => IO.ok ds r1 | .ok (.val (.node .rd _ ds)) r1 => .ok ds r1 | .exc c r1 => .exc c r1 | _ => .bad) = _
    rw [set_val ix]
  have hb1 := h.b1; have hb2 := h.b2
  have l1 := lc_all (α := Blk) (enc := enB false) (g := fun b => I true (rowOf b)) (fe := cCall 1 F_short_row (cCons (cVar 3) cNil)) (t := .nm 3) (vs := [3]) (r0 := [some (Ct sz tt bl), none, none, none, none]) bl it rfl (by omega) (fun b hb => ⟨[some (Ct sz tt bl), none, none, some (enB false b), none], rfl, [some (Ct sz tt bl), none, none, some (enB false b), none], set_val (call1 (F := F_short_row) (cvar_loc (i := 3) (d := enB false b) rfl rfl) rfl (by rw [frz_enB]; exact srow_ok b (h.g b hb)) (noL_lints _)), rfl⟩)
  have e1 : bl.map (fun b => I true (rowOf b)) = (bl.map rowOf).map (I true) := by rw [List.map_map]; rfl
  rw [e1] at l1
  have s1 : cAsg (.nm 1) (cLc [3] (.nm 3) (iLst (cBin gIx (cVar 0) (cC (.int 2)))) none (cCall 1 F_short_row (cCons (cVar 3) cNil))) (startR 5 [Ct sz tt bl]) = .nx [some (Ct sz tt bl), some (M true true (bl.map rowOf)), none, none, none] := asg_ok (i := 1) l1
  obtain ⟨r', e⟩ := pads (c := some (Ct sz tt bl)) (x3 := none) (x4 := none) (bl.map rowOf) (rows_ne h.b1) (by rw [List.length_map]; omega) (fun row hr => by
    obtain ⟨b, hb, rfl⟩ := List.mem_map.mp hr
    exact Nat.lt_of_lt_of_le (rowOf_len b (h.g b hb)) (by decide)) none
  exact runF_ok ((seq_nx s0).trans ((seq_nx s1).trans e)) rfl
end K81.Sb

local macro_rules | `(tactic| walk_at "nm") => `(tactic| ((repeat (with_reducible apply VH.set_s)); (with_reducible exact VH.set_0)))
local macro_rules | `(tactic| walk_at "sz") => `(tactic| first | (with_reducible assumption) | exact Nat.le_of_ble_eq_true rfl | omega | (simp only [List.length_map, List.length_append, List.length_cons, List.length_nil, List.length_range, List.length_replicate, List.length_take, List.length_drop, List.length_set, List.length_reverse] <;> omega) | (simp only [List.length_map, List.length_append, List.length_cons, List.length_nil, List.length_range, List.length_replicate, List.length_take, List.length_drop, List.length_set, List.length_reverse] at * <;> omega))
local macro_rules | `(tactic| walk_at "tg") => `(tactic| first | ((with_reducible apply VH.tgt_nm); (walk_at "nm")) | ((with_reducible apply VH.tgt_tp); (exact rfl); (walk_at "sa")) | ((with_reducible apply VH.tgt_tl); (exact rfl); (walk_at "sa")) | exact rfl)
local macro_rules | `(tactic| walk_at "sa") => `(tactic| first | (with_reducible exact VH.setAll_n _) | ((with_reducible apply VH.setAll_c); (walk_at "nm"); (walk_at "sa")))
local macro_rules | `(tactic| walk_at "tc") => `(tactic| first | (with_reducible exact VH.touch_v _ _) | ((with_reducible apply VH.touch_l); (exact rfl); (infer_instance)) | ((with_reducible apply VH.touch_g); (exact rfl); (infer_instance); (walk_at "nm")) | exact rfl)
local macro_rules | `(tactic| walk_at "at") => `(tactic| first | (with_reducible assumption) | (with_reducible refine VH.at_enc ?_; first | assumption | omega) | exact rfl)
local macro_rules | `(tactic| walk_at "bf") => `(tactic| first | exact rfl | assumption | (simp only [decide_eq_false_iff_not, decide_eq_true_eq, Bool.and_eq_false_iff, Bool.and_eq_true, Bool.or_eq_false_iff, Bool.or_eq_true, Bool.not_eq_false', Bool.not_eq_true', Bool.not_true, Bool.not_false, Bool.or_false, Bool.false_or, Bool.and_true, Bool.true_and, Bool.and_false, Bool.false_and, Bool.or_true, Bool.true_or, Bool.or_self, Bool.and_self] <;> omega) | (simp <;> fail) | (simp <;> omega) | (simp [*] <;> fail))
local macro_rules | `(tactic| walk_at "ev") => `(tactic| first | (with_reducible exact VH.cc_d _ _) | (with_reducible exact VH.nil_ok _) | ((with_reducible apply VL.cvar_at); (exact rfl); (exact rfl)) | ((with_reducible apply VL.cvar_loc); (exact rfl); (exact rfl)) | ((with_reducible apply VH.cons_ok); (walk_at "ev"); (walk_at "ev")) | (walk_at "ev1") | (walk_at "ev2") | (walk_at "ev3") | (with_reducible assumption))
local macro_rules | `(tactic| walk_at "ev1") => `(tactic| first | ((with_reducible apply VH.set_loc); (exact rfl); (exact rfl); (infer_instance); (walk_at "nm")) | ((with_reducible apply VH.set_val); (walk_at "ev")) | ((with_reducible apply VH.set_any); (exact rfl); (first | assumption | exact VH.fz)) | ((with_reducible apply VL.add_ok); (walk_at "ev"); (walk_at "ev")) | ((with_reducible apply VL.sub_ok); (walk_at "ev"); (walk_at "ev")) | ((with_reducible apply VL.mod_ok); (walk_at "ev"); (walk_at "ev"); (first | omega | assumption)) | ((with_reducible apply VL.div_ok); (walk_at "ev"); (walk_at "ev"); (first | omega | assumption); (first | omega | assumption)) | ((with_reducible apply VL.lt_ok); (walk_at "ev"); (walk_at "ev")) | ((with_reducible apply VL.le_ok); (walk_at "ev"); (walk_at "ev")) | ((with_reducible apply VL.gt_ok); (walk_at "ev"); (walk_at "ev")) | ((with_reducible apply VL.ge_ok); (walk_at "ev"); (walk_at "ev")) | ((with_reducible apply VL.eq_ok); (walk_at "ev"); (walk_at "ev")) | ((with_reducible apply VL.ne_ok); (walk_at "ev"); (walk_at "ev")) | ((with_reducible apply VL.mul_ok); (walk_at "ev"); (walk_at "ev"); (first | assumption | exact VH.mulOk_l (by omega) | exact VH.mulOk_r (by omega))))
local macro_rules | `(tactic| walk_at "ev2") => `(tactic| first | ((with_reducible apply VH.addL_go); (walk_at "ev"); (walk_at "ev"); (exact rfl); (exact rfl); (infer_instance); (infer_instance); (walk_at "sz"); (walk_at "tc"); (walk_at "tc")) | ((with_reducible apply VH.ixA_go); (walk_at "ev"); (walk_at "ev"); (exact rfl); (exact rfl); (walk_at "at"); (exact rfl)) | ((with_reducible apply VH.ix_go); (walk_at "ev"); (walk_at "ev"); (exact rfl); (exact rfl); (walk_at "at"); (infer_instance); (walk_at "tc"); (intro hat; first | exact rfl | exact Bool.noConfusion hat)) | ((with_reducible apply VH.lenE_go); (walk_at "ev"); (exact rfl); (exact rfl)) | ((with_reducible apply VH.len_go); (walk_at "ev"); (exact rfl); (exact rfl)) | ((with_reducible apply VH.lst_ok); (walk_at "ev"); (exact rfl); (walk_at "sz")) | ((with_reducible apply VH.tup_ok); (walk_at "ev"); (exact rfl); (walk_at "sz")) | ((with_reducible apply VH.call_go); (walk_at "ev"); (exact rfl); (infer_instance); (exact rfl); (with_reducible assumption); (infer_instance)) | ((with_reducible apply VH.call_any); (walk_at "ev"); (exact rfl); (infer_instance); (exact rfl); (with_reducible assumption); (walk_at "se")) | ((with_reducible apply VH.call_set); (walk_at "ev"); (exact rfl); (infer_instance); (exact rfl); (with_reducible assumption); (first | (with_reducible assumption) | exact rfl); (walk_at "se")) | ((with_reducible apply VH.listOf_go); (walk_at "ev"); (exact rfl); (exact rfl); (infer_instance); (walk_at "tc")) | ((with_reducible apply VH.neg_ok); (walk_at "ev")) | ((with_reducible apply VH.max_ok); (walk_at "ev"); (walk_at "ev")) | ((with_reducible apply VH.min_ok); (walk_at "ev"); (walk_at "ev")) | ((with_reducible apply VH.not_t); (walk_at "ev")) | ((with_reducible apply VH.not_f); (walk_at "ev")) | ((with_reducible apply VL.not_ok); (walk_at "ev")) | ((with_reducible apply VH.tru_bl); (walk_at "ev")) | ((with_reducible apply VH.pop_go); (exact rfl); (exact rfl); (infer_instance); (walk_at "nm")) | ((with_reducible apply VH.lrev_go); (walk_at "ev"); (exact rfl); (infer_instance); (walk_at "tc")) | ((with_reducible apply VH.lrevL_go); (walk_at "ev"); (exact rfl); (infer_instance); (walk_at "tc")) | ((with_reducible apply VH.sl_ss); (walk_at "ev"); (exact rfl); (exact rfl); (infer_instance); (walk_at "ev"); (walk_at "ev"); (walk_at "tc"); (first | omega | assumption); (first | omega | assumption)) | ((with_reducible apply VH.sl_ns); (walk_at "ev"); (exact rfl); (exact rfl); (infer_instance); (walk_at "ev"); (walk_at "tc"); (first | omega | assumption)) | ((with_reducible apply VH.sl_sn); (walk_at "ev"); (exact rfl); (exact rfl); (infer_instance); (walk_at "ev"); (walk_at "tc"); (first | omega | assumption)) | ((with_reducible apply VH.pow_go); (walk_at "ev"); (walk_at "ev"); (first | (with_reducible assumption) | exact rfl | decide +kernel); (with_reducible assumption)) | ((with_reducible apply VH.sum_go); (walk_at "ev"); (exact rfl)) | ((with_reducible apply VH.int_bl); (walk_at "ev")) | ((with_reducible apply VH.int_int); (walk_at "ev")))
local macro_rules | `(tactic| walk_at "ev3") => `(tactic| first | ((with_reducible apply VH.and_no); (walk_at "ev")) | ((with_reducible apply VH.and_go); (walk_at "ev"); (walk_at "ev")) | ((with_reducible apply VH.and_b); (walk_at "ev"); (walk_at "ev")) | ((with_reducible apply VH.or_yes); (walk_at "ev")) | ((with_reducible apply VH.or_go); (walk_at "ev"); (walk_at "ev")) | ((with_reducible apply VH.or_b); (walk_at "ev"); (walk_at "ev")) | ((with_reducible apply VH.isi_go); (walk_at "ev"); (exact rfl); (first | exact (rfl : _ = some true) | exact (rfl : _ = some false))) | ((with_reducible apply VH.isiC_go); (walk_at "ev"); (exact rfl); (first | exact (rfl : _ = some true) | exact (rfl : _ = some false))) | ((with_reducible apply VH.eqD_go); (walk_at "ev"); (walk_at "ev"); (exact rfl); (exact rfl); (first | assumption | exact VH.eqL _ _ _ _ | exact VL.eq_lints _ _ | exact VL.eq_prs _ _)) | ((with_reducible apply VH.neD_go); (walk_at "ev"); (walk_at "ev"); (exact rfl); (exact rfl); (first | assumption | exact VH.neL _ _ _ _ | exact VL.ne_lints _ _ | exact VL.ne_prs _ _)) | ((with_reducible apply VH.it_lstG); (walk_at "ev"); (exact rfl)) | ((with_reducible apply VH.it_enumG); (walk_at "ev"); (infer_instance)) | ((with_reducible apply VH.it_rng3); (walk_at "ev"); (walk_at "ev"); (walk_at "ev"); (with_reducible assumption)) | ((with_reducible apply VH.it_rngI); (walk_at "ev"); (first | assumption | exact VL.within_le (by omega) (by omega))) | ((with_reducible apply VH.it_rng2); (walk_at "ev"); (walk_at "ev"); (first | assumption | exact VL.within_le (by omega) (by omega)); (first | assumption | exact VL.within_le (by omega) (by omega))))
local macro_rules | `(tactic| walk_at "st") => `(tactic| first | ((with_reducible apply VH.asg_go); (walk_at "ev"); (walk_at "nm")) | ((with_reducible apply VH.asgT_go); (walk_at "ev"); (walk_at "tg")) | ((with_reducible apply VH.aug_go); (exact rfl); (walk_at "ev"); (walk_at "nm")) | ((with_reducible apply VH.augS_go); (exact rfl); (walk_at "ev"); (walk_at "nm")) | ((with_reducible apply VH.augM_go); (exact rfl); (walk_at "ev"); (first | assumption | exact VH.mulOk_l (by omega) | exact VH.mulOk_r (by omega)); (walk_at "nm")) | ((with_reducible apply VH.app_go); (exact rfl); (walk_at "ev"); (exact rfl); (walk_at "sz"); (walk_at "nm")) | ((with_reducible apply VH.ext_go); (exact rfl); (walk_at "ev"); (exact rfl); (walk_at "tc"); (exact rfl); (infer_instance); (infer_instance); (walk_at "sz"); (walk_at "nm")) | (with_reducible exact VH.skip_go _) | ((with_reducible apply VH.par_go); (walk_at "ev"); (exact rfl); (exact rfl); (walk_at "sa")) | ((with_reducible apply VH.setIx_go); (walk_at "ev"); (exact rfl); (walk_at "ev"); (exact rfl); (first | assumption | exact VH.ixN_nat (by first | assumption | omega)); (walk_at "nm")) | ((with_reducible apply VH.expr_go); (walk_at "ev")) | (with_reducible assumption))
local macro_rules | `(tactic| walk_at "go1") => `(tactic| first | (with_reducible apply VH.seq_as) | ((with_reducible apply VH.seq_ret); (walk_at "ev"); (exact rfl)) | (with_reducible apply VH.seq_sk) | ((with_reducible apply VH.seq_ra); (exact rfl)) | ((with_reducible apply VH.seq_go); (walk_at "st")) | ((with_reducible apply VH.ret_go); (walk_at "ev")) | (walk_at "st"))
local macro_rules | `(tactic| walk_at "go") => `(tactic| (repeat (walk_at "go1")))
local macro_rules | `(tactic| walk_at "yes") => `(tactic| first | ((with_reducible apply VH.seq_yes); (walk_at "ev"); (walk_at "bf")) | ((with_reducible apply VH.ifs_y); (walk_at "ev"); (walk_at "bf")))
local macro_rules | `(tactic| walk_at "no") => `(tactic| first | ((with_reducible apply VH.seq_no); (walk_at "ev"); (walk_at "bf"); (try (with_reducible apply VH.seq_sk))) | ((with_reducible apply VH.ifs_n); (walk_at "ev"); (walk_at "bf")))
local macro_rules | `(tactic| walk_at "for") => `(tactic| first | ((with_reducible apply VH.seq_go); ((with_reducible apply VH.for_go); (walk_at "ev"))) | ((with_reducible apply VH.for_go); (walk_at "ev")))
local macro_rules | `(tactic| walk_at "start") => `(tactic| ((repeat (first | (with_reducible apply VH.start_c) | (with_reducible apply VH.start_n))); (with_reducible exact VH.start_z)))
local macro_rules | `(tactic| walk_at "def") => `(tactic| ((apply VH.runF_go); (walk_at "start"); (show VL.cSeq _ _ _ = _); (walk_at "go")))
local macro_rules | `(tactic| walk_at "se") => `(tactic| first | (with_reducible exact VH.se_n _) | ((with_reducible apply VH.se_v); (walk_at "se")) | ((with_reducible apply VH.se_l); (exact rfl); (infer_instance); (walk_at "nm"); (walk_at "se")))
local macro_rules | `(tactic| walk_at "why") => `(tactic| ((with_reducible apply VH.wh_y); (walk_at "ev"); (walk_at "bf"); (walk_at "go")))
local macro_rules | `(tactic| walk_at "whn") => `(tactic| ((with_reducible apply VH.wh_n); (walk_at "ev"); (walk_at "bf")))
local macro_rules | `(tactic| walk_at "gor") => `(tactic| ((apply VH.nx_to); (walk_at "go"); (exact rfl)))
namespace K81.Lw
open VH K81
abbrev IL (o : Bool) (xs : List Int) : D := .node .lst o (xs.map .int)
theorem in_I {fa fb : Ev} {r r1 r2 : Rho} {x : R} {xs : List Int} {z : Int} {o : Bool} (h1 : fa r = .ok (.val (.int z)) r1) (h2 : fb r1 = .ok x r2) (ho : opd r2 x = some (IL o xs)) : cBin gIn fa fb r = .ok (.val (.bl (decide (z ∈ xs)))) r2 := by
  refine VL.bin_ok h1 h2 (VL.g2_ok rfl ho (?_ : (inD (.int z) (IL o xs)).map D.bl = some (.bl (decide (z ∈ xs)))) rfl)
  have e1 : eqOk (.int z) = true := rfl
  have e2 : eqOk (IL o xs) = true := eqOk_fp (VL.fp_il o xs) (by decide)
  show ((if (eqOk (.int z) && eqOk (IL o xs)) = true then some ((xs.map D.int).any fun y => PyData.eqv (toPy y) (toPy (.int z))) else none)).map D.bl = _
  rw [e1, e2]
  show some (D.bl ((xs.map D.int).any fun y => PyData.eqv (toPy y) (toPy (.int z)))) = _
  congr 2
  have one : ∀ a b : Int, PyData.eqv (toPy (.int a)) (toPy (.int b)) = decide (a = b) := fun a b => by
    have q := @q_eqI a b
    unfold eqD at q
    rw [eqOk_fp (fp_int a 0) (by decide), eqOk_fp (fp_int b 0) (by decide)] at q
    have q := Option.some.inj q
    injection q
  rw [List.any_map, Bool.eq_iff_iff, List.any_eq_true, decide_eq_true_eq]
  constructor
  · rintro ⟨j, hj, e⟩
    have e : PyData.eqv (toPy (.int j)) (toPy (.int z)) = true := e
    rw [one, decide_eq_true_eq] at e
    exact e ▸ hj
  · intro hz
    refine ⟨z, hz, ?_⟩
    show PyData.eqv (toPy (.int z)) (toPy (.int z)) = true
    rw [one, decide_eq_true rfl]
def b8n (n : Int) : List Int := [7, 6, 5, 4, 3, 2, 1, 0].map fun k : Nat => n / (2 ^ k : Nat) % 2
abbrev F5 (R : List Int) (many : Int) (B : List Int) (nu pl : Option D) : Rho := [some (IL false R), some (.int many), some (IL true B), nu, pl]
noncomputable abbrev b8E : Ev := (cLc [4] (.nm 4) (iRng rngI3 (cCons (cC (.int 7)) (cCons (cNeg (cC (.int 1))) (cCons (cNeg (cC (.int 1))) cNil)))) none (cBin gMod (cBin gDiv (cVar 3) (cBin gShl (cC (.int 1)) (cVar 4))) (cC (.int 2))))
theorem b8_ok (R : List Int) (many : Int) (B : List Int) (n : Int) : b8E (F5 R many B (some (.int n)) none) = .ok (.val (IL true (b8n n))) (F5 R many B (some (.int n)) none) := by
  have it := VH.it_rng3 (fa := cC (.int 7)) (fb := cNeg (cC (.int 1))) (fc := cNeg (cC (.int 1))) (i := 7) (j := -1) (z := -1) (r := F5 R many B (some (.int n)) none) rfl rfl rfl (by decide +kernel)
  have e0 : rngD 7 (-1) (turns 7 (-1) (-1)) = [7, 6, 5, 4, 3, 2, 1, 0].map nt := by
    rw [show turns 7 (-1) (-1) = 8 by decide +kernel]
    rfl
  rw [e0] at it
  have z := lc_all (enc := nt) (g := fun k : Nat => D.int (n / (2 ^ k : Nat) % 2)) (t := .nm 4) (fe := cBin gMod (cBin gDiv (cVar 3) (cBin gShl (cC (.int 1)) (cVar 4))) (cC (.int 2))) (vs := [4]) [7, 6, 5, 4, 3, 2, 1, 0] (r0 := F5 R many B (some (.int n)) none) it rfl (by decide) fun k hk => ⟨F5 R many B (some (.int n)) (some (nt k)), rfl, F5 R many B (some (.int n)) (some (nt k)), by
    have hk : k ≤ 7 := by
      have : k = 7 ∨ k = 6 ∨ k = 5 ∨ k = 4 ∨ k = 3 ∨ k = 2 ∨ k = 1 ∨ k = 0 := by simpa using hk
      omega
    have sh : cBin gShl (cC (.int 1)) (cVar 4) (F5 R many B (some (.int n)) (some (nt k))) = .ok (.val (.int ((2 ^ k : Nat) : Int))) (F5 R many B (some (.int n)) (some (nt k))) := by
      have : k = 0 ∨ k = 1 ∨ k = 2 ∨ k = 3 ∨ k = 4 ∨ k = 5 ∨ k = 6 ∨ k = 7 := by omega
      rcases this with e | e | e | e | e | e | e | e <;> (subst e; rfl)
    have hp : 0 < 2 ^ k := Nat.pow_pos (by decide)
    have hp2 : 2 ^ k ≤ 2 ^ 7 := Nat.pow_le_pow_right (by decide) hk
    have : (2 : Nat) ^ 7 = 128 := by decide
    exact set_val (mod_ok (fb := cC (.int 2)) (j := 2) (div_ok (fa := cVar 3) (i := n) (r := F5 R many B (some (.int n)) (some (nt k))) rfl sh (by omega) (by omega)) rfl (by decide)), rfl⟩
  exact z
theorem bo_loop (R : List Int) (many : Int) : ∀ (ns B : List Int) (nu : Option D), B.length + 8 * ns.length ≤ 100000 → ∃ nu', forL (.nm 3) (cExpr (cExt 2 b8E)) (ns.map .int) (F5 R many B nu none) = .nx (F5 R many (B ++ (ns.map b8n).flatten) nu' none)
  | [], B, nu, _ => ⟨nu, by
    show SO.nx _ = SO.nx (F5 R many (B ++ []) nu none)
    rw [List.append_nil]⟩
  | n :: ns, B, nu, hl => by
    rw [List.length_cons] at hl
    have h8 : (b8n n).length = 8 := rfl
    obtain ⟨nu', e⟩ := bo_loop R many ns (B ++ b8n n) (some (.int n)) (by rw [List.length_append, h8]; omega)
    have s : cExpr (cExt 2 b8E) (F5 R many B (some (.int n)) none) = .nx (F5 R many (B ++ b8n n) (some (.int n)) none) := by
      refine ext_go (o := true) (x := .val (IL true (b8n n))) (es := (b8n n).map .int) (es' := (b8n n).map .int) (ds := B.map .int) (ds' := B.map .int) rfl (b8_ok R many B n) rfl rfl rfl inferInstance inferInstance (by rw [List.length_map, List.length_map, h8]; omega) ?_
      rw [← List.map_append]
      rfl
    rw [show B ++ ((n :: ns).map b8n).flatten = B ++ b8n n ++ (ns.map b8n).flatten by rw [List.append_assoc]; rfl]
    exact ⟨nu', forL_c rfl s e⟩
theorem block_of_ok {w a b : Int} {ns : List Int} {B : List Int} {t : Nat} (hns : (ns.map b8n).flatten = B ++ List.replicate t 0) (hl : B.length = (256 * a + b).toNat) (h0 : 0 ≤ 256 * a + b) (h6 : (256 : Int) ∉ ([w, a, b] ++ ns)) (hn : ns.length ≤ 1000) : F_block_of [IL false ([w, a, b] ++ ns)] = .ok (.node .tup false [.int w, IL true B]) := by
  let R := [w, a, b] ++ ns
  let r0 : Rho := [some (IL false R), none, none, none, none]
  have ln := VH.lenE_go (fa := cVar 0) (f := D.int) (xs := R) (k := .lst) (o := false) (x := .loc 0) (r := r0) (VL.cvar_loc rfl rfl) rfl rfl
  have hR : R.length = 3 + ns.length := by show ([w, a, b] ++ ns).length = _; rw [List.length_append]; rfl
  have t1 := lt_ok (fb := cC (.int 3)) (j := 3) ln rfl
  rw [decide_eq_false (by omega)] at t1
  have t2 := in_I (fa := cC (.int 256)) (fb := cVar 0) (z := 256) (o := false) (xs := R) (r := r0) rfl (VL.cvar_loc rfl rfl) rfl
  rw [decide_eq_false h6] at t2
  have i1 : cBin gIx (cVar 0) (cC (.int 1)) r0 = .ok (.val (.int a)) r0 := ixA_go (n := 1) (x := .loc 0) (k := .lst) (o := false) (xs := R.map .int) (VL.cvar_loc rfl rfl) rfl rfl rfl (VH.at_enc (f := D.int) (xs := R) (i := 1) (by rw [hR]; omega)) rfl
  have i2 : cBin gIx (cVar 0) (cC (.int 2)) r0 = .ok (.val (.int b)) r0 := ixA_go (n := 2) (x := .loc 0) (k := .lst) (o := false) (xs := R.map .int) (VL.cvar_loc rfl rfl) rfl rfl rfl (VH.at_enc (f := D.int) (xs := R) (i := 2) (by rw [hR]; omega)) rfl
  have m1 := add_ok (mul_ok (fa := cC (.int 256)) (i := 256) rfl i1 (VH.mulOk_l (by decide))) i2
  have s2 := VH.asg_go (i := 1) (set_val m1) (r2 := [some (IL false R), some (.int (256 * a + b)), none, none, none]) rfl
  have s3 : cAsg (.nm 2) (cLst cNil) [some (IL false R), some (.int (256 * a + b)), none, none, none] = .nx (F5 R (256 * a + b) [] none none) := VH.asg_go (set_val rfl) rfl
  have sl := sl_sn (fa := cVar 0) (fl := cC (.int 3)) (i := 3) (x := .loc 0) (k := .lst) (o := false) (xs := R.map .int) (xs' := R.map .int) (r := F5 R (256 * a + b) [] none none) (VL.cvar_loc rfl rfl) rfl rfl inferInstance rfl (VH.touch_l (o := false) (k := .lst) (ys := R.map .int) rfl inferInstance) (by decide)
  have e3 : (R.map D.int).drop (3 : Int).toNat = ns.map .int := rfl
  rw [e3] at sl
  obtain ⟨nu, lp⟩ := bo_loop R (256 * a + b) ns [] none (by show 0 + _ ≤ _; omega)
  rw [List.nil_append, hns] at lp
  have s4 := for_go (t := .nm 3) (it_lstG (k := .lst) (o := true) (set_val sl) rfl) lp
  let E := F5 R (256 * a + b) (B ++ List.replicate t 0) nu none
  have ln5 := VH.lenE_go (fa := cVar 2) (f := D.int) (xs := B ++ List.replicate t 0) (k := .lst) (o := true) (x := .loc 2) (r := E) (VL.cvar_loc rfl rfl) rfl rfl
  have t5 := gt_ok (fa := cVar 1) (i := 256 * a + b) (r := E) rfl ln5
  rw [decide_eq_false (by rw [List.length_append]; omega)] at t5
  have sl5 := sl_sn (fa := cVar 2) (fl := cVar 1) (i := 256 * a + b) (x := .loc 2) (k := .lst) (o := true) (xs := (B ++ List.replicate t 0).map .int) (xs' := (B ++ List.replicate t 0).map .int) (r := E) (VL.cvar_loc rfl rfl) rfl rfl inferInstance rfl (VH.touch_l (o := true) (k := .lst) (ys := (B ++ List.replicate t 0).map .int) rfl inferInstance) h0
  rw [← List.map_drop, ← hl, List.drop_left] at sl5
  have t6 := in_I (fa := cC (.int 1)) (z := 1) (o := true) (xs := List.replicate t 0) (r := E) rfl sl5 rfl
  rw [decide_eq_false (fun h => by cases (List.mem_replicate.mp h).2)] at t6
  have i0 : cBin gIx (cVar 0) (cC (.int 0)) E = .ok (.val (.int w)) E := ixA_go (n := 0) (x := .loc 0) (k := .lst) (o := false) (xs := R.map .int) (VL.cvar_loc rfl rfl) rfl rfl rfl (VH.at_enc (f := D.int) (xs := R) (i := 0) (by rw [hR]; omega)) rfl
  have sl6 := sl_ns (fa := cVar 2) (fh := cVar 1) (j := 256 * a + b) (x := .loc 2) (k := .lst) (o := true) (xs := (B ++ List.replicate t 0).map .int) (xs' := (B ++ List.replicate t 0).map .int) (r := E) (VL.cvar_loc rfl rfl) rfl rfl inferInstance rfl (VH.touch_l (o := true) (k := .lst) (ys := (B ++ List.replicate t 0).map .int) rfl inferInstance) h0
  rw [← List.map_take, ← hl, List.take_left] at sl6
  have tt := tup_ok (ds := [.int w, IL true B]) (cons_ok (set_val i0) (cons_ok (set_val sl6) (nil_ok _))) rfl (Nat.le_of_ble_eq_true rfl)
  unfold F_block_of f_block_of
  exact runF_go (r := r0) rfl (seq_go (VH.ifs_n (VH.or_go t1 t2) rfl rfl) (seq_go s2 (seq_go s3 (seq_go s4 (seq_go (VH.ifs_n (VH.or_go t5 t6) rfl rfl) (ret_go tt)))))) rfl
theorem byte_bits (g : Nat → Int) (h : ∀ p, g p = 0 ∨ g p = 1) : b8n ((List.range 8).foldl (fun n p => 2 * n + g p) 0) = (List.range 8).map g ∧ 0 ≤ (List.range 8).foldl (fun n p => 2 * n + g p) 0 ∧ (List.range 8).foldl (fun n p => 2 * n + g p) 0 ≤ 255 := by
  have e : (List.range 8).foldl (fun n p => 2 * n + g p) 0 = 2 * (2 * (2 * (2 * (2 * (2 * (2 * (2 * 0 + g 0) + g 1) + g 2) + g 3) + g 4) + g 5) + g 6) + g 7 := rfl
  rw [e]
  have key : ∀ N : Int, b8n N = [N / 128 % 2, N / 64 % 2, N / 32 % 2, N / 16 % 2, N / 8 % 2, N / 4 % 2, N / 2 % 2, N / 1 % 2] := fun N => rfl
  rw [key]
  have h0 := h 0; have h1 := h 1; have h2 := h 2; have h3 := h 3; have h4 := h 4; have h5 := h 5; have h6 := h 6; have h7 := h 7
  show [_, _, _, _, _, _, _, _] = [g 0, g 1, g 2, g 3, g 4, g 5, g 6, g 7] ∧ _ ∧ _
  generalize g 0 = a0 at *; generalize g 1 = a1 at *; generalize g 2 = a2 at *; generalize g 3 = a3 at *
  generalize g 4 = a4 at *; generalize g 5 = a5 at *; generalize g 6 = a6 at *; generalize g 7 = a7 at *
  refine ⟨?_, by omega, by omega⟩
  congr 1
  · omega
  congr 1
  · omega
  congr 1
  · omega
  congr 1
  · omega
  congr 1
  · omega
  congr 1
  · omega
  congr 1
  · omega
  congr 1
  omega

end K81.Lw

namespace K81.Sb
open K81
abbrev bk (bl : List Blk) (z : Nat) : Blk := bl.getD z (0, [])
def cellB (th : Nat → Bool) (bl : List Blk) (z : Nat) : D := if th z = true then enB false (bk bl z) else .non
def cellsB (th : Nat → Bool) (bl : List Blk) : List D := (List.range bl.length).map (cellB th bl)
abbrev CB (o : Bool) (th : Nat → Bool) (bl : List Blk) : D := .node .lst o (cellsB th bl)
abbrev CtB (sz tt : Nat) (th : Nat → Bool) (bl : List Blk) : D := .node .tup false [nt sz, nt tt, CB false th bl]
theorem cellsB_len (th : Nat → Bool) (bl : List Blk) : (cellsB th bl).length = bl.length := by unfold cellsB; rw [List.length_map, List.length_range]
theorem frz_cellB (th : Nat → Bool) (bl : List Blk) (z : Nat) : frz (cellB th bl z) = cellB th bl z := by
  unfold cellB
  by_cases h : th z = true
  · rw [if_pos h]; exact frz_enB _ _
  · rw [if_neg h]; rfl
theorem frzs_mapf {α : Type} (f : α → D) (h : ∀ z, frz (f z) = f z) : ∀ ks : List α, frzs (ks.map f) = ks.map f
  | [] => rfl
  | k :: ks => by
    show frz (f k) :: frzs (ks.map f) = _
    rw [h, frzs_mapf f h ks]
    rfl
theorem frzs_cellsB (th : Nat → Bool) (bl : List Blk) : frzs (cellsB th bl) = cellsB th bl := frzs_mapf _ (frz_cellB th bl) _
theorem frz_CtB (sz tt : Nat) (th : Nat → Bool) (bl : List Blk) : frz (CtB sz tt th bl) = CtB sz tt th bl := by
  show D.node .tup false [nt sz, nt tt, .node .lst false (frzs (cellsB th bl))] = _
  rw [frzs_cellsB]
theorem frzs_CtB (sz tt : Nat) (th : Nat → Bool) (bl : List Blk) : frzs [nt sz, nt tt, CB false th bl] = [nt sz, nt tt, CB false th bl] := by
  show [nt sz, nt tt, .node .lst false (frzs (cellsB th bl))] = _
  rw [frzs_cellsB]
theorem bk_good {bl : List Blk} (h : GoodBs bl) {z : Nat} (hz : z < bl.length) : GoodB (bk bl z) := by
  have e : bk bl z = bl[z] := by show bl.getD z _ = _; rw [List.getD_eq_getElem?_getD, List.getElem?_eq_getElem hz]; rfl
  rw [e]
  exact h _ (List.getElem_mem hz)
theorem need_containerN {sz tt : Nat} {bl : List Blk} (th : Nat → Bool) (h : GoodC sz tt bl) : F_need_container [CtB sz tt th bl] = .ok .non := by
  let r0 : Rho := [some (CtB sz tt th bl), some (nt sz), some (nt tt), some (CB false th bl), none]
  have s1 : cAsg (.tp [1, 2, 3]) (cVar 0) (startR 5 [CtB sz tt th bl]) = .nx r0 := by
    have e : cSet (cVar 0) (startR 5 [CtB sz tt th bl]) = .ok (.val (frz (CtB sz tt th bl))) [some (frz (CtB sz tt th bl)), none, none, none, none] := rfl
    rw [frz_CtB] at e
    rw [q_asg, e]
    rfl
  have e1 : cVar 1 r0 = .ok (.val (nt sz)) r0 := rfl
  have e2 : cVar 2 r0 = .ok (.val (nt tt)) r0 := rfl
  have c1 := chain_ok (f := fun i j => decide (i ≤ j)) (g := fun i j => decide (i ≤ j)) (cc 1 _) e1 (cc 64 _)
  have c2 := chain_ok (f := fun i j => decide (i ≤ j)) (g := fun i j => decide (i ≤ j)) (cc 0 _) e2 (cc 400 _)
  have := h.s1; have := h.s2; have := h.t1
  rw [decide_eq_true (show (1 : Int) ≤ (sz : Int) by omega), decide_eq_true (show (sz : Int) ≤ 64 by omega)] at c1
  rw [decide_eq_true (show (0 : Int) ≤ (tt : Int) by omega), decide_eq_true (show (tt : Int) ≤ 400 by omega)] at c2
  have le := len_at (r := r0) (i := 3) (k := .lst) (o := false) (xs := cellsB th bl) rfl (.inl rfl)
  rw [cellsB_len] at le
  have dv := div_ok (sub_ok (add_ok e2 e1) (cc 1 _)) e1 (by omega) (by omega)
  have ne := ne_ok le dv
  have eq3 : ((bl.length : Nat) : Int) = ((tt : Int) + (sz : Int) - 1) / (sz : Int) := by
    rw [h.b3, show (tt : Int) + (sz : Int) - 1 = ((tt + sz - 1 : Nat) : Int) by omega]
    rfl
  rw [show (!decide (((bl.length : Nat) : Int) = ((tt : Int) + (sz : Int) - 1) / (sz : Int))) = false by rw [decide_eq_true eq3]; rfl] at ne
  have s2 := guard_no (f := cRaise 2) (or_no (not_ok c1) (or_no (not_ok c2) ne))
  obtain ⟨y, e3⟩ := forL_look (v := 4) (f := cIfS (cAnd (cBin gIsNot (cVar 4) (cC .non)) (cBin gLt (cBin gIx (cVar 4) (cC (.int 0))) (cC (.int 0)))) (cRaise 2) cSkip) (r0 := r0) (cellsB th bl) (fun d hd => by
    obtain ⟨z, hz, rfl⟩ := List.mem_map.mp hd
    unfold cellB
    by_cases ht : th z = true
    · rw [if_pos ht]
      have hb := bk_good h.g (List.mem_range.mp hz)
      generalize bk bl z = b at hb
      have g1 : cBin gIsNot (cVar 4) (cC .non) (r0.set 4 (some (enB false b))) = .ok (.val (.bl true)) (r0.set 4 (some (enB false b))) := rfl
      have ix := bin_ok (cvar_loc (r := r0.set 4 (some (enB false b))) (i := 4) rfl rfl) (cc 0 _) (ix_tup (i := 4) (o := false) (xs := [.int b.1, I false b.2]) (d := .int b.1) rfl (by show [D.int b.1, frz (I false b.2)] = _; rw [frz_I]) rfl rfl)
      have g2 := lt_ok ix (cc 0 _)
      rw [decide_eq_false (by have := hb.lo; omega)] at g2
      exact guard_no (and_yes g1 g2)
    · rw [if_neg ht]; rfl) none
  have it := it_lst (r := r0) (i := 3) (o := false) rfl (frzs_cellsB th bl)
  exact runF_nx (r := r0.set 4 y) ((seq_nx s1).trans ((seq_nx s2).trans (for_ok it e3)))
theorem need_blocksN {sz tt : Nat} {bl : List Blk} (th : Nat → Bool) (h : GoodC sz tt bl) : F_need_blocks [CtB sz tt th bl] = .ok .non := by
  have s1 : cExpr (cCall 1 F_need_container (cCons (cVar 0) cNil)) (startR 3 [CtB sz tt th bl]) = .nx (startR 3 [CtB sz tt th bl]) := by
    rw [q_expr, call1 (F := F_need_container) (r1 := startR 3 [CtB sz tt th bl]) (d := .non) (cvar_loc (i := 0) (d := CtB sz tt th bl) rfl rfl) rfl (by rw [frz_CtB]; exact need_containerN th h) rfl]
    rfl
  have ix := bin_ok (cvar_loc (r := startR 3 [CtB sz tt th bl]) (i := 0) rfl rfl) (cc 2 _) (ix_tup (i := 0) (o := false) (xs := [nt sz, nt tt, CB false th bl]) (d := CB false th bl) rfl (frzs_CtB sz tt th bl) rfl (by show D.node .lst false (frzs (cellsB th bl)) = _; rw [frzs_cellsB]))
  let r0 : Rho := [some (CtB sz tt th bl), some (CB false th bl), none]
  have s2 : cAsg (.nm 1) (cBin gIx (cVar 0) (cC (.int 2))) (startR 3 [CtB sz tt th bl]) = .nx r0 := asg_ok (i := 1) ix
  have le := len_at (r := r0) (i := 1) (k := .lst) (o := false) (xs := cellsB th bl) rfl (.inl rfl)
  rw [cellsB_len] at le
  have c1 := chain_ok (f := fun i j => decide (i ≤ j)) (g := fun i j => decide (i ≤ j)) (cc 1 _) le (cc 64 _)
  have := h.b1; have := h.b2
  rw [decide_eq_true (show (1 : Int) ≤ (bl.length : Int) by omega), decide_eq_true (show (bl.length : Int) ≤ 64 by omega)] at c1
  have s3 := guard_no (f := cRaise 1) (not_ok c1)
  obtain ⟨y, e4⟩ := forL_look (v := 2) (f := cIfS (cBin gIsNot (cVar 2) (cC .non)) (cExpr (cCall 1 F_need_block (cCons (cVar 2) cNil))) cSkip) (r0 := r0) (cellsB th bl) (fun d hd => by
    obtain ⟨z, hz, rfl⟩ := List.mem_map.mp hd
    unfold cellB
    by_cases ht : th z = true
    · rw [if_pos ht]
      have hb := bk_good h.g (List.mem_range.mp hz)
      generalize bk bl z = b at hb
      have g1 : cBin gIsNot (cVar 2) (cC .non) (r0.set 2 (some (enB false b))) = .ok (.val (.bl true)) (r0.set 2 (some (enB false b))) := rfl
      refine ifs_yes g1 ?_
      show cExpr (cCall 1 F_need_block (cCons (cVar 2) cNil)) (r0.set 2 (some (enB false b))) = .nx (r0.set 2 (some (enB false b)))
      rw [q_expr, call1 (F := F_need_block) (r1 := r0.set 2 (some (enB false b))) (d := .non) (cvar_loc (i := 2) (d := enB false b) rfl rfl) rfl (by rw [frz_enB]; exact need_block_ok b hb) rfl]
      rfl
    · rw [if_neg ht]; rfl) none
  have it := it_lst (r := r0) (i := 1) (o := false) rfl (frzs_cellsB th bl)
  exact runF_nx (r := r0.set 2 y) ((seq_nx s1).trans ((seq_nx s2).trans ((seq_nx s3).trans (for_ok it e4))))
abbrev wd (bl : List Blk) : Nat := mx (lens (bl.map rowOf))
def Y0 (bl : List Blk) (z : Nat) : List Int := if z < bl.length then rowOf (bk bl z) else Sl.spare (slab bl) (wd bl) (z : Int)
abbrev SpB (th : Nat → Bool) (bl : List Blk) (r : Nat) : D := .node .lst false ((List.range' bl.length r).map (Sl.cell false th (Y0 bl)))
theorem cells_two (o : Bool) (th : Nat → Bool) (Y : Nat → List Int) (k r : Nat) : Sl.cells o th Y k ++ (List.range' k r).map (Sl.cell o th Y) = Sl.cells o th Y (k + r) := by
  unfold Sl.cells
  rw [← List.map_append, List.range_eq_range', List.range_eq_range', show List.range' k r = List.range' (0 + k) r by rw [Nat.zero_add], List.range'_append_1]
theorem frzs_spB (th : Nat → Bool) (Y : Nat → List Int) (k r : Nat) : frzs ((List.range' k r).map (Sl.cell false th Y)) = (List.range' k r).map (Sl.cell false th Y) := frzs_mapf _ (fun z => Sl.frz_cell false th Y z) _
abbrev Mw (C S : D) (sz tt : Nat) (Bs : D) (a5 a6 a7 a8 a9 a10 a11 : Option D) : Rho := [some C, some S, some (nt sz), some (nt tt), some Bs, a5, a6, a7, a8, a9, a10, a11]
abbrev Md (sz tt : Nat) (th : Nat → Bool) (bl : List Blk) (r : Nat) (a5 a6 a7 a8 a9 a10 a11 : Option D) : Rho := Mw (CtB sz tt th bl) (SpB th bl r) sz tt (CB false th bl) a5 a6 a7 a8 a9 a10 a11
noncomputable abbrev mA : Sv := cAsg (.nm 5) (cLc [10] (.nm 10) (iLst (cVar 4)) none (cIfE (cBin gIs (cVar 10) (cC .non)) (cC .non) (cCall 1 F_short_row (cCons (cVar 10) cNil))))
noncomputable abbrev mB : Sv := cAsg (.nm 6) (cLc [11] (.nm 11) (iLst (cBin gAdd (cVar 5) (cB (gListOf) (cCons (cVar 1) cNil)))) (some (cBin gIsNot (cVar 11) (cC .non))) (cVar 11))
noncomputable abbrev mC : Sv := cAsg (.nm 7) (cB (b1 (maxDefD 0)) (cCons (cLc [11] (.nm 11) (iLst (cVar 6)) none (cB (b1 lenD) (cCons (cVar 11) cNil))) cNil))
noncomputable abbrev mD : Sv := cAsg (.nm 5) (cLc [11] (.nm 11) (iLst (cVar 5)) none (cIfE (cBin gIs (cVar 11) (cC .non)) (cC .non) (cBin gAdd (cVar 11) (cBin gMul (cLst (cCons (cSet (cC (.int 0))) cNil)) (cBin gSub (cVar 7) (cB (b1 lenD) (cCons (cVar 11) cNil)))))))
theorem mA_ok {sz tt : Nat} {bl : List Blk} (th : Nat → Bool) (h : GoodC sz tt bl) (r : Nat) : mA (Md sz tt th bl r none none none none none none none) = .nx (Md sz tt th bl r (some (Sl.Ce true true th (Y0 bl) bl.length)) none none none none none none) := by
  have it := it_lst (r := Md sz tt th bl r none none none none none none none) (i := 4) (o := false) rfl (frzs_cellsB th bl)
  have hb2 := h.b2
  have l1 := lc_all (α := Nat) (enc := cellB th bl) (g := Sl.cell true th (Y0 bl)) (fe := cIfE (cBin gIs (cVar 10) (cC .non)) (cC .non) (cCall 1 F_short_row (cCons (cVar 10) cNil))) (t := .nm 10) (vs := [10]) (r0 := Md sz tt th bl r none none none none none none none) (List.range bl.length) it rfl (by rw [List.length_range]; omega) (fun z hz => by
    have hz := List.mem_range.mp hz
    refine ⟨Md sz tt th bl r none none none none none (some (cellB th bl z)) none, rfl, Md sz tt th bl r none none none none none (some (cellB th bl z)) none, ?_, rfl⟩
    unfold cellB Sl.cell Y0
    rw [if_pos hz]
    by_cases ht : th z = true
    · rw [if_pos ht, if_pos ht]
      have hb := bk_good h.g hz
      generalize bk bl z = b at hb
      exact set_val (VH.ife_go (b := false) rfl (call1 (F := F_short_row) (cvar_loc (i := 10) (d := enB false b) rfl rfl) rfl (by rw [frz_enB]; exact srow_ok b hb) (noL_lints _)))
    · rw [if_neg ht, if_neg ht]
      exact set_val (VH.ife_go (b := true) rfl rfl))
  exact asg_ok (i := 5) l1
theorem mB_ok {sz tt : Nat} {bl : List Blk} (th : Nat → Bool) (h : GoodC sz tt bl) (r : Nat) (hr : r ≤ 16) : mB (Md sz tt th bl r (some (Sl.Ce true true th (Y0 bl) bl.length)) none none none none none none) = .nx (Md sz tt th bl r (some (Sl.Ce true false th (Y0 bl) bl.length)) (some (M true false (((List.range (bl.length + r)).filter th).map (Y0 bl)))) none none none none none) := by
  have hb2 := h.b2
  let r1 : Rho := Md sz tt th bl r (some (Sl.Ce true true th (Y0 bl) bl.length)) none none none none none none
  let r2 : Rho := Md sz tt th bl r (some (Sl.Ce true false th (Y0 bl) bl.length)) none none none none none none
  have lo : cB (gListOf) (cCons (cVar 1) cNil) r1 = .ok (.val (.node .lst true ((List.range' bl.length r).map (Sl.cell false th (Y0 bl))))) r1 := VH.listOf_go (fa := cVar 1) (x := .loc 1) (k := .lst) (o := false) (cvar_loc rfl rfl) rfl rfl ⟨frzs_spB th (Y0 bl) _ _⟩ (VH.touch_l (k := .lst) (o := false) rfl ⟨frzs_spB th (Y0 bl) _ _⟩)
  have ad : cBin gAdd (cVar 5) (cB (gListOf) (cCons (cVar 1) cNil)) r1 = .ok (.val (.node .lst true (Sl.cells false th (Y0 bl) (bl.length + r)))) r2 := by
    refine bin_ok (cvar_loc (r := r1) (i := 5) rfl rfl) lo ?_
    rw [q_addL (r := r1) (x := .loc 5) (y := .val (.node .lst true ((List.range' bl.length r).map (Sl.cell false th (Y0 bl))))) (o := true) (o' := true) (xs := Sl.cells true th (Y0 bl) bl.length) (ys := (List.range' bl.length r).map (Sl.cell false th (Y0 bl))) rfl rfl (by rw [Sl.cells_len, List.length_map, List.length_range']; omega), frzs_spB, Sl.frzs_cells, cells_two]
    congr 1
    show touch r1 (.loc 5) = r2
    rw [touch_loc (d := Sl.Ce true true th (Y0 bl) bl.length) rfl]
    show r1.set 5 (some (.node .lst true (frzs (Sl.cells true th (Y0 bl) bl.length)))) = r2
    rw [Sl.frzs_cells]
    rfl
  have it := VH.it_lstG (k := .lst) (o := true) (set_val ad) rfl
  have lc := lc_map (t := .nm 11) (fc := some (cBin gIsNot (cVar 11) (cC .non))) (fe := cVar 11) (vs := [11]) (ds := Sl.cells false th (Y0 bl) (bl.length + r)) (p := Sl.isR) (q := id) (r0 := r2) it rfl (by rw [Sl.cells_len]; omega) fun d hd => by
    obtain ⟨z, _, rfl⟩ := List.mem_map.mp hd
    unfold Sl.cell
    by_cases hz : th z = true
    · rw [if_pos hz]
      exact ⟨_, rfl, _, rfl, rfl, fun _ => ⟨_, set_loc (r := r2.set 11 (some (I false (Y0 bl z)))) (i := 11) (o := false) rfl (frzs_ints _), rfl⟩⟩
    · rw [if_neg hz]
      exact ⟨_, rfl, _, rfl, rfl, fun h => nomatch h⟩
  have ef : ((Sl.cells false th (Y0 bl) (bl.length + r)).filter Sl.isR).map id = (((List.range (bl.length + r)).filter th).map (Y0 bl)).map (I false) := by
    unfold Sl.cells
    rw [Sl.filt_cells, List.map_map]
    rfl
  rw [ef] at lc
  exact asg_ok (i := 6) lc
theorem maxDef_mx (ks : List Nat) : maxDef 0 (ks.map fun x => ((x : Nat) : Int)) = ((mx ks : Nat) : Int) := by
  cases ks with
  | nil => rfl
  | cons k ks =>
    show (ks.map fun x => ((x : Nat) : Int)).foldl max (k : Int) = _
    rw [mx_foldl]
    rfl
theorem mC_ok {sz tt : Nat} {bl : List Blk} (th : Nat → Bool) (r : Nat) (a5 : Option D) (rows : List (List Int)) (hl : rows.length ≤ 1000) : mC (Md sz tt th bl r a5 (some (M true false rows)) none none none none none) = .nx (Md sz tt th bl r a5 (some (M false false rows)) (some (nt (mx (lens rows)))) none none none none) := by
  have it1 := it_fz (r := Md sz tt th bl r a5 (some (M true false rows)) none none none none none) (i := 6) rfl
  rw [frzs_M] at it1
  let r0 := Md sz tt th bl r a5 (some (M false false rows)) none none none none none
  have l1 := lc_all (α := List Int) (enc := I false) (g := fun row => nt row.length) (fe := cB (b1 lenD) (cCons (cVar 11) cNil)) (t := .nm 11) (vs := [11]) (r0 := r0) rows it1 rfl (by omega) (fun row _ => ⟨r0.set 11 (some (I false row)), rfl, r0.set 11 (some (I false row)), set_val (len_I (i := 11) (o := false) (xs := row) rfl), rfl⟩)
  have e1 : rows.map (fun row => nt row.length) = ((lens rows).map fun x => ((x : Nat) : Int)).map D.int := by rw [lens, List.map_map, List.map_map]; rfl
  rw [e1] at l1
  have m1 := maxDef_ok (z := 0) l1 rfl
  rw [maxDef_mx] at m1
  exact asg_ok (i := 7) m1
def Y1 (th : Nat → Bool) (bl : List Blk) (v z : Nat) : List Int := if th z = true then pad v (Y0 bl z) else List.replicate v 0
theorem mD_ok {sz tt : Nat} {bl : List Blk} (th : Nat → Bool) (h : GoodC sz tt bl) (r : Nat) (a6 : Option D) (v : Nat) (hv : v ≤ 1000) (hw : ∀ z < bl.length, th z = true → (Y0 bl z).length ≤ v) : mD (Md sz tt th bl r (some (Sl.Ce true false th (Y0 bl) bl.length)) a6 (some (nt v)) none none none none) = .nx (Md sz tt th bl r (some (Sl.Ce true true th (Y1 th bl v) bl.length)) a6 (some (nt v)) none none none none) := by
  have hb2 := h.b2
  have it := it_fz (r := Md sz tt th bl r (some (Sl.Ce true false th (Y0 bl) bl.length)) a6 (some (nt v)) none none none none) (i := 5) rfl
  rw [Sl.frzs_cells] at it
  let r0 := Md sz tt th bl r (some (Sl.Ce false false th (Y0 bl) bl.length)) a6 (some (nt v)) none none none none
  have l2 := lc_all (α := Nat) (enc := Sl.cell false th (Y0 bl)) (g := Sl.cell true th (Y1 th bl v)) (fe := cIfE (cBin gIs (cVar 11) (cC .non)) (cC .non) (cBin gAdd (cVar 11) (cBin gMul (cLst (cCons (cSet (cC (.int 0))) cNil)) (cBin VL.gSub (cVar 7) (cB (b1 lenD) (cCons (cVar 11) cNil)))))) (t := .nm 11) (vs := [11]) (r0 := r0) (List.range bl.length) it rfl (by rw [List.length_range]; omega) (fun z hz => by
    have hz := List.mem_range.mp hz
    refine ⟨r0.set 11 (some (Sl.cell false th (Y0 bl) z)), rfl, r0.set 11 (some (Sl.cell false th (Y0 bl) z)), ?_, rfl⟩
    unfold Sl.cell Y1
    by_cases ht : th z = true
    · have hle := hw z hz ht
      rw [if_pos ht, if_pos ht, if_pos ht]
      generalize Y0 bl z = row at hle
      have sb := sub_nt (cvar_at (r := r0.set 11 (some (I false row))) (i := 7) (d := nt v) rfl rfl) (len_I (i := 11) (o := false) (xs := row) rfl) hle
      have ml : cBin gMul (cLst (cCons (cSet (cC (.int 0))) cNil)) (cBin VL.gSub (cVar 7) (cB (b1 lenD) (cCons (cVar 11) cNil))) (r0.set 11 (some (I false row))) = .ok (.val (I true (List.replicate (v - row.length) 0))) (r0.set 11 (some (I false row))) := by
        refine bin_ok (show cLst (cCons (cSet (cC (.int 0))) cNil) (r0.set 11 (some (I false row))) = .ok (.val (I true [0])) _ from rfl) sb ?_
        have e := q_mulLI (r := r0.set 11 (some (I false row))) (o := true) [0] (k := ((v - row.length : Nat) : Int)) ⟨by omega, by omega, by simp; omega⟩
        rw [Int.toNat_natCast] at e
        rw [show (List.replicate (v - row.length) (0 : Int)) = (List.replicate (v - row.length) [(0 : Int)]).flatten by simp]
        exact e
      have ad : cBin gAdd (cVar 11) (cBin gMul (cLst (cCons (cSet (cC (.int 0))) cNil)) (cBin VL.gSub (cVar 7) (cB (b1 lenD) (cCons (cVar 11) cNil)))) (r0.set 11 (some (I false row))) = .ok (.val (I true (pad v row))) (r0.set 11 (some (I false row))) := by
        have e := bin_ok (cvar_loc (r := r0.set 11 (some (I false row))) (i := 11) rfl rfl) ml (add_fz (o := false) (o' := true) (xs := row.map .int) (ys := (List.replicate (v - row.length) (0 : Int)).map .int) (opd_loc' (i := 11) rfl) rfl (frzs_ints _) (frzs_ints _) (by rw [List.length_map, List.length_map, List.length_replicate]; omega) (touch_fz (i := 11) rfl (frzs_ints _)) rfl)
        rw [← List.map_append] at e
        exact e
      exact set_val (VH.ife_go (b := false) rfl ad)
    · rw [if_neg ht, if_neg ht]
      exact set_val (VH.ife_go (b := true) rfl rfl))
  exact asg_ok (i := 5) l2

end K81.Sb

namespace K81.Sb
open K81
theorem flat8 (f : Nat → Int) : ∀ m, ((List.range m).map fun k => (List.range 8).map fun p => f (8 * k + p)).flatten = (List.range (8 * m)).map f
  | 0 => rfl
  | m + 1 => by
    rw [List.range_succ (n := m), List.map_append, List.flatten_append, flat8 f m, show 8 * (m + 1) = 8 * m + 8 by omega, List.range_add, List.map_append, List.map_map]
    show _ ++ ([(List.range 8).map fun p => f (8 * m + p)].flatten) = _
    rw [List.flatten_singleton]
    rfl
theorem getD_pad (bs : List Int) (t : Nat) : (List.range (bs.length + t)).map (fun i => bs.getD i 0) = bs ++ List.replicate t 0 := by
  refine List.ext_getElem (by rw [List.length_map, List.length_range, List.length_append, List.length_replicate]) fun i h1 h2 => ?_
  rw [List.getElem_map, List.getElem_range]
  by_cases h : i < bs.length
  · rw [List.getElem_append_left h, List.getD_eq_getElem?_getD, List.getElem?_eq_getElem h]; rfl
  · rw [List.getElem_append_right (by omega), List.getElem_replicate, List.getD_eq_getElem?_getD, List.getElem?_eq_none (by omega)]; rfl
theorem bit_at {bs : List Int} (h : Bits bs) (i : Nat) : bs.getD i 0 = 0 ∨ bs.getD i 0 = 1 := by
  rw [List.getD_eq_getElem?_getD]
  by_cases hi : i < bs.length
  · rw [List.getElem?_eq_getElem hi]; exact h _ (List.getElem_mem hi)
  · rw [List.getElem?_eq_none (by omega)]; exact .inl rfl
theorem bytes_bits {bs : List Int} (h : Bits bs) : ((bytes bs).map Lw.b8n).flatten = bs ++ List.replicate (8 * ((bs.length + 7) / 8) - bs.length) 0 := by
  unfold bytes
  rw [List.map_map]
  have e : (Lw.b8n ∘ fun k => byte bs (8 * k)) = fun k => (List.range 8).map fun p => bs.getD (8 * k + p) 0 := funext fun k => (Lw.byte_bits (fun p => bs.getD (8 * k + p) 0) fun p => bit_at h _).1
  rw [e, flat8 (fun i => bs.getD i 0), ← getD_pad, show bs.length + (8 * ((bs.length + 7) / 8) - bs.length) = 8 * ((bs.length + 7) / 8) by omega]
theorem byte_lo {bs : List Int} (h : Bits bs) {x : Int} (hx : x ∈ bytes bs) : 0 ≤ x ∧ x ≤ 255 := by
  obtain ⟨k, _, rfl⟩ := List.mem_map.mp hx
  exact (Lw.byte_bits (fun p => bs.getD (8 * k + p) 0) fun p => bit_at h _).2
theorem zeros8 (t : Nat) : ((List.replicate t (0 : Int)).map Lw.b8n).flatten = List.replicate (8 * t) 0 := by
  induction t with
  | zero => rfl
  | succ t ih =>
    rw [List.replicate_succ, List.map_cons, List.flatten_cons, ih, show Lw.b8n 0 = List.replicate 8 0 by decide, List.replicate_append_replicate, show 8 + 8 * t = 8 * (t + 1) by omega]
theorem row_lo {b : Blk} (h : GoodB b) {x : Int} (hx : x ∈ rowOf b) : 0 ≤ x ∧ x ≤ 255 := by
  have := h.lo; have := h.hi; have := h.len
  rcases List.mem_append.mp hx with h1 | h1
  · rcases List.mem_cons.mp h1 with e | h1
    · omega
    rcases List.mem_cons.mp h1 with e | h1
    · omega
    rcases List.mem_cons.mp h1 with e | h1
    · omega
    cases h1
  · exact byte_lo h.bits h1
theorem pad_lo {b : Blk} (h : GoodB b) {w : Nat} {x : Int} (hx : x ∈ pad w (rowOf b)) : 0 ≤ x ∧ x ≤ 255 := by
  rcases List.mem_append.mp hx with h1 | h1
  · exact row_lo h h1
  · rw [(List.mem_replicate.mp h1).2]; decide
theorem block_back {b : Blk} (h : GoodB b) {w : Nat} (hw : w ≤ 900) : F_block_of [I false (pad w (rowOf b))] = .ok (enB true b) := by
  have e : pad w (rowOf b) = [b.1, ((b.2.length / 256 : Nat) : Int), ((b.2.length % 256 : Nat) : Int)] ++ (bytes b.2 ++ List.replicate (w - (rowOf b).length) 0) := by
    show rowOf b ++ _ = _
    unfold rowOf
    rw [List.append_assoc]
  have h6 : (256 : Int) ∉ pad w (rowOf b) := fun hx => by have := pad_lo h hx; omega
  rw [e] at h6 ⊢
  have hl := h.len
  have bl : (bytes b.2).length = (b.2.length + 7) / 8 := by unfold bytes; rw [List.length_map, List.length_range]
  refine Lw.block_of_ok (B := b.2) (t := (8 * ((b.2.length + 7) / 8) - b.2.length) + 8 * (w - (rowOf b).length)) ?_ ?_ ?_ h6 ?_
  · rw [List.map_append, List.flatten_append, bytes_bits h.bits, zeros8, List.append_assoc, List.replicate_append_replicate]
  · omega
  · omega
  · rw [List.length_append, List.length_replicate, bl]; omega
abbrev thr (th : Nat → Bool) (bl : List Blk) (r : Nat) : List (List Int) := ((List.range (bl.length + r)).filter th).map (Y0 bl)
abbrev wv (th : Nat → Bool) (bl : List Blk) (r : Nat) : Nat := mx (lens (thr th bl r))
theorem Y0_le {bl : List Blk} (z : Nat) : (Y0 bl z).length ≤ wd bl := by
  unfold Y0
  by_cases h : z < bl.length
  · rw [if_pos h]
    refine le_mx (List.mem_map.mpr ⟨rowOf (bk bl z), List.mem_map.mpr ⟨bk bl z, ?_, rfl⟩, rfl⟩)
    show bl.getD z _ ∈ bl
    rw [List.getD_eq_getElem?_getD, List.getElem?_eq_getElem h]
    exact List.getElem_mem h
  · rw [if_neg h]
    unfold Sl.spare
    rw [List.length_map, List.length_range]
    exact Nat.le_refl _
theorem Y0_sp {bl : List Blk} {z : Nat} (h : bl.length ≤ z) : (Y0 bl z).length = wd bl := by
  unfold Y0
  rw [if_neg (by omega)]
  unfold Sl.spare
  rw [List.length_map, List.length_range]
theorem wv_le (th : Nat → Bool) (bl : List Blk) (r : Nat) : wv th bl r ≤ wd bl := mx_le fun x hx => by
  obtain ⟨row, h1, rfl⟩ := List.mem_map.mp hx
  obtain ⟨z, _, rfl⟩ := List.mem_map.mp h1
  exact Y0_le z
theorem le_wv {th : Nat → Bool} {bl : List Blk} {r z : Nat} (hz : z < bl.length + r) (ht : th z = true) : (Y0 bl z).length ≤ wv th bl r := le_mx (List.mem_map_of_mem (List.mem_map_of_mem (List.mem_filter.mpr ⟨List.mem_range.mpr hz, ht⟩)))
theorem sp_wv {th : Nat → Bool} {bl : List Blk} {r z : Nat} (h : bl.length ≤ z) (hz : z < bl.length + r) (ht : th z = true) : (Y0 bl z).length = wv th bl r := by
  have h1 := le_wv hz ht
  have h2 := wv_le th bl r
  rw [Y0_sp h] at h1 ⊢
  omega
theorem wv_eq {th : Nat → Bool} {bl : List Blk} {r : Nat} (hfw : bl.length + Sl.gone th (bl.length + r) ≤ bl.length + r) : wv th bl r = wd bl := by
  by_cases hex : ∃ z, bl.length ≤ z ∧ z < bl.length + r ∧ th z = true
  · obtain ⟨z, h1, h2, h3⟩ := hex
    rw [← sp_wv h1 h2 h3, Y0_sp h1]
  · have hgf := Sl.gone_filter th (bl.length + r)
    have e2 : ((List.range r).map (bl.length + ·)).filter th = [] := List.filter_eq_nil_iff.mpr fun z hz ht => by
      obtain ⟨j, hj, rfl⟩ := List.mem_map.mp hz
      have := List.mem_range.mp hj
      exact hex ⟨bl.length + j, by omega, by omega, ht⟩
    rw [List.range_add, List.filter_append, e2, List.append_nil] at hgf
    have le := List.length_filter_le th (List.range bl.length)
    rw [List.length_range] at le
    have all := List.length_filter_eq_length_iff.mp (show ((List.range bl.length).filter th).length = (List.range bl.length).length by rw [List.length_range]; omega)
    refine Nat.le_antisymm (wv_le th bl r) (mx_le fun x hx => ?_)
    obtain ⟨row, h1, rfl⟩ := List.mem_map.mp hx
    obtain ⟨b, hb, rfl⟩ := List.mem_map.mp h1
    obtain ⟨z, hz, rfl⟩ := List.getElem_of_mem hb
    have := le_wv (th := th) (bl := bl) (r := r) (z := z) (by omega) (all z (List.mem_range.mpr hz))
    unfold Y0 at this
    rw [if_pos hz] at this
    have e : bk bl z = bl[z] := by show bl.getD z _ = _; rw [List.getD_eq_getElem?_getD, List.getElem?_eq_getElem hz]; rfl
    rw [e] at this
    exact this
theorem wd_lt {bl : List Blk} (h : GoodBs bl) : wd bl ≤ 100 := mx_le fun x hx => by
  obtain ⟨row, h1, rfl⟩ := List.mem_map.mp hx
  obtain ⟨b, hb, rfl⟩ := List.mem_map.mp h1
  exact Nat.le_of_lt (rowOf_len b (h b hb))
theorem Y0_lo {bl : List Blk} (h : GoodBs bl) (z : Nat) : ∀ x ∈ Y0 bl z, 0 ≤ x ∧ x < 257 := fun x hx => by
  unfold Y0 at hx
  by_cases hz : z < bl.length
  · rw [if_pos hz] at hx
    have := row_lo (bk_good h hz) hx
    omega
  · rw [if_neg hz] at hx
    obtain ⟨c, _, rfl⟩ := List.mem_map.mp hx
    show 0 ≤ _ % 257 ∧ _ % 257 < 257
    omega
theorem pad_len {w : Nat} {row : List Int} (h : row.length ≤ w) : (pad w row).length = w := by
  unfold pad
  rw [List.length_append, List.length_replicate]
  omega
theorem Y1_good {sz tt : Nat} {bl : List Blk} (th : Nat → Bool) (h : GoodC sz tt bl) {r : Nat} (hr : r ≤ 16) : Sl.Good th (Y1 th bl (wv th bl r)) (bl.length + r) bl.length (wv th bl r) where
  k1 := h.b1
  k2 := h.b2
  n1 := by omega
  n2 := by omega
  w1 := by have := wv_le th bl r; have := wd_lt h.g; omega
  wide := fun z hz => by
    unfold Y1
    by_cases ht : th z = true
    · rw [if_pos ht]; exact pad_len (le_wv hz ht)
    · rw [if_neg ht]; exact List.length_replicate
  lo := fun z hz x hx => by
    unfold Y1 at hx
    by_cases ht : th z = true
    · rw [if_pos ht] at hx
      rcases List.mem_append.mp hx with h1 | h1
      · exact Y0_lo h.g z x h1
      · rw [(List.mem_replicate.mp h1).2]; decide
    · rw [if_neg ht] at hx
      rw [(List.mem_replicate.mp hx).2]; decide
theorem cell_Y1 {o : Bool} {th : Nat → Bool} {bl : List Blk} {r z : Nat} (h : bl.length ≤ z) (hz : z < bl.length + r) : Sl.cell o th (Y1 th bl (wv th bl r)) z = Sl.cell o th (Y0 bl) z := by
  unfold Sl.cell Y1
  by_cases ht : th z = true
  · rw [if_pos ht, if_pos ht, if_pos ht]
    unfold pad
    rw [sp_wv h hz ht, Nat.sub_self, List.replicate_zero, List.append_nil]
  · rw [if_neg ht, if_neg ht]
theorem cells_join (th : Nat → Bool) (bl : List Blk) (r : Nat) : Sl.cells false th (Y1 th bl (wv th bl r)) bl.length ++ (List.range' bl.length r).map (Sl.cell false th (Y0 bl)) = Sl.cells false th (Y1 th bl (wv th bl r)) (bl.length + r) := by
  rw [← cells_two]
  congr 1
  refine List.map_congr_left fun z hz => ?_
  obtain ⟨i, hi, rfl⟩ := List.mem_range'.mp hz
  exact (cell_Y1 (by omega) (by omega)).symm

end K81.Sb

namespace K81.Sb
open K81
noncomputable abbrev argE : Ev := cBin gAdd (cVar 5) (cB (gListOf) (cCons (cVar 1) cNil))
noncomputable abbrev callE : Ev := cCall 2 F_mend_rows (cCons argE (cCons (cB (b1 lenD) (cCons (cVar 4) cNil)) cNil))
noncomputable abbrev mE : Sv := cAsg (.nm 8) (cSl callE none (some (cB (b1 lenD) (cCons (cVar 4) cNil))))
noncomputable abbrev mF : Sv := cAsg (.nm 9) (cTup (cCons (cSet (cVar 2)) (cCons (cSet (cVar 3)) (cCons (cSet (cLc [11] (.nm 11) (iLst (cVar 8)) none (cCall 1 F_block_of (cCons (cVar 11) cNil)))) cNil))))
theorem arg_ok {sz tt : Nat} {bl : List Blk} (th : Nat → Bool) (h : GoodC sz tt bl) (r : Nat) (hr : r ≤ 16) (a6 a7 : Option D) : argE (Md sz tt th bl r (some (Sl.Ce true true th (Y1 th bl (wv th bl r)) bl.length)) a6 a7 none none none none) = .ok (.val (.node .lst true (Sl.cells false th (Y1 th bl (wv th bl r)) (bl.length + r)))) (Md sz tt th bl r (some (Sl.Ce true false th (Y1 th bl (wv th bl r)) bl.length)) a6 a7 none none none none) := by
  have hb2 := h.b2
  have cj := cells_join th bl r
  generalize Y1 th bl (wv th bl r) = Y at cj
  let r1 : Rho := Md sz tt th bl r (some (Sl.Ce true true th Y bl.length)) a6 a7 none none none none
  let r2 : Rho := Md sz tt th bl r (some (Sl.Ce true false th Y bl.length)) a6 a7 none none none none
  have lo : cB (gListOf) (cCons (cVar 1) cNil) r1 = .ok (.val (.node .lst true ((List.range' bl.length r).map (Sl.cell false th (Y0 bl))))) r1 := VH.listOf_go (fa := cVar 1) (x := .loc 1) (k := .lst) (o := false) (cvar_loc rfl rfl) rfl rfl ⟨frzs_spB th (Y0 bl) _ _⟩ (VH.touch_l (k := .lst) (o := false) rfl ⟨frzs_spB th (Y0 bl) _ _⟩)
  refine bin_ok (cvar_loc (r := r1) (i := 5) rfl rfl) lo ?_
  rw [q_addL (r := r1) (x := .loc 5) (y := .val (.node .lst true ((List.range' bl.length r).map (Sl.cell false th (Y0 bl))))) (o := true) (o' := true) (xs := Sl.cells true th Y bl.length) (ys := (List.range' bl.length r).map (Sl.cell false th (Y0 bl))) rfl rfl (by rw [Sl.cells_len, List.length_map, List.length_range']; omega), frzs_spB, Sl.frzs_cells, cj]
  congr 1
  show touch r1 (.loc 5) = r2
  rw [touch_loc (d := Sl.Ce true true th Y bl.length) rfl]
  show r1.set 5 (some (.node .lst true (frzs (Sl.cells true th Y bl.length)))) = r2
  rw [Sl.frzs_cells]
  rfl
theorem len4 (sz tt : Nat) (th : Nat → Bool) (bl : List Blk) (r : Nat) (a5 a6 a7 a8 a9 a10 a11 : Option D) : cB (b1 lenD) (cCons (cVar 4) cNil) (Md sz tt th bl r a5 a6 a7 a8 a9 a10 a11) = .ok (.val (nt bl.length)) (Md sz tt th bl r a5 a6 a7 a8 a9 a10 a11) := by
  have le := len_at (r := Md sz tt th bl r a5 a6 a7 a8 a9 a10 a11) (i := 4) (k := .lst) (o := false) (xs := cellsB th bl) rfl (.inl rfl)
  rw [cellsB_len] at le
  exact le
theorem md_pre {sz tt : Nat} {bl : List Blk} (th : Nat → Bool) (h : GoodC sz tt bl) (r : Nat) (hr : r ≤ 16) (f : Sv) : cSeq (cExpr (cCall 1 F_need_blocks (cCons (cVar 0) cNil))) (cSeq (cAsg (.tp [2, 3, 4]) (cVar 0)) (cSeq mA (cSeq mB (cSeq mC (cSeq mD f))))) (startR 12 [CtB sz tt th bl, SpB th bl r]) = f (Md sz tt th bl r (some (Sl.Ce true true th (Y1 th bl (wv th bl r)) bl.length)) (some (M false false (thr th bl r))) (some (nt (wv th bl r))) none none none none) := by
  have hb2 := h.b2
  let r0 : Rho := startR 12 [CtB sz tt th bl, SpB th bl r]
  have s0 : cExpr (cCall 1 F_need_blocks (cCons (cVar 0) cNil)) r0 = .nx r0 := by
    rw [q_expr, call1 (F := F_need_blocks) (r1 := r0) (d := .non) (cvar_loc (i := 0) (d := CtB sz tt th bl) rfl rfl) rfl (by rw [frz_CtB]; exact need_blocksN th h) rfl]
    rfl
  have s1 : cAsg (.tp [2, 3, 4]) (cVar 0) r0 = .nx (Md sz tt th bl r none none none none none none none) := by
    have e : cSet (cVar 0) r0 = .ok (.val (frz (CtB sz tt th bl))) (r0.set 0 (some (frz (CtB sz tt th bl)))) := rfl
    rw [frz_CtB] at e
    rw [q_asg, e]
    rfl
  have s4 := mC_ok (sz := sz) (tt := tt) (bl := bl) th r (some (Sl.Ce true false th (Y0 bl) bl.length)) (thr th bl r) (by
    have le := List.length_filter_le th (List.range (bl.length + r))
    rw [List.length_range] at le
    rw [List.length_map]
    omega)
  have hv := wv_le th bl r
  have hw := wd_lt h.g
  have s5 := mD_ok (sz := sz) (tt := tt) th h r (some (M false false (thr th bl r))) (wv th bl r) (by omega) fun z hz ht => le_wv (by omega) ht
  exact (seq_nx s0).trans ((seq_nx s1).trans ((seq_nx (mA_ok th h r)).trans ((seq_nx (mB_ok th h r hr)).trans ((seq_nx s4).trans (seq_nx s5)))))
theorem frz_cv (th : Nat → Bool) (Y : Nat → List Int) (n : Nat) : frz (.node .lst true (Sl.cells false th Y n)) = Sl.Ce false false th Y n := Sl.frz_Ce true false th Y n
theorem slab_H {bl : List Blk} (h : GoodBs bl) (hb2 : bl.length ≤ 64) (r : Nat) : ∃ H, Sl.Cols bl.length (wd bl) H ∧ Sl.tabl (Sl.rowH H (wd bl)) (bl.length + r) = slab bl ++ Sl.spares (slab bl) (wd bl) r := by
  have e : (slab bl).length = bl.length := by unfold slab; rw [List.length_map, List.length_map]
  have z := Sl.slab_cols (w := wd bl) (rows := slab bl) (fun row hr => by
    obtain ⟨q, hq, rfl⟩ := List.mem_map.mp hr
    obtain ⟨b, hb, rfl⟩ := List.mem_map.mp hq
    refine ⟨pad_len (le_mx (List.mem_map_of_mem (List.mem_map_of_mem hb))), fun x hx => ?_⟩
    have := pad_lo (h b hb) hx
    omega) (by omega) r
  rw [e] at z
  exact z
theorem bk_at {bl : List Blk} {z : Nat} (hz : z < bl.length) : bk bl z = bl[z] := by show bl.getD z _ = _; rw [List.getD_eq_getElem?_getD, List.getElem?_eq_getElem hz]; rfl
theorem slab_len (bl : List Blk) : (slab bl).length = bl.length := by unfold slab; rw [List.length_map, List.length_map]
theorem H_is {bl : List Blk} {r : Nat} {H : Nat → Int → Int} (e : Sl.tabl (Sl.rowH H (wd bl)) (bl.length + r) = slab bl ++ Sl.spares (slab bl) (wd bl) r) {z : Nat} (hz : z < bl.length + r) : Sl.rowH H (wd bl) z = pad (wd bl) (Y0 bl z) := by
  have q := congrArg (fun l => l[z]?) e
  have q : (Sl.tabl (Sl.rowH H (wd bl)) (bl.length + r))[z]? = (slab bl ++ Sl.spares (slab bl) (wd bl) r)[z]? := q
  rw [Sl.tabl_at hz] at q
  by_cases h : z < bl.length
  · rw [List.getElem?_append_left (by rw [slab_len]; exact h)] at q
    unfold slab at q
    rw [List.getElem?_map, List.getElem?_map, List.getElem?_eq_getElem h] at q
    have q := Option.some.inj q
    unfold Y0
    rw [if_pos h, bk_at h]
    exact q
  · rw [List.getElem?_append_right (by rw [slab_len]; omega), slab_len] at q
    unfold Sl.spares at q
    rw [List.getElem?_map, List.getElem?_range (by omega)] at q
    have q : Sl.rowH H (wd bl) z = Sl.spare (slab bl) (wd bl) (((slab bl).length + (z - bl.length) : Nat) : Int) := Option.some.inj q
    rw [slab_len, show bl.length + (z - bl.length) = z by omega] at q
    have hl := Y0_sp (bl := bl) (z := z) (by omega)
    unfold pad
    rw [hl, Nat.sub_self, List.replicate_zero, List.append_nil, q]
    unfold Y0
    rw [if_neg h]
theorem noL_BlT (bl : List Blk) : noL (Bl true true bl) = true := by
  show (true && noLs (bl.map (enB true))) = true
  induction bl with
  | nil => rfl
  | cons b bl ih =>
    show (true && (noL (enB true b) && noLs (bl.map (enB true)))) = true
    rw [show noL (enB true b) = true from by show (noL (I true b.2) && true) = true; rw [show noL (I true b.2) = true from noL_lints b.2]; rfl]
    exact ih
theorem fp_M (o o' : Bool) (rows : List (List Int)) : FP 2 (M o o' rows) := Sl.fp_M o o' rows
theorem mended_ok {sz tt : Nat} {bl : List Blk} (th : Nat → Bool) (h : GoodC sz tt bl) (r : Nat) (hr : r ≤ 16) (hfw : bl.length + Sl.gone th (bl.length + r) ≤ bl.length + r) : F_mended [CtB sz tt th bl, SpB th bl r] = .ok (.node .tup false [nt sz, nt tt, Bl true true bl]) := by
  obtain ⟨H, hC, eH⟩ := slab_H h.g h.b2 r
  have hb2 := h.b2
  have hv := wv_eq hfw
  have gd := Y1_good th h hr
  have ar := arg_ok th h r hr (some (M false false (thr th bl r))) (some (nt (wv th bl r)))
  have hw := wd_lt h.g
  have eC : Sl.cells false th (Y1 th bl (wv th bl r)) (bl.length + r) = Sl.cells false th (Sl.rowH H (wd bl)) (bl.length + r) := List.map_congr_left fun z hz => by
    have hz := List.mem_range.mp hz
    unfold Sl.cell Y1
    by_cases ht : th z = true
    · rw [if_pos ht, if_pos ht, if_pos ht, hv, H_is eH hz]
    · rw [if_neg ht, if_neg ht]
  have gH : Sl.Good th (Sl.rowH H (wd bl)) (bl.length + r) bl.length (wd bl) := ⟨gd.k1, gd.k2, gd.n1, gd.n2, by omega, fun z _ => Sl.rowH_len H _ z, fun z hz x hx => by
    rw [H_is eH hz] at hx
    rcases List.mem_append.mp hx with h1 | h1
    · exact Y0_lo h.g z x h1
    · rw [(List.mem_replicate.mp h1).2]; decide⟩
  have yes := Sl.mend_ok gH hC hfw
  rw [eH] at yes
  rw [eC] at ar
  unfold F_mended f_mended
  refine runF_ok (d := .node .tup false [nt sz, nt tt, Bl true true bl]) (x := .loc 9) (r := Md sz tt th bl r (some (Sl.Ce true false th (Y1 th bl (wv th bl r)) bl.length)) (some (M false false (thr th bl r))) (some (nt (wv th bl r))) (some (M false false (slab bl))) (some (.node .tup false [nt sz, nt tt, Bl true true bl])) none none) ((md_pre th h r hr _).trans ?_) rfl
  generalize hY : Y1 th bl (wv th bl r) = Y at ar
  generalize some (M false false (thr th bl r)) = a6 at ar
  generalize some (nt (wv th bl r)) = a7 at ar
  let r1 : Rho := Md sz tt th bl r (some (Sl.Ce true false th Y bl.length)) a6 a7 none none none none
  have ca : callE (Md sz tt th bl r (some (Sl.Ce true true th Y bl.length)) a6 a7 none none none none) = .ok (.val (M true true (slab bl ++ Sl.spares (slab bl) (wd bl) r))) r1 := call2 (F := F_mend_rows) ar (len4 ..) rfl rfl (by rw [frz_cv]; exact yes) (noL_M _)
  have sl := VH.sl_ns (fa := callE) (fh := cB (b1 lenD) (cCons (cVar 4) cNil)) (k := .lst) (o := true) (xs' := (slab bl ++ Sl.spares (slab bl) (wd bl) r).map (I false)) (j := (bl.length : Nat)) (r2 := r1) ca rfl rfl ⟨frzs_M true _⟩ (len4 ..) rfl (by omega)
  rw [Int.toNat_natCast, ← List.map_take, List.take_append_of_le_length (by rw [slab_len]; exact Nat.le_refl _), List.take_of_length_le (by rw [slab_len]; exact Nat.le_refl _)] at sl
  let r2 : Rho := Md sz tt th bl r (some (Sl.Ce true false th Y bl.length)) a6 a7 (some (M true false (slab bl))) none none none
  have s1 : mE (Md sz tt th bl r (some (Sl.Ce true true th Y bl.length)) a6 a7 none none none none) = .nx r2 := asg_ok (i := 8) sl
  have it := it_fz (r := r2) (i := 8) rfl
  rw [frzs_M] at it
  have es : (slab bl).map (I false) = bl.map fun b => I false (pad (wd bl) (rowOf b)) := by unfold slab; rw [List.map_map, List.map_map]; rfl
  let r3 : Rho := Md sz tt th bl r (some (Sl.Ce true false th Y bl.length)) a6 a7 (some (M false false (slab bl))) none none none
  have it2 : iLst (cVar 8) r2 = .ok (bl.map fun b => I false (pad (wd bl) (rowOf b))) r3 := by rw [← es]; exact it
  have l1 := lc_all (α := Blk) (enc := fun b => I false (pad (wd bl) (rowOf b))) (g := enB true) (fe := cCall 1 F_block_of (cCons (cVar 11) cNil)) (t := .nm 11) (vs := [11]) (r0 := r3) bl it2 rfl (by omega) (fun b hb => ⟨r3.set 11 (some (I false (pad (wd bl) (rowOf b)))), rfl, r3.set 11 (some (I false (pad (wd bl) (rowOf b)))), set_val (call1 (F := F_block_of) (cvar_loc (i := 11) (d := I false (pad (wd bl) (rowOf b))) rfl rfl) rfl (by rw [frz_I]; exact block_back (h.g b hb) (by omega)) (by show (noL (I true b.2) && true) = true; rw [show noL (I true b.2) = true from noL_lints b.2]; rfl)), rfl⟩)
  let r4 : Rho := Md sz tt th bl r (some (Sl.Ce true false th Y bl.length)) a6 a7 (some (M false false (slab bl))) (some (.node .tup false [nt sz, nt tt, Bl true true bl])) none none
  have s2 : mF r2 = .nx r4 := asg_ok (i := 9) (tup_ok (ds := [nt sz, nt tt, Bl true true bl]) (cons_ok (set_val (cvar_at (r := r2) (i := 2) (d := nt sz) rfl rfl)) (cons_ok (set_val (cvar_at (r := r2) (i := 3) (d := nt tt) rfl rfl)) (cons_ok (set_val l1) (nil_ok _)))) rfl (Nat.le_of_ble_eq_true rfl))
  have c3 := call1 (F := F_slab_of) (r1 := r4) (cvar_loc (r := r4) (i := 9) (d := .node .tup false [nt sz, nt tt, Bl true true bl]) rfl rfl) rfl (by rw [frz_Ct]; exact slab_of_ok h) (noL_M _)
  have ne : cBin gNe (cCall 1 F_slab_of (cCons (cVar 9) cNil)) (cVar 8) r4 = .ok (.val (.bl false)) r4 := bin_ok (g := gNe) c3 (cvar_loc (r := r4) (i := 8) rfl rfl) (g2_ok rfl rfl (neD_same (fp_M true true (slab bl)) (by decide) (Sl.toPy_M true true false false (slab bl))) rfl)
  exact (seq_nx s1).trans ((seq_nx s2).trans ((seq_nx (guard_no (f := cRaise 2) ne)).trans (ret_ok (cvar_loc (r := r4) (i := 9) rfl rfl))))

end K81.Sb

namespace K81.Lw
open VH K81
def tg (BL : List Sb.Blk) (z : Nat) : D := if z < BL.length then Sb.enB false (Sb.bk BL z) else Sl.I false (Sb.Y0 BL z)
def cT (th : Nat → Bool) (BL : List Sb.Blk) (z : Nat) : D := if th z = true then tg BL z else .non
def cTs (th : Nat → Bool) (BL : List Sb.Blk) (n : Nat) : List D := (List.range n).map (cT th BL)
theorem cTs_len (th : Nat → Bool) (BL : List Sb.Blk) (n : Nat) : (cTs th BL n).length = n := by unfold cTs; rw [List.length_map, List.length_range]
theorem frz_tg (BL : List Sb.Blk) (z : Nat) : frz (tg BL z) = tg BL z := by
  unfold tg
  by_cases h : z < BL.length
  · rw [if_pos h]; exact Sb.frz_enB _ _
  · rw [if_neg h]; exact Sl.frz_I _ _
theorem frz_cT (th : Nat → Bool) (BL : List Sb.Blk) (z : Nat) : frz (cT th BL z) = cT th BL z := by
  unfold cT
  by_cases h : th z = true
  · rw [if_pos h]; exact frz_tg _ _
  · rw [if_neg h]; rfl
instance fz_cTs (th : Nat → Bool) (BL : List Sb.Blk) (n : Nat) : Fzs (cTs th BL n) (cTs th BL n) := ⟨Sb.frzs_mapf _ (frz_cT th BL) _⟩
theorem fp_tg (BL : List Sb.Blk) (z : Nat) : VL.FP 2 (tg BL z) := by
  unfold tg
  by_cases h : z < BL.length
  · rw [if_pos h]
    refine VL.fp_tup (k := 1) fun y hy => ?_
    have hy : y = .int (Sb.bk BL z).1 ∨ y = Sb.I false (Sb.bk BL z).2 := by simpa only [List.mem_cons, List.not_mem_nil, or_false] using hy
    rcases hy with e | e
    · rw [e]; exact VL.fp_int _ _
    · rw [e]; exact Sl.fp_I false _
  · rw [if_neg h]
    exact VL.fp_lst (k := 1) fun x hx => by
      obtain ⟨j, _, rfl⟩ := List.mem_map.mp hx
      exact VL.fp_int _ _
theorem fp_cT (th : Nat → Bool) (BL : List Sb.Blk) (z : Nat) : VL.FP 2 (cT th BL z) := by
  unfold cT
  by_cases h : th z = true
  · rw [if_pos h]; exact fp_tg _ _
  · rw [if_neg h]; exact VL.fp_non _
theorem fp_cTs (o : Bool) (th : Nat → Bool) (BL : List Sb.Blk) (n : Nat) : VL.FP 3 (.node .lst o (cTs th BL n)) := VL.fp_lst (k := 2) fun x hx => by
  obtain ⟨z, _, rfl⟩ := List.mem_map.mp hx
  exact fp_cT th BL z
theorem cTs_set {th : Nat → Bool} {BL : List Sb.Blk} {n v : Nat} : (cTs th BL n).set v .non = cTs (Sl.lose th v) BL n := by
  refine List.ext_getElem? fun z => ?_
  unfold cTs
  by_cases hz : z < n
  · rw [List.getElem?_map, List.getElem?_range hz]
    by_cases h : z = v
    · subst h
      rw [List.getElem?_set_self (by rw [List.length_map, List.length_range]; exact hz)]
      show _ = some (if (if z = z then false else th z) = true then tg BL z else .non)
      rw [if_pos rfl, if_neg (by decide)]
    · rw [List.getElem?_set_ne (Ne.symm h), List.getElem?_map, List.getElem?_range hz]
      show some (if th z = true then tg BL z else .non) = some (if (if z = v then false else th z) = true then tg BL z else .non)
      rw [if_neg h]
  · rw [List.getElem?_eq_none (by rw [List.length_set, List.length_map, List.length_range]; omega), List.getElem?_eq_none (by rw [List.length_map, List.length_range]; omega)]
theorem cTs_two (th : Nat → Bool) (BL : List Sb.Blk) (r : Nat) : cTs th BL (BL.length + r) = Sb.cellsB th BL ++ (List.range' BL.length r).map (Sl.cell false th (Sb.Y0 BL)) := by
  unfold cTs Sb.cellsB
  rw [List.range_eq_range', List.range_eq_range', ← List.range'_append_1 (s := 0) (m := BL.length) (n := r), List.map_append, Nat.zero_add]
  congr 1
  · refine List.map_congr_left fun z hz => ?_
    obtain ⟨i, hi, rfl⟩ := List.mem_range'.mp hz
    unfold cT Sb.cellB tg
    rw [if_pos (show 0 + 1 * i < BL.length by omega)]
  · refine List.map_congr_left fun z hz => ?_
    obtain ⟨i, hi, rfl⟩ := List.mem_range'.mp hz
    unfold cT Sl.cell tg
    rw [if_neg (show ¬ BL.length + 1 * i < BL.length by omega)]
theorem cTs_take (th : Nat → Bool) (BL : List Sb.Blk) (r : Nat) : (cTs th BL (BL.length + r)).take BL.length = Sb.cellsB th BL := by
  rw [cTs_two, List.take_append_of_le_length (by rw [Sb.cellsB_len]; exact Nat.le_refl _), List.take_of_length_le (by rw [Sb.cellsB_len]; exact Nat.le_refl _)]
theorem cTs_drop (th : Nat → Bool) (BL : List Sb.Blk) (r : Nat) : (cTs th BL (BL.length + r)).drop BL.length = (List.range' BL.length r).map (Sl.cell false th (Sb.Y0 BL)) := by
  rw [cTs_two, List.drop_append_of_le_length (by rw [Sb.cellsB_len]; exact Nat.le_refl _), List.drop_of_length_le (by rw [Sb.cellsB_len]; exact Nat.le_refl _), List.nil_append]
theorem all_there (BL : List Sb.Blk) (r : Nat) : BL.map (Sb.enB false) ++ (Sl.spares (Sb.slab BL) (Sb.wd BL) r).map (Sl.I false) = cTs (fun _ => true) BL (BL.length + r) := by
  rw [cTs_two]
  congr 1
  · show BL.map (Sb.enB false) = (List.range BL.length).map (Sb.cellB (fun _ => true) BL)
    refine List.ext_getElem (by rw [List.length_map, List.length_map, List.length_range]) fun i h1 h2 => ?_
    rw [List.length_map] at h1
    rw [List.getElem_map, List.getElem_map, List.getElem_range]
    show _ = if (true : Bool) = true then Sb.enB false (Sb.bk BL i) else .non
    rw [if_pos rfl, Sb.bk_at h1]
  · unfold Sl.spares
    rw [List.map_map, List.range'_eq_map_range, List.map_map]
    refine List.map_congr_left fun j hj => ?_
    show Sl.I false (Sl.spare (Sb.slab BL) (Sb.wd BL) (((Sb.slab BL).length + j : Nat) : Int)) = if (true : Bool) = true then Sl.I false (Sb.Y0 BL (BL.length + j)) else .non
    rw [if_pos rfl, Sb.slab_len]
    unfold Sb.Y0
    rw [if_neg (by omega)]

end K81.Lw

namespace K81.Lw
open VH K81
abbrev Nd (o : Bool) (ds : List D) : D := .node .lst o ds
theorem fz_Nd {o : Bool} {ds : List D} (h : frzs ds = ds) : frz (Nd o ds) = Nd false ds := by
  show D.node .lst false (frzs ds) = _
  rw [h]
theorem two_nt {fl fk : Ev} {r r1 r2 : Rho} {a b v : Nat} (h : fl r = .ok (.val (.node .lst true [nt a, nt b])) r1) (h2 : fk r1 = .ok (.val (nt v)) r2) (hv : v < 2) : ∃ z, cBin gIx fl fk r = .ok (.val (nt z)) r2 ∧ (z = a ∨ z = b) := by
  rcases (show v = 0 ∨ v = 1 by omega) with e | e
  · subst e; exact ⟨a, ixA_go (n := 0) (k := .lst) (o := true) (xs := [nt a, nt b]) h h2 rfl rfl rfl rfl, .inl rfl⟩
  · subst e; exact ⟨b, ixA_go (n := 1) (k := .lst) (o := true) (xs := [nt a, nt b]) h h2 rfl rfl rfl rfl, .inr rfl⟩
abbrev S8 (BL : List Sb.Blk) (sp : List (List Int)) (d : D) (f t : Option D) : Rho := [some (Sb.Bl false false BL), some (Sb.M false false sp), some d, f, t, none, none, none]
noncomputable abbrev tkE (i : Nat) (f : Ev) : Ev := cCallQ 0 1 F__law_take (cCons (cVar i) (cCons (cSet f) cNil))
noncomputable abbrev smB : Sv := cSetIx 3 (tkE 2 (cBin gIx (cLst (cCons (cSet (cB (b1 lenD) (cCons (cVar 0) cNil))) (cCons (cSet (cB (b1 lenD) (cCons (cVar 3) cNil))) cNil))) (tkE 2 (cC (.int 2))))) (cC .non)
theorem sm_step (BL : List Sb.Blk) (sp : List (List Int)) {d : D} {n : Nat} (hp : Sb.Pool d n) (hn : n ≤ 100000) (th : Nat → Bool) (N : Nat) (h1 : 1 ≤ BL.length) (h2 : BL.length ≤ N) (hN : N ≤ 1000) (t : Option D) : ∃ (j : Nat) (d' : D), smB (S8 BL sp d (some (Nd true (cTs th BL N))) t) = .nx (S8 BL sp d' (some (Nd true (cTs (Sl.lose th j) BL N))) t) ∧ Sb.Pool d' (n + 2) := by
  let R := fun (d : D) => S8 BL sp d (some (Nd true (cTs th BL N))) t
  obtain ⟨v, d1, e1, hv, p1⟩ := Sb.takeQ (r := R d) (r1 := R d) (i := 2) (fa := cC (.int 2)) (m := 2) rfl hp (by omega) rfl (hp.var rfl) (by decide) (by decide)
  have l0 := VH.lenE_go (fa := cVar 0) (f := Sb.enB false) (xs := BL) (k := .lst) (o := false) (x := .loc 0) (r := R d) (VL.cvar_loc rfl rfl) rfl rfl
  have l3 := VH.len_go (fa := cVar 3) (x := .loc 3) (k := .lst) (o := true) (xs := cTs th BL N) (r := R d) (VL.cvar_loc rfl rfl) rfl rfl
  rw [cTs_len] at l3
  have l := VH.lst_ok (ds := [nt BL.length, nt N]) (cons_ok (set_val l0) (cons_ok (set_val l3) (nil_ok _))) rfl (Nat.le_of_ble_eq_true rfl)
  obtain ⟨z, e2, hz⟩ := two_nt l e1 hv
  obtain ⟨j, d2, e3, hj, p2⟩ := Sb.takeQ (r := R d) (r1 := R d1) (i := 2) (m := z) rfl p1 (by omega) e2 (hp.var rfl) (by omega) (by omega)
  exact ⟨j, d2, VH.setIx_go (d := .non) (set_val (cc_d .non _)) rfl e3 rfl (ixN_nat (by rw [cTs_len]; omega)) (by rw [cTs_set]; rfl), p2⟩
theorem sm_loop (BL : List Sb.Blk) (sp : List (List Int)) (N : Nat) (h1 : 1 ≤ BL.length) (h2 : BL.length ≤ N) (hN : N ≤ 1000) : ∀ (ts : List D) {d : D} {n : Nat} (th : Nat → Bool) (t : Option D), Sb.Pool d n → n + 2 * ts.length ≤ 100000 → ∃ (th' : Nat → Bool) (d' : D) (t' : Option D), forL (.nm 4) smB ts (S8 BL sp d (some (Nd true (cTs th BL N))) t) = .nx (S8 BL sp d' (some (Nd true (cTs th' BL N))) t') ∧ Sb.Pool d' (n + 2 * ts.length) ∧ Sl.gone th' N ≤ Sl.gone th N + ts.length
  | [], d, n, th, t, hp, _ => ⟨th, d, t, rfl, hp, Nat.le_refl _⟩
  | x :: ts, d, n, th, t, hp, hn => by
    rw [List.length_cons] at hn
    obtain ⟨j, d1, e1, p1⟩ := sm_step BL sp hp (by omega) th N h1 h2 hN (some x)
    obtain ⟨th', d', t', e2, p2, g2⟩ := sm_loop BL sp N h1 h2 hN ts (Sl.lose th j) (some x) p1 (by omega)
    have g1 := Sl.gone_lose th j N
    refine ⟨th', d', t', forL_c rfl e1 e2, by rw [List.length_cons, show n + 2 * (ts.length + 1) = n + 2 + 2 * ts.length by omega]; exact p2, ?_⟩
    rw [List.length_cons]
    by_cases hj : j < N
    · rw [if_pos hj] at g1; omega
    · rw [if_neg hj] at g1; omega
theorem some_ok {BL : List Sb.Blk} (h1 : 1 ≤ BL.length) (h64 : BL.length ≤ 64) (r : Nat) (hr : r ≤ 16) {d : D} {n : Nat} (hp : Sb.Pool d n) (hn : n ≤ 10000) : ∃ (th : Nat → Bool) (d' : D), F__law_some d [Sb.Bl false false BL, Sb.M false false (Sl.spares (Sb.slab BL) (Sb.wd BL) r)] = .ok (Nd true (cTs th BL (BL.length + r))) d' ∧ Sb.Pool d' (n + 100) ∧ Sl.gone th (BL.length + r) ≤ r := by
  have al := all_there BL r
  have ls : (Sl.spares (Sb.slab BL) (Sb.wd BL) r).length = r := by unfold Sl.spares; rw [List.length_map, List.length_range]
  generalize Sl.spares (Sb.slab BL) (Sb.wd BL) r = sp at *
  let R0 := S8 BL sp d none none
  have it0 := VH.it_lstG (fa := cVar 0) (k := .lst) (o := false) (ds := BL.map (Sb.enB false)) (VH.set_any (i := 0) (r := R0) rfl (by show D.node .lst false (frzs _) = _; rw [Sb.frzs_enB])) rfl
  have lA : cLc [5, 6] (.tp [5, 6]) (iLst (cVar 0)) none (cTup (cCons (cSet (cVar 5)) (cCons (cSet (cB (gListOf) (cCons (cVar 6) cNil))) cNil))) R0 = .ok (.val (Nd true (BL.map (Sb.enB true)))) R0 := by
    refine VH.lc_all (enc := Sb.enB false) (g := Sb.enB true) (r1 := R0) (r0 := R0) BL it0 rfl (by omega) fun b _ => ?_
    let Q : Rho := [some (Sb.Bl false false BL), some (Sb.M false false sp), some d, none, none, some (.int b.1), some (Sb.I false b.2), none]
    have lo := listOf_go (fa := cVar 6) (x := .loc 6) (o := false) (k := .lst) (xs := b.2.map .int) (xs' := b.2.map .int) (r := Q) (VL.cvar_loc rfl rfl) rfl rfl inferInstance (VH.touch_l (o := false) (k := .lst) (ys := b.2.map .int) rfl inferInstance)
    exact ⟨Q, rfl, Q, set_val (tup_ok (ds := [.int b.1, Sb.I true b.2]) (cons_ok (set_val (cvar_at (i := 5) rfl rfl)) (cons_ok (set_val lo) (nil_ok _))) rfl (Nat.le_of_ble_eq_true rfl)), rfl⟩
  have it1 := VH.it_lstG (fa := cVar 1) (k := .lst) (o := false) (ds := sp.map (Sb.I false)) (VH.set_any (i := 1) (r := R0) rfl (by show D.node .lst false (frzs _) = _; rw [Sb.frzs_M])) rfl
  have lB : cLc [7] (.nm 7) (iLst (cVar 1)) none (cB (gListOf) (cCons (cVar 7) cNil)) R0 = .ok (.val (Nd true (sp.map (Sb.I true)))) R0 := by
    refine VH.lc_all (enc := Sb.I false) (g := Sb.I true) (r1 := R0) (r0 := R0) sp it1 rfl (by omega) fun row _ => ?_
    have lo := listOf_go (fa := cVar 7) (x := .loc 7) (o := false) (k := .lst) (xs := row.map .int) (xs' := row.map .int) (r := R0.set 7 (some (Sb.I false row))) (VL.cvar_loc rfl rfl) rfl rfl inferInstance (VH.touch_l (o := false) (k := .lst) (ys := row.map .int) rfl inferInstance)
    exact ⟨R0.set 7 (some (Sb.I false row)), rfl, R0.set 7 (some (Sb.I false row)), set_val lo, rfl⟩
  have ad := VL.bin_ok (g := gAdd) (fa := cLc [5, 6] (.tp [5, 6]) (iLst (cVar 0)) none (cTup (cCons (cSet (cVar 5)) (cCons (cSet (cB (gListOf) (cCons (cVar 6) cNil))) cNil)))) lA lB (q_addL (r := R0) (o := true) (o' := true) (xs := BL.map (Sb.enB true)) (ys := sp.map (Sb.I true)) rfl rfl (by rw [List.length_map, List.length_map]; omega))
  rw [Sb.frzs_enB, Sb.frzs_M] at ad
  have al : BL.map (Sb.enB false) ++ sp.map (Sb.I false) = cTs (fun _ => true) BL (BL.length + r) := al
  rw [al] at ad
  let R1 := fun (d : D) => S8 BL sp d (some (Nd true (cTs (fun _ => true) BL (BL.length + r)))) none
  have s1 := VH.asg_go (i := 3) (set_val ad) (r2 := R1 d) rfl
  have l1 := VH.lenE_go (fa := cVar 1) (f := Sb.I false) (xs := sp) (k := .lst) (o := false) (x := .loc 1) (r := R1 d) (VL.cvar_loc rfl rfl) rfl rfl
  rw [ls] at l1
  have l2 := add_ok (fb := cC (.int 1)) (j := 1) l1 rfl
  rw [show ((r : Nat) : Int) + 1 = ((r + 1 : Nat) : Int) by omega] at l2
  obtain ⟨t, d1, e2, ht, p1⟩ := Sb.takeQ (r := R1 d) (r1 := R1 d) (i := 2) (m := r + 1) rfl hp (by omega) l2 (hp.var rfl) (by omega) (by omega)
  have l3 := VH.lst_ok (ds := [nt r, nt t]) (cons_ok (set_val l1) (cons_ok (set_val e2) (nil_ok _))) rfl (Nat.le_of_ble_eq_true rfl)
  obtain ⟨v, d2, e3, hv, p2⟩ := Sb.takeQ (r := R1 d1) (r1 := R1 d1) (i := 2) (fa := cC (.int 2)) (m := 2) rfl p1 (by omega) rfl (p1.var rfl) (by decide) (by decide)
  obtain ⟨z, e4, hz⟩ := two_nt l3 e3 hv
  have it := VH.it_rngI e4 (by unfold within; exact decide_eq_true (by omega))
  rw [Int.toNat_natCast, VH.rng_nt] at it
  obtain ⟨th', d', t', e5, p5, g5⟩ := sm_loop BL sp (BL.length + r) h1 (by omega) (by omega) ((List.range z).map nt) (fun _ => true) none p2 (by rw [List.length_map, List.length_range]; omega)
  rw [List.length_map, List.length_range] at p5 g5
  rw [Sl.gone_all] at g5
  have s2 := for_go (t := .nm 4) it e5
  refine ⟨th', d', ?_, p5.mono (by omega), by omega⟩
  unfold F__law_some f__law_some
  exact Sb.runQ_loc (i := 3) (r := S8 BL sp d' (some (Nd true (cTs th' BL (BL.length + r)))) t') (seq_go (r := R0) s1 (seq_go s2 (ret_go (VL.cvar_loc rfl rfl)))) (by decide) rfl rfl
def more (BL : List Sb.Blk) : List Sb.Blk := BL.map fun b => (b.1, b.2 ++ [0])
theorem appAll_ok : ∀ (BL : List Sb.Blk), (∀ b ∈ BL, b.2.length < 700) → VL.appAll 0 (BL.map (Sb.enB true)) = some ((more BL).map (Sb.enB true))
  | [], _ => rfl
  | b :: BL, h => by
    have ih := appAll_ok BL fun x hx => h x (List.mem_cons_of_mem _ hx)
    have hb := h b List.mem_cons_self
    show (if (b.2.map D.int).length < 16777216 then (match VL.appAll 0 (BL.map (Sb.enB true)) with
      | some es => some (.node .tup false [.int b.1, .node .lst true (b.2.map D.int ++ [.int 0])] :: es)
      | none => none) else none) = _
    rw [if_pos (by rw [List.length_map]; omega), ih]
    show some (D.node .tup false [.int b.1, .node .lst true (b.2.map D.int ++ [D.int 0])] :: (more BL).map (Sb.enB true)) = some (Sb.enB true (b.1, b.2 ++ [0]) :: (more BL).map (Sb.enB true))
    show _ = some (D.node .tup false [.int b.1, .node .lst true ((b.2 ++ [0]).map D.int)] :: (more BL).map (Sb.enB true))
    rw [List.map_append]
    rfl
theorem forGA_ok {i a : Nat} {p : List Nat} {c : Int} {r : Rho} {d : D} {o : Bool} {ds es : List D} (h : r[i]? = some (some d)) (hat : VL.atP p d = some (.node .lst o ds)) (ha : VL.appAll c ds = some es) (hl : a < r.length) (hne : ds ≠ []) : VL.cForGA i p a c r = .nx ((r.set i (some (VL.setP p (.node .lst o es) d))).set a (some .any)) := by
  unfold VL.cForGA
  rw [h]
  show (match VL.atP p d with
    | some (.node .lst o ds) => (match VL.appAll c ds with
      | some es => if a < r.length then SO.nx (if ds = [] then r else (r.set i (some (VL.setP p (.node .lst o es) d))).set a (some .any)) else .bad
      | none => .bad)
    | _ => .bad) = _
  rw [hat]
  show (match VL.appAll c ds with
      | some es => if a < r.length then SO.nx (if ds = [] then r else (r.set i (some (VL.setP p (.node .lst o es) d))).set a (some .any)) else .bad
      | none => .bad) = _
  rw [ha]
  show (if a < r.length then SO.nx (if ds = [] then r else (r.set i (some (VL.setP p (.node .lst o es) d))).set a (some .any)) else .bad) = _
  rw [if_pos hl, if_neg hne]

end K81.Lw

namespace K81.Lw
open VH K81
abbrev Wh (n m : Nat) (BL : List Sb.Blk) : D := .node .tup false [nt n, nt m, Sb.Bl true true BL]
theorem fz_Wh (n m : Nat) (BL : List Sb.Blk) : frz (Wh n m BL) = Sb.Ct n m BL := Sb.frz_Ct n m true true BL
theorem py_Wh (n m : Nat) (BL : List Sb.Blk) : toPy (Wh n m BL) = toPy (Sb.Ct n m BL) := by
  have e : toPys (BL.map (Sb.enB true)) = toPys (BL.map (Sb.enB false)) := by
    rw [toPys_map, toPys_map, List.map_map, List.map_map]
    exact List.map_congr_left fun p _ => rfl
  show PyData.tuple [toPy (nt n), toPy (nt m), PyData.list (toPys (BL.map (Sb.enB true)))] = _
  rw [e]
  rfl
theorem fp_Ct (n m : Nat) (BL : List Sb.Blk) : VL.FP 4 (Sb.Ct n m BL) := VL.fp_tup (k := 3) fun x hx => by
  have hx : x = nt n ∨ x = nt m ∨ x = Sb.Bl false false BL := by simpa only [List.mem_cons, List.not_mem_nil, or_false] using hx
  rcases hx with e | e | e
  · rw [e]; exact VL.fp_int _ _
  · rw [e]; exact VL.fp_int _ _
  · rw [e]
    refine VL.fp_lst (k := 2) fun y hy => ?_
    obtain ⟨b, _, rfl⟩ := List.mem_map.mp hy
    refine VL.fp_tup (k := 1) fun z hz => ?_
    have hz : z = .int b.1 ∨ z = Sb.I false b.2 := by simpa only [List.mem_cons, List.not_mem_nil, or_false] using hz
    rcases hz with e | e
    · rw [e]; exact VL.fp_int _ _
    · rw [e]; exact Sl.fp_I false _
theorem fp_Wh (n m : Nat) (BL : List Sb.Blk) : VL.FP 4 (Wh n m BL) := by
  have h := fp_Ct n m BL
  have e := py_Wh n m BL
  exact ⟨e ▸ h.1, e ▸ h.2⟩
def cellO (th : Nat → Bool) (BL : List Sb.Blk) (z : Nat) : D := if th z = true then Sb.enB true (Sb.bk BL z) else .non
theorem frzs_cellO (th : Nat → Bool) (BL : List Sb.Blk) : frzs ((List.range BL.length).map (cellO th BL)) = Sb.cellsB th BL := by
  rw [frzs_map, List.map_map]
  refine List.map_congr_left fun z _ => ?_
  show frz (cellO th BL z) = Sb.cellB th BL z
  unfold cellO Sb.cellB
  by_cases h : th z = true
  · rw [if_pos h, if_pos h]; exact Sb.frz_enB _ _
  · rw [if_neg h, if_neg h]; rfl
theorem frzs_cellS (th : Nat → Bool) (Y : Nat → List Int) (k r : Nat) : frzs ((List.range' k r).map (Sl.cell true th Y)) = (List.range' k r).map (Sl.cell false th Y) := by
  rw [frzs_map, List.map_map]
  exact List.map_congr_left fun z _ => Sl.frz_cell true th Y z
abbrev Z17 (ns : List Int) (n m : Nat) (BL : List Sb.Blk) (d s6 : D) (a7 a8 a9 a10 a11 a12 : Option D) : Rho := [some (script ns), some (nt n), some (nt m), some (Sb.Bl false false BL), some (Sb.Ct n m BL), some d, some s6, a7, a8, a9, a10, a11, a12, none, none, none, none]
noncomputable abbrev hdE : Ev := cLc [13] (.nm 13) (iLst (cSl (cVar 8) none (some (cB (b1 lenD) (cCons (cVar 3) cNil))))) none (cIfE (cBin gIs (cVar 13) (cC .non)) (cC .non) (cTup (cCons (cSet (cBin gIx (cVar 13) (cC (.int 0)))) (cCons (cSet (cB (gListOf) (cCons (cBin gIx (cVar 13) (cC (.int 1))) cNil))) cNil))))
noncomputable abbrev rwE : Ev := cLc [14] (.nm 14) (iLst (cSl (cVar 8) (some (cB (b1 lenD) (cCons (cVar 3) cNil))) none)) none (cIfE (cBin gIs (cVar 14) (cC .non)) (cC .non) (cB (gListOf) (cCons (cVar 14) cNil)))
noncomputable abbrev mdE : Ev := cCall 2 F_mended (cCons (cTup (cCons (cSet (cVar 1)) (cCons (cSet (cVar 2)) (cCons (cSet (cVar 9)) cNil)))) (cCons (cVar 10) cNil))
noncomputable abbrev pureE : Ev := cPure (cB (gIsi (etab tab)) (cCons (cBin gIx (cVar 11) (cC (.int 2))) (cCons (cC (.ty "list")) cNil)))
noncomputable abbrev t1E : Ev := cOr (cNot (cB (gIsi (etab tab)) (cCons (cVar 11) (cCons (cC (.ty "tuple")) cNil)))) (cOr (cBin gNe (cB (b1 lenD) (cCons (cVar 11) cNil)) (cC (.int 3))) (cOr (cNot pureE) (cBin gNe (cVar 11) (cVar 4))))
noncomputable abbrev lnA : Ev := cLc [15, 16] (.tp [15, 16]) (iLst (cBin gIx (cVar 11) (cC (.int 2)))) none (cB (b1 lenD) (cCons (cVar 16) cNil))
noncomputable abbrev lnB : Ev := cLc [15, 16] (.tp [15, 16]) (iLst (cVar 3)) none (cBin gAdd (cB (b1 lenD) (cCons (cVar 16) cNil)) (cC (.int 1)))
noncomputable abbrev turnB : Sv := (cSeq (cAsg (.nm 8) (cCallQ 2 2 F__law_some (cCons (cSet (cVar 3)) (cCons (cSet (cVar 6)) (cCons (cVar 5) cNil)))))
  (cSeq (cAsg (.nm 9) hdE)
  (cSeq (cAsg (.nm 10) rwE)
  (cSeq (cAsg (.nm 11) mdE)
  (cSeq (cIfS t1E (cRet (cC (.bl false))) cSkip)
  (cSeq (cForGA 11 [2] 12 0)
  (cSeq (cIfS (cBin gNe (cPure lnA) lnB) (cRet (cC (.bl false))) cSkip)
  (cSeq (cExpr (cClrP 11 (cC (.int 2))))
  (cIfS (cBin gNe (cBin gAdd (cVar 9) (cVar 10)) (cVar 8)) (cRet (cC (.bl false))) cSkip)))))))))
theorem noL_nts (ks : List Nat) : noL (.node .lst true (ks.map nt)) = true := by
  have e : ks.map nt = (ks.map fun k => ((k : Nat) : Int)).map D.int := by rw [List.map_map]; rfl
  rw [e]
  exact noL_lints _
theorem turn_ok (ns : List Int) {n m : Nat} {BL : List Sb.Blk} (gC : Sb.GoodC n m BL) (r : Nat) (hr : r ≤ 16) {d : D} {q : Nat} (hp : Sb.Pool d q) (hq : q ≤ 10000) (o6 : Bool) (t : Nat) (a8 a9 a10 a11 a12 : Option D) : ∃ (d' : D) (a8' a9' a10' a11' a12' : Option D),
    turnB (Z17 ns n m BL d (Sb.M o6 o6 (Sl.spares (Sb.slab BL) (Sb.wd BL) r)) (some (nt t)) a8 a9 a10 a11 a12) = .nx (Z17 ns n m BL d' (Sb.M false false (Sl.spares (Sb.slab BL) (Sb.wd BL) r)) (some (nt t)) a8' a9' a10' a11' a12') ∧ Sb.Pool d' (q + 100) := by
  have hb1 := gC.b1; have hb2 := gC.b2
  obtain ⟨th, d1, es, p1, gg⟩ := some_ok gC.b1 gC.b2 r hr hp hq
  have yes : F_mended [.node .tup false [nt n, nt m, Nd false (Sb.cellsB th BL)], Nd false ((List.range' BL.length r).map (Sl.cell false th (Sb.Y0 BL)))] = .ok (Wh n m BL) := Sb.mended_ok th gC r (by omega) (by omega)
  have etk := cTs_take th BL r
  have edr := cTs_drop th BL r
  have etw := cTs_two th BL r
  have fcT := fz_cTs th BL (BL.length + r)
  have fpT := fp_cTs true th BL (BL.length + r)
  have lT := cTs_len th BL (BL.length + r)
  have fO := frzs_cellO th BL
  have fS := frzs_cellS th (Sb.Y0 BL) BL.length r
  have fcb := Sb.frzs_cellsB th BL
  have fsc := Sb.frzs_spB th (Sb.Y0 BL) BL.length r
  generalize Sl.spares (Sb.slab BL) (Sb.wd BL) r = sp at *
  let R := fun (d s6 : D) (a8 a9 a10 a11 a12 : Option D) => Z17 ns n m BL d s6 (some (nt t)) a8 a9 a10 a11 a12
  -- some
  have g3 : cSet (cVar 3) (R d (Sb.M o6 o6 sp) a8 a9 a10 a11 a12) = .ok (.val (Sb.Bl false false BL)) (R d (Sb.M o6 o6 sp) a8 a9 a10 a11 a12) := VH.set_any (i := 3) rfl (by show D.node .lst false (frzs _) = _; rw [Sb.frzs_enB])
  have g6 : cSet (cVar 6) (R d (Sb.M o6 o6 sp) a8 a9 a10 a11 a12) = .ok (.val (Sb.M false false sp)) (R d (Sb.M false false sp) a8 a9 a10 a11 a12) := VH.set_loc (d := Sb.M o6 o6 sp) rfl rfl ⟨by show D.node .lst false (frzs _) = _; rw [Sb.frzs_M]⟩ rfl
  have c8 := callQ_loc (q := 2) (n := 2) (F := F__law_some) (i := 5) (xs := [.val (Sb.Bl false false BL), .val (Sb.M false false sp), .loc 5]) (rest := []) (ds1 := [Sb.Bl false false BL, Sb.M false false sp]) (ds2 := []) (r := R d (Sb.M o6 o6 sp) a8 a9 a10 a11 a12) (r1 := R d (Sb.M false false sp) a8 a9 a10 a11 a12) (d0 := d) (d := Nd true (cTs th BL (BL.length + r))) (d0' := d1) (cons_ok g3 (cons_ok g6 (cons_ok (hp.var rfl) (nil_ok _)))) rfl rfl rfl rfl rfl (by
    rw [List.append_nil, show frzs [Sb.Bl false false BL, Sb.M false false sp] = [Sb.Bl false false BL, Sb.M false false sp] by
      show [D.node .lst false (frzs _), D.node .lst false (frzs _)] = _
      rw [Sb.frzs_enB, Sb.frzs_M]]
    exact es)
  have s8 := VH.asg_go (i := 8) (set_val c8) (r2 := R d1 (Sb.M false false sp) (some (Nd true (cTs th BL (BL.length + r)))) a9 a10 a11 a12) rfl
  generalize cTs th BL (BL.length + r) = ts at *
  let Q := fun (a9 a10 a11 a12 : Option D) => R d1 (Sb.M false false sp) (some (Nd true ts)) a9 a10 a11 a12
  have ln3 : ∀ a9 a10 a11 a12, cB (b1 lenD) (cCons (cVar 3) cNil) (Q a9 a10 a11 a12) = .ok (.val (nt BL.length)) (Q a9 a10 a11 a12) := fun a9 a10 a11 a12 => VH.lenE_go (fa := cVar 3) (f := Sb.enB false) (xs := BL) (k := .lst) (o := false) (x := .loc 3) (r := Q a9 a10 a11 a12) (VL.cvar_loc rfl rfl) rfl rfl
  -- handed
  have x9 := sl_ns (fa := cVar 8) (fh := cB (b1 lenD) (cCons (cVar 3) cNil)) (j := ((BL.length : Nat) : Int)) (x := .loc 8) (k := .lst) (o := true) (xs := ts) (xs' := ts) (r := Q a9 a10 a11 a12) (VL.cvar_loc rfl rfl) rfl rfl fcT (ln3 a9 a10 a11 a12) (VH.touch_l (o := true) (k := .lst) (ys := ts) rfl fcT) (by omega)
  rw [Int.toNat_natCast, etk] at x9
  have h9 : hdE (Q a9 a10 a11 a12) = .ok (.val (Nd true ((List.range BL.length).map (cellO th BL)))) (Q a9 a10 a11 a12) := by
    refine VH.lc_all (enc := Sb.cellB th BL) (g := cellO th BL) (r1 := Q a9 a10 a11 a12) (r0 := Q a9 a10 a11 a12) (List.range BL.length) (VH.it_lstG (k := .lst) (o := true) (set_val x9) rfl) rfl (by rw [List.length_range]; omega) fun z hz => ?_
    refine ⟨(Q a9 a10 a11 a12).set 13 (some (Sb.cellB th BL z)), rfl, (Q a9 a10 a11 a12).set 13 (some (Sb.cellB th BL z)), ?_, rfl⟩
    unfold Sb.cellB cellO
    by_cases ht : th z = true
    · rw [if_pos ht, if_pos ht]
      generalize Sb.bk BL z = b
      have fe : frzs [D.int b.1, Sb.I false b.2] = [D.int b.1, Sb.I false b.2] := by
        show [D.int b.1, frz (Sb.I false b.2)] = _
        rw [Sl.frz_I]
      have i0 : cBin gIx (cVar 13) (cC (.int 0)) ((Q a9 a10 a11 a12).set 13 (some (Sb.enB false b))) = .ok (.val (.int b.1)) ((Q a9 a10 a11 a12).set 13 (some (Sb.enB false b))) := ixA_go (n := 0) (x := .loc 13) (k := .tup) (o := false) (xs := [.int b.1, Sb.I false b.2]) (VL.cvar_loc rfl rfl) rfl rfl rfl rfl rfl
      have i1 : cBin gIx (cVar 13) (cC (.int 1)) ((Q a9 a10 a11 a12).set 13 (some (Sb.enB false b))) = .ok (.val (Sb.I false b.2)) ((Q a9 a10 a11 a12).set 13 (some (Sb.enB false b))) := ix_go (n := 1) (x := .loc 13) (k := .tup) (o := false) (xs := [.int b.1, Sb.I false b.2]) (d := Sb.I false b.2) (VL.cvar_loc rfl rfl) rfl rfl rfl rfl ⟨Sl.frz_I _ _⟩ (VH.touch_l (o := false) (k := .tup) (ys := [.int b.1, Sb.I false b.2]) rfl ⟨fe⟩) (fun h => by cases h)
      have lo := listOf_go (x := .val (Sb.I false b.2)) (o := false) (k := .lst) (xs := b.2.map .int) (xs' := b.2.map .int) i1 rfl rfl inferInstance rfl
      exact set_val (VH.ife_go (b := false) rfl (tup_ok (ds := [.int b.1, Sb.I true b.2]) (cons_ok (set_val i0) (cons_ok (set_val lo) (nil_ok _))) rfl (Nat.le_of_ble_eq_true rfl)))
    · rw [if_neg ht, if_neg ht]
      exact set_val (VH.ife_go (b := true) rfl rfl)
  generalize (List.range BL.length).map (cellO th BL) = hs at h9 fO
  have s9 := VH.asg_go (i := 9) (set_val h9) (r2 := Q (some (Nd true hs)) a10 a11 a12) rfl
  -- rows
  have x10 := sl_sn (fa := cVar 8) (fl := cB (b1 lenD) (cCons (cVar 3) cNil)) (i := ((BL.length : Nat) : Int)) (x := .loc 8) (k := .lst) (o := true) (xs := ts) (xs' := ts) (r := Q (some (Nd true hs)) a10 a11 a12) (VL.cvar_loc rfl rfl) rfl rfl fcT (ln3 _ a10 a11 a12) (VH.touch_l (o := true) (k := .lst) (ys := ts) rfl fcT) (by omega)
  rw [Int.toNat_natCast, edr] at x10
  have h10 : rwE (Q (some (Nd true hs)) a10 a11 a12) = .ok (.val (Nd true ((List.range' BL.length r).map (Sl.cell true th (Sb.Y0 BL))))) (Q (some (Nd true hs)) a10 a11 a12) := by
    refine VH.lc_all (enc := Sl.cell false th (Sb.Y0 BL)) (g := Sl.cell true th (Sb.Y0 BL)) (r1 := Q (some (Nd true hs)) a10 a11 a12) (r0 := Q (some (Nd true hs)) a10 a11 a12) (List.range' BL.length r) (VH.it_lstG (k := .lst) (o := true) (set_val x10) rfl) rfl (by rw [List.length_range']; omega) fun z hz => ?_
    refine ⟨(Q (some (Nd true hs)) a10 a11 a12).set 14 (some (Sl.cell false th (Sb.Y0 BL) z)), rfl, (Q (some (Nd true hs)) a10 a11 a12).set 14 (some (Sl.cell false th (Sb.Y0 BL) z)), ?_, rfl⟩
    unfold Sl.cell
    by_cases ht : th z = true
    · rw [if_pos ht, if_pos ht]
      generalize Sb.Y0 BL z = row
      have lo := listOf_go (fa := cVar 14) (x := .loc 14) (o := false) (k := .lst) (xs := row.map .int) (xs' := row.map .int) (r := (Q (some (Nd true hs)) a10 a11 a12).set 14 (some (Sl.I false row))) (VL.cvar_loc rfl rfl) rfl rfl inferInstance (VH.touch_l (o := false) (k := .lst) (ys := row.map .int) rfl inferInstance)
      exact set_val (VH.ife_go (b := false) rfl lo)
    · rw [if_neg ht, if_neg ht]
      exact set_val (VH.ife_go (b := true) rfl rfl)
  generalize (List.range' BL.length r).map (Sl.cell true th (Sb.Y0 BL)) = rs at h10 fS
  have s10 := VH.asg_go (i := 10) (set_val h10) (r2 := Q (some (Nd true hs)) (some (Nd true rs)) a11 a12) rfl
  generalize Sb.cellsB th BL = cb at *
  generalize (List.range' BL.length r).map (Sl.cell false th (Sb.Y0 BL)) = sc at *
  -- mended
  have q9 : cSet (cVar 9) (Q (some (Nd true hs)) (some (Nd true rs)) a11 a12) = .ok (.val (Nd false cb)) (Q (some (Nd false cb)) (some (Nd true rs)) a11 a12) := VH.set_loc (d := Nd true hs) rfl rfl ⟨by show D.node .lst false (frzs hs) = _; rw [fO]⟩ rfl
  have tu := tup_ok (ds := [nt n, nt m, Nd false cb]) (cons_ok (set_val (cvar_at (r := Q (some (Nd true hs)) (some (Nd true rs)) a11 a12) (i := 1) (d := nt n) rfl rfl)) (cons_ok (set_val (cvar_at (r := Q (some (Nd true hs)) (some (Nd true rs)) a11 a12) (i := 2) (d := nt m) rfl rfl)) (cons_ok q9 (nil_ok _)))) rfl (Nat.le_of_ble_eq_true rfl)
  have fC : frz (D.node .tup false [nt n, nt m, Nd false cb]) = D.node .tup false [nt n, nt m, Nd false cb] := by
    show D.node .tup false [nt n, nt m, frz (Nd false cb)] = _
    rw [fz_Nd fcb]
  have h11 : mdE (Q (some (Nd true hs)) (some (Nd true rs)) a11 a12) = .ok (.val (Wh n m BL)) (Q (some (Nd false cb)) (some (Nd true rs)) a11 a12) := VH.call_go (F := F_mended) (n := 2) (xs := [.val (.node .tup false [nt n, nt m, Nd false cb]), .loc 10]) (ds := [.node .tup false [nt n, nt m, Nd false cb], Nd true rs]) (ds' := [.node .tup false [nt n, nt m, Nd false cb], Nd false sc]) (cons_ok tu (cons_ok (VL.cvar_loc rfl rfl) (nil_ok _))) rfl ⟨by
    show [frz (D.node .tup false [nt n, nt m, Nd false cb]), D.node .lst false (frzs rs)] = _
    rw [fC, fS]⟩ rfl yes ⟨by
      show (true && (true && (noL (Sb.Bl true true BL) && true))) = true
      rw [Sb.noL_BlT]
      rfl⟩
  let P := fun (a10 : Option D) (w : D) (a12 : Option D) => Q (some (Nd false cb)) a10 (some w) a12
  have s11 := VH.asg_go (i := 11) (set_val h11) (r2 := P (some (Nd true rs)) (Wh n m BL) a12) rfl
  -- tests
  let W := Wh n m BL
  have u1 : cB (gIsi (etab tab)) (cCons (cVar 11) (cCons (cC (.ty "tuple")) cNil)) (P (some (Nd true rs)) W a12) = .ok (.val (.bl true)) (P (some (Nd true rs)) W a12) := isi_go (VL.cvar_loc rfl rfl) rfl rfl
  have u2 := ne_ok (fb := cC (.int 3)) (j := 3) (VH.len_go (k := .tup) (o := false) (xs := [nt n, nt m, Sb.Bl true true BL]) (fa := cVar 11) (x := .loc 11) (r := P (some (Nd true rs)) W a12) (VL.cvar_loc rfl rfl) rfl rfl) rfl
  have fBl : ∀ B : List Sb.Blk, frz (Sb.Bl false false B) = Sb.Bl false false B := fun B => by
    show D.node .lst false (frzs _) = _
    rw [Sb.frzs_enB]
  have fCt : ∀ B : List Sb.Blk, frzs [nt n, nt m, Sb.Bl false false B] = [nt n, nt m, Sb.Bl false false B] := fun B => by
    show [nt n, nt m, frz (Sb.Bl false false B)] = _
    rw [fBl]
  have ixF : ∀ (B : List Sb.Blk) (r' : Rho), r'[11]? = some (some (Sb.Ct n m B)) → cBin gIx (cVar 11) (cC (.int 2)) r' = .ok (.val (Sb.Bl false false B)) r' := fun B r' h => ix_go (n := 2) (x := .loc 11) (k := .tup) (o := false) (xs := [nt n, nt m, Sb.Bl false false B]) (d := Sb.Bl false false B) (VL.cvar_loc h rfl) rfl (VL.opd_loc' h) rfl rfl ⟨fBl B⟩ (VH.touch_l (o := false) (k := .tup) (ys := [nt n, nt m, Sb.Bl false false B]) h ⟨fCt B⟩) (fun h => by cases h)
  have frA : ∀ (a10 a10' : D) (w w' : D) (a12 a12' : Option D), frz a10 = a10' → frz w = w' → a12.map frz = a12' → frzR (P (some a10) w a12) = [some (script ns), some (nt n), some (nt m), some (Sb.Bl false false BL), some (Sb.Ct n m BL), some (frz d1), some (Sb.M false false sp), some (nt t), some (Nd false ts), some (Nd false cb), some a10', some w', a12', none, none, none, none] := fun a10 a10' w w' a12 a12' h1 h2 h3 => by
    subst h1 h2 h3
    show [some (frz (script ns)), some (nt n), some (nt m), some (frz (Sb.Bl false false BL)), some (frz (Sb.Ct n m BL)), some (frz d1), some (frz (Sb.M false false sp)), some (nt t), some (frz (Nd true ts)), some (frz (Nd false cb)), some (frz a10), some (frz w), a12.map frz, none, none, none, none] = _
    rw [Sb.frz_script, fBl, Sb.frz_Ct, fz_Nd fcT.e, fz_Nd fcb, show frz (Sb.M false false sp) = Sb.M false false sp by show D.node .lst false (frzs _) = _; rw [Sb.frzs_M]]
  have fr1 := frA (Nd true rs) (Nd false sc) W (Sb.Ct n m BL) a12 (a12.map frz) (by show D.node .lst false (frzs rs) = _; rw [fS]) (fz_Wh n m BL) rfl
  have u3 : pureE (P (some (Nd true rs)) W a12) = .ok (.val (.bl true)) (P (some (Nd true rs)) W a12) := VL.pure_ok (r1 := frzR (P (some (Nd true rs)) W a12)) (by
    rw [fr1]
    exact isi_go (ixF BL _ rfl) rfl rfl) rfl
  have u4 := VH.neD_go (fa := cVar 11) (fb := cVar 4) (x := .loc 11) (y := .loc 4) (r := P (some (Nd true rs)) W a12) (VL.cvar_loc rfl rfl) (VL.cvar_loc rfl rfl) rfl rfl (VL.neD_same (fp_Wh n m BL) (by decide) (py_Wh n m BL))
  have uu := VH.or_go (VH.not_t u1) (VH.or_go u2 (VH.or_go (VH.not_t u3) u4))
  -- the walk
  have ap := appAll_ok BL fun b hb => (gC.g b hb).len
  have s12 : cForGA 11 [2] 12 0 (P (some (Nd true rs)) W a12) = .nx (P (some (Nd true rs)) (Wh n m (more BL)) (some .any)) := forGA_ok (i := 11) (a := 12) (p := [2]) (c := 0) (d := W) (o := true) rfl rfl ap (by show 12 < 17; decide) (fun z => by
    have := congrArg List.length z
    rw [List.length_map, List.length_nil] at this
    omega)
  generalize hm : more BL = BM at s12
  -- lengths
  have fr2 := frA (Nd true rs) (Nd false sc) (Wh n m BM) (Sb.Ct n m BM) (some .any) (some .any) (by show D.node .lst false (frzs rs) = _; rw [fS]) (fz_Wh n m BM) rfl
  have lm : BM.length = BL.length := by rw [← hm]; exact List.length_map _
  have lA : lnA (frzR (P (some (Nd true rs)) (Wh n m BM) (some .any))) = .ok (.val (.node .lst true (BM.map fun b => nt b.2.length))) (frzR (P (some (Nd true rs)) (Wh n m BM) (some .any))) := by
    rw [fr2]
    let F : Rho := [some (script ns), some (nt n), some (nt m), some (Sb.Bl false false BL), some (Sb.Ct n m BL), some (frz d1), some (Sb.M false false sp), some (nt t), some (Nd false ts), some (Nd false cb), some (Nd false sc), some (Sb.Ct n m BM), some .any, none, none, none, none]
    refine VH.lc_all (enc := Sb.enB false) (g := fun b => nt b.2.length) (r1 := F) (r0 := F) BM (VH.it_lstG (k := .lst) (o := false) (set_val (ixF BM F rfl)) rfl) rfl (by omega) fun b _ => ?_
    refine ⟨(F.set 15 (some (.int b.1))).set 16 (some (Sb.I false b.2)), rfl, (F.set 15 (some (.int b.1))).set 16 (some (Sb.I false b.2)), set_val ?_, rfl⟩
    exact VH.lenE_go (fa := cVar 16) (f := D.int) (xs := b.2) (k := .lst) (o := false) (x := .loc 16) (r := (F.set 15 (some (.int b.1))).set 16 (some (Sb.I false b.2))) (VL.cvar_loc rfl rfl) rfl rfl
  have eA : (BM.map fun b => nt b.2.length) = (BM.map fun b => b.2.length).map nt := by rw [List.map_map]; rfl
  have pA : cPure lnA (P (some (Nd true rs)) (Wh n m BM) (some .any)) = .ok (.val (.node .lst true (BM.map fun b => nt b.2.length))) (P (some (Nd true rs)) (Wh n m BM) (some .any)) := VL.pure_ok lA (by rw [eA]; exact noL_nts _)
  have it3 := VH.it_lstG (fa := cVar 3) (k := .lst) (o := false) (ds := BL.map (Sb.enB false)) (VH.set_any (i := 3) (r := P (some (Nd true rs)) (Wh n m BM) (some .any)) rfl (fBl BL)) rfl
  have lB : lnB (P (some (Nd true rs)) (Wh n m BM) (some .any)) = .ok (.val (.node .lst true (BL.map fun b => D.int (((b.2.length : Nat) : Int) + 1)))) (P (some (Nd true rs)) (Wh n m BM) (some .any)) := by
    let F := P (some (Nd true rs)) (Wh n m BM) (some .any)
    refine VH.lc_all (enc := Sb.enB false) (g := fun b => D.int (((b.2.length : Nat) : Int) + 1)) (r1 := F) (r0 := F) BL it3 rfl (by omega) fun b _ => ?_
    refine ⟨(F.set 15 (some (.int b.1))).set 16 (some (Sb.I false b.2)), rfl, (F.set 15 (some (.int b.1))).set 16 (some (Sb.I false b.2)), set_val ?_, rfl⟩
    exact add_ok (fb := cC (.int 1)) (j := 1) (VH.lenE_go (fa := cVar 16) (f := D.int) (xs := b.2) (k := .lst) (o := false) (x := .loc 16) (r := (F.set 15 (some (.int b.1))).set 16 (some (Sb.I false b.2))) (VL.cvar_loc rfl rfl) rfl rfl) rfl
  have eq : (BM.map fun b => nt b.2.length) = (BL.map fun b => ((b.2.length : Nat) : Int) + 1).map D.int := by
    rw [← hm]
    unfold more
    rw [List.map_map, List.map_map]
    refine List.map_congr_left fun b _ => ?_
    show D.int (((b.2 ++ [0]).length : Nat) : Int) = D.int (((b.2.length : Nat) : Int) + 1)
    rw [List.length_append]
    rfl
  have eB : (BL.map fun b => D.int (((b.2.length : Nat) : Int) + 1)) = (BL.map fun b => ((b.2.length : Nat) : Int) + 1).map D.int := by rw [List.map_map]; rfl
  rw [eq] at pA
  rw [eB] at lB
  have u5 := VH.neD_go pA lB rfl rfl (VL.ne_lints (o := true) (o' := true) _ _)
  rw [decide_eq_true rfl] at u5
  -- cleared
  let W0 : D := .node .tup false [nt n, nt m, .node .lst true []]
  have s13 : cExpr (cClrP 11 (cC (.int 2))) (P (some (Nd true rs)) (Wh n m BM) (some .any)) = .nx (P (some (Nd true rs)) W0 (some .any)) := clrP_ok (m := 2) (kk := 2) (k := .tup) (o := false) (ds := [nt n, nt m, Sb.Bl true true BM]) (acc := BM.map (Sb.enB true)) rfl rfl rfl rfl rfl rfl
  -- the last test
  have ad := VL.bin_ok (g := gAdd) (fa := cVar 9) (fb := cVar 10) (r := P (some (Nd true rs)) W0 (some .any)) (VL.cvar_loc rfl rfl) (VL.cvar_loc rfl rfl) (q_addL (x := .loc 9) (y := .loc 10) (r := P (some (Nd true rs)) W0 (some .any)) (o := false) (o' := true) (xs := cb) (ys := rs) rfl rfl (by
    have h1 := congrArg List.length etk
    have h2 := congrArg List.length fS
    rw [frzs_length] at h2
    have h3 := congrArg List.length edr
    rw [List.length_take, lT] at h1
    rw [List.length_drop, lT] at h3
    omega))
  have tc : touch (touch (P (some (Nd true rs)) W0 (some .any)) (.loc 10)) (.loc 9) = P (some (Nd true sc)) W0 (some .any) := by
    rw [touch_loc (i := 10) (d := Nd true rs) rfl]
    show touch ((P (some (Nd true rs)) W0 (some .any)).set 10 (some (.node .lst true (frzs rs)))) (.loc 9) = _
    rw [fS]
    show touch (P (some (Nd true sc)) W0 (some .any)) (.loc 9) = _
    rw [touch_loc (i := 9) (d := Nd false cb) rfl]
    show (P (some (Nd true sc)) W0 (some .any)).set 9 (some (.node .lst false (frzs cb))) = _
    rw [fcb]
    rfl
  rw [tc, fcb, fS, ← etw] at ad
  have u6 := VH.neD_go (fb := cVar 8) (y := .loc 8) ad (VL.cvar_loc rfl rfl) rfl rfl (VL.neD_same fpT (by decide) rfl)
  exact ⟨d1, _, _, _, _, _, seq_go s8 (seq_go s9 (seq_go s10 (seq_go s11 (seq_go (VH.ifs_n uu rfl rfl) (seq_go s12 (seq_go (VH.ifs_n u5 rfl rfl) (seq_go s13 (VH.ifs_n u6 rfl rfl)))))))), p1⟩

end K81.Lw

namespace K81.Lw
open VH K81
theorem turns (ns : List Int) {n m : Nat} {BL : List Sb.Blk} (gC : Sb.GoodC n m BL) (r : Nat) (hr : r ≤ 16) : ∀ (ks : List Nat) {d : D} {q : Nat} (o6 : Bool) (a7 a8 a9 a10 a11 a12 : Option D), Sb.Pool d q → q + 100 * ks.length ≤ 5000 → ∃ r', forL (.nm 7) turnB (ks.map nt) (Z17 ns n m BL d (Sb.M o6 o6 (Sl.spares (Sb.slab BL) (Sb.wd BL) r)) a7 a8 a9 a10 a11 a12) = .nx r'
  | [], d, q, o6, a7, a8, a9, a10, a11, a12, _, _ => ⟨_, rfl⟩
  | k :: ks, d, q, o6, a7, a8, a9, a10, a11, a12, hp, hq => by
    rw [List.length_cons] at hq
    obtain ⟨d', b8, b9, b10, b11, b12, e, p'⟩ := turn_ok ns gC r hr hp (by omega) o6 k a8 a9 a10 a11 a12
    obtain ⟨r', e2⟩ := turns ns gC r hr ks false (some (nt k)) b8 b9 b10 b11 b12 p' (by omega)
    exact ⟨r', forL_c rfl e e2⟩
theorem slab_rows {BL : List Sb.Blk} (h : Sb.GoodBs BL) : Sl.Rows (Sb.wd BL) (Sb.slab BL) := fun row hr => by
  obtain ⟨q, hq, rfl⟩ := List.mem_map.mp hr
  obtain ⟨b, hb, rfl⟩ := List.mem_map.mp hq
  refine ⟨Sb.pad_len (Sb.le_mx (List.mem_map_of_mem (List.mem_map_of_mem hb))), fun x hx => ?_⟩
  have := Sb.pad_lo (h b hb) hx
  omega
theorem law_plain0 (ns : List Int) (hl : ns.length ≤ 63) : F_law [script ns] = .ok (.bl true) := by
  obtain ⟨n, m, BL, ec, hb, s1, s2, t1, k1, k2, k3⟩ := Sb.container_ok ns
  have gC : Sb.GoodC n m BL := ⟨hb, s1, s2, t1, k1, k2, k3⟩
  let R0 : Rho := startR 17 [script ns]
  have fBl : frz (Sb.Bl false false BL) = Sb.Bl false false BL := by
    show D.node .lst false (frzs _) = _
    rw [Sb.frzs_enB]
  have c1 := VH.call_any (F := F__law_container) (n := 1) (xs := [.loc 0]) (ds := [script ns]) (ds' := [script ns]) (fs := cCons (cVar 0) cNil) (r := R0) (cons_ok (VL.cvar_loc rfl rfl) (nil_ok _)) rfl ⟨by show [frz (script ns)] = _; rw [Sb.frz_script]⟩ rfl ec (by
    show some (frz (script ns)) :: _ = _
    rw [Sb.frz_script]
    rfl)
  let R1 : Rho := [some (script ns), some (nt n), some (nt m), some (Sb.Bl false false BL), none, none, none, none, none, none, none, none, none, none, none, none, none]
  have z1 : cAsg (.tp [1, 2, 3]) (cCall 1 F__law_container (cCons (cVar 0) cNil)) R0 = .nx R1 := VH.asgT_go (set_val c1) rfl
  have g3 : cSet (cVar 3) R1 = .ok (.val (Sb.Bl false false BL)) R1 := VH.set_any (i := 3) rfl fBl
  have tu := tup_ok (ds := [nt n, nt m, Sb.Bl false false BL]) (cons_ok (set_val (cvar_at (r := R1) (i := 1) (d := nt n) rfl rfl)) (cons_ok (set_val (cvar_at (r := R1) (i := 2) (d := nt m) rfl rfl)) (cons_ok g3 (nil_ok _)))) rfl (Nat.le_of_ble_eq_true rfl)
  let R2 : Rho := R1.set 4 (some (Sb.Ct n m BL))
  have z2 := VH.asg_go (i := 4) (set_val tu) (r2 := R2) rfl
  obtain ⟨d, ep, hp, nl⟩ := Sb.pool_ok ns 1
  have c5 := VH.call_go (F := F__law_pool) (n := 2) (xs := [.loc 0, .val (nt 1)]) (ds := [script ns, nt 1]) (ds' := [script ns, nt 1]) (fs := cCons (cVar 0) (cCons (cC (.int 1)) cNil)) (r := R2) (cons_ok (VL.cvar_loc rfl rfl) (cons_ok rfl (nil_ok _))) rfl ⟨by show [frz (script ns), _] = _; rw [Sb.frz_script]; rfl⟩ rfl ep ⟨nl⟩
  let R3 := fun (d : D) => R2.set 5 (some d)
  have z3 := VH.asg_go (i := 5) (set_val c5) (r2 := R3 d) rfl
  have cs := VH.call_go (F := F_slab_of) (n := 1) (xs := [.loc 4]) (ds := [Sb.Ct n m BL]) (ds' := [Sb.Ct n m BL]) (fs := cCons (cVar 4) cNil) (r := R3 d) (cons_ok (VL.cvar_loc rfl rfl) (nil_ok _)) rfl ⟨by show [frz (Sb.Ct n m BL)] = _; rw [Sb.frz_Ct]⟩ rfl (Sb.slab_of_ok gC) ⟨Sb.noL_M _⟩
  obtain ⟨v1, d1, e1, h1, p1⟩ := Sb.takeQ (r := R3 d) (r1 := R3 d) (i := 5) (fa := cC (.int 4)) (m := 4) rfl hp (by omega) rfl (hp.var rfl) (by decide) (by decide)
  obtain ⟨v2, d2, e2, h2, p2⟩ := Sb.takeQ (r := R3 d1) (r1 := R3 d1) (i := 5) (fa := cC (.int 17)) (m := 17) rfl p1 (by omega) rfl (p1.var rfl) (by decide) (by decide)
  have l3 := VH.lst_ok (ds := [nt v1, nt v2]) (cons_ok (set_val e1) (cons_ok (set_val e2) (nil_ok _))) rfl (Nat.le_of_ble_eq_true rfl)
  obtain ⟨v3, d3, e3, h3, p3⟩ := Sb.takeQ (r := R3 d2) (r1 := R3 d2) (i := 5) (fa := cC (.int 2)) (m := 2) rfl p2 (by omega) rfl (p2.var rfl) (by decide) (by decide)
  obtain ⟨r, e4, hr⟩ := two_nt l3 e3 h3
  have so := Sl.spares_ok (slab_rows hb) (by rw [Sb.slab_len]; omega) (by rw [Sb.slab_len]; omega) (by have := Sb.wd_lt hb; omega) r (by omega)
  have c6 := VH.call_go (F := F_spares_of) (n := 2) (xs := [.val (Sb.M true true (Sb.slab BL)), .val (nt r)]) (ds := [Sb.M true true (Sb.slab BL), nt r]) (ds' := [Sl.M false false (Sb.slab BL), nt r]) (r := R3 d) (cons_ok cs (cons_ok e4 (nil_ok _))) rfl ⟨by
    show [D.node .lst false (frzs ((Sb.slab BL).map (Sb.I true))), _] = _
    rw [Sb.frzs_M]
    rfl⟩ rfl so ⟨Sl.noL_M _⟩
  have z4 := VH.asg_go (i := 6) (set_val c6) (r2 := Z17 ns n m BL d3 (Sb.M true true (Sl.spares (Sb.slab BL) (Sb.wd BL) r)) none none none none none none) rfl
  let S := Z17 ns n m BL d3 (Sb.M true true (Sl.spares (Sb.slab BL) (Sb.wd BL) r)) none none none none none none
  have ln := VH.lenE_go (fa := cVar 3) (f := Sb.enB false) (xs := BL) (k := .lst) (o := false) (x := .loc 3) (r := S) (VL.cvar_loc rfl rfl) rfl rfl
  have lt := lt_ok (fb := cC (.int 10)) (j := 10) ln rfl
  obtain ⟨w, hw, ei⟩ : ∃ w : Nat, w < 2 ∧ cB (b1 intD) (cCons (cBin gLt (cB (b1 lenD) (cCons (cVar 3) cNil)) (cC (.int 10))) cNil) S = .ok (.val (nt w)) S := by
    by_cases h : ((BL.length : Nat) : Int) < 10
    · rw [decide_eq_true h] at lt
      exact ⟨1, by decide, VL.b1_ok lt rfl rfl rfl⟩
    · rw [decide_eq_false h] at lt
      exact ⟨0, by decide, VL.b1_ok lt rfl rfl rfl⟩
  have l13 : cLst (cCons (cSet (cC (.int 1))) (cCons (cSet (cC (.int 3))) cNil)) S = .ok (.val (.node .lst true [nt 1, nt 3])) S := rfl
  obtain ⟨z, ez, hz⟩ := two_nt l13 ei hw
  have it := VH.it_rngI ez (by unfold within; exact decide_eq_true (by omega))
  rw [Int.toNat_natCast, VH.rng_nt] at it
  obtain ⟨r', e⟩ := turns ns gC r (by omega) (List.range z) true none none none none none none p3 (by rw [List.length_range]; omega)
  have z5 := for_go (t := .nm 7) it e
  unfold F_law f_law
  exact runF_go (r := R0) (r1 := r') (x := .val (.bl true)) rfl (seq_go z1 (seq_go z2 (seq_go z3 (seq_go z4 (seq_go z5 rfl))))) rfl

end K81.Lw
namespace K81
open VL
theorem law_plain (ns : List Int) (hl : ns.length ≤ 63) : F_law [script ns] = .ok (.bl true) := Lw.law_plain0 ns hl
end K81

namespace K81
local macro_rules | `(tactic| walk_at "S") => `(tactic| exact ⟨⟨rfl, rfl, rfl, by decide +kernel, rfl, by decide +kernel, by decide +kernel⟩, rfl, by decide +kernel, by decide +kernel, by decide +kernel⟩) -- own
def top (i : Nat) : Stmt := PySem.Challenge.pw_packhall_k81_whole_lost_blocks_back.main.body.getD i (.Pass ⟨0, 0, 0, 0⟩)
abbrev s__law_pool : Stmt := top 27
def N__law_pool : List Str := ["script", "k", "cell"]
theorem sc__law_pool : FnQ N__law_pool N__law_pool ["len"] ["script", "k"] (defScope s__law_pool) := by walk_at "S"
abbrev s__law_take : Stmt := top 28
def N__law_take : List Str := ["pool", "many", "found", "step", "mark"]
theorem sc__law_take : FnQ N__law_take N__law_take [] ["pool", "many"] (defScope s__law_take) := by walk_at "S"
abbrev s__law_bits : Stmt := top 29
def N__law_bits : List Str := ["pool", "some", "long", "kind", "place"]
theorem sc__law_bits : FnQ N__law_bits ["pool", "some", "long", "kind"] ["_law_take", "range"] ["pool"] (defScope s__law_bits) := by walk_at "S"
abbrev s__law_container : Stmt := top 30
def N__law_container : List Str := ["script", "pool", "size", "most", "bound", "many", "total", "blocks", "k", "some", "way"]
theorem sc__law_container : FnQ N__law_container N__law_container ["_law_pool", "_law_take", "min", "range", "_law_bits"] ["script"] (defScope s__law_container) := by walk_at "S"
abbrev s_turned_over : Stmt := top 8
def N_turned_over : List Str := ["number", "power", "one"]
theorem sc_turned_over : FnQ N_turned_over N_turned_over ["range", "PRIME"] ["number"] (defScope s_turned_over) := by walk_at "S"
abbrev s_shares_at : Stmt := top 9
def N_shares_at : List Str := ["places", "x", "found", "place", "above", "below", "other"]
theorem sc_shares_at : FnQ N_shares_at N_shares_at ["PRIME", "turned_over"] ["places", "x"] (defScope s_shares_at) := by walk_at "S"
abbrev s_row_at : Stmt := top 10
def N_row_at : List Str := ["rows", "places", "x", "shares", "found", "column", "share", "place"]
theorem sc_row_at : FnQ N_row_at ["rows", "places", "x", "shares", "found", "column"] ["shares_at", "range", "len", "sum", "zip", "PRIME"] ["rows", "places", "x"] (defScope s_row_at) := by walk_at "S"
abbrev s_spares_of : Stmt := top 11
def N_spares_of : List Str := ["slab", "r", "places", "one"]
theorem sc_spares_of : FnQ N_spares_of ["slab", "r", "places"] ["list", "range", "len"] ["slab", "r"] (defScope s_spares_of) := by walk_at "S"
abbrev s_need_container : Stmt := top 19
def N_need_container : List Str := ["container", "size", "total", "blocks", "block"]
theorem sc_need_container : FnQ N_need_container N_need_container ["len", "Broken"] ["container"] (defScope s_need_container) := by walk_at "S"
abbrev s_need_block : Stmt := top 20
def N_need_block : List Str := ["block", "way", "bits", "bit"]
theorem sc_need_block : FnQ N_need_block N_need_block ["MOST_WAY", "len", "MOST_BITS", "NoNumber", "isinstance", "int", "bool"] ["block"] (defScope s_need_block) := by walk_at "S"
abbrev s_need_blocks : Stmt := top 21
def N_need_blocks : List Str := ["container", "blocks", "block"]
theorem sc_need_blocks : FnQ N_need_blocks N_need_blocks ["need_container", "len", "MOST_BLOCKS", "NoNumber", "need_block"] ["container"] (defScope s_need_blocks) := by walk_at "S"
abbrev s_short_row : Stmt := top 22
def N_short_row : List Str := ["block", "way", "bits", "row", "at", "number", "bit"]
theorem sc_short_row : FnQ N_short_row N_short_row ["len", "range"] ["block"] (defScope s_short_row) := by walk_at "S"
abbrev s_slab_of : Stmt := top 23
def N_slab_of : List Str := ["container", "rows", "longest", "block", "row"]
theorem sc_slab_of : FnQ N_slab_of ["container", "rows", "longest"] ["need_blocks", "max"] ["container"] (defScope s_slab_of) := by walk_at "S"
abbrev s__law_some : Stmt := top 31
def N__law_some : List Str := ["blocks", "spares", "pool", "found", "turn", "way", "bits", "row"]
theorem sc__law_some : FnQ N__law_some ["blocks", "spares", "pool", "found", "turn"] ["range", "len", "_law_take"] ["blocks", "spares", "pool"] (defScope s__law_some) := by walk_at "S"
abbrev s_need_rows : Stmt := top 12
def N_need_rows : List Str := ["rows", "k", "there", "row", "number"]
theorem sc_need_rows : FnQ N_need_rows N_need_rows ["MOST_ROWS", "len", "MOST_SPARES", "Broken", "PRIME"] ["rows", "k"] (defScope s_need_rows) := by walk_at "S"
abbrev s_all_by : Stmt := top 13
def N_all_by : List Str := ["rows", "places", "found", "x"]
theorem sc_all_by : FnQ N_all_by N_all_by ["range", "len", "list", "row_at"] ["rows", "places"] (defScope s_all_by) := by walk_at "S"
abbrev s_mend_rows : Stmt := top 14
def N_mend_rows : List Str := ["rows", "k", "places", "found", "x"]
theorem sc_mend_rows : FnQ N_mend_rows N_mend_rows ["need_rows", "range", "len", "Broken", "all_by", "list"] ["rows", "k"] (defScope s_mend_rows) := by walk_at "S"
abbrev s_block_of : Stmt := top 24
def N_block_of : List Str := ["row", "many", "bits", "number", "place"]
theorem sc_block_of : FnQ N_block_of ["row", "many", "bits", "number"] ["len", "Broken", "range"] ["row"] (defScope s_block_of) := by walk_at "S"
abbrev s_mended : Stmt := top 25
def N_mended : List Str := ["container", "spares", "size", "total", "blocks", "rows", "there", "longest", "found", "whole", "block", "row"]
theorem sc_mended : FnQ N_mended ["container", "spares", "size", "total", "blocks", "rows", "there", "longest", "found", "whole"] ["need_blocks", "list", "max", "mend_rows", "len", "slab_of", "Broken"] ["container", "spares"] (defScope s_mended) := by walk_at "S"
abbrev s_law : Stmt := top 32
def N_law : List Str := ["script", "size", "total", "blocks", "whole", "pool", "spares", "turn", "some", "handed", "rows", "found", "block", "one", "row", "way", "bits"]
theorem sc_law : FnQ N_law ["script", "size", "total", "blocks", "whole", "pool", "spares", "turn", "some", "handed", "rows", "found", "block"] ["_law_container", "_law_pool", "spares_of", "slab_of", "_law_take", "range", "int", "len", "_law_some", "list", "mended", "isinstance", "tuple"] ["script"] (defScope s_law) := by walk_at "S"
def S__law_bits_1 : List (Str × NameKind) := [(".0", .local), ("place", .local), ("_law_take", .globalImplicit), ("pool", .free)]
def S_row_at_1 : List (Str × NameKind) := [(".0", .local), ("share", .local), ("place", .local), ("column", .free), ("rows", .free)]
def S_spares_of_1 : List (Str × NameKind) := [(".0", .local), ("one", .local), ("row_at", .globalImplicit), ("len", .globalImplicit), ("places", .free), ("slab", .free)]
def S_slab_of_1 : List (Str × NameKind) := [(".0", .local), ("block", .local), ("short_row", .globalImplicit)]
def S_slab_of_2 : List (Str × NameKind) := [(".0", .local), ("row", .local), ("len", .globalImplicit)]
def S_slab_of_3 : List (Str × NameKind) := [(".0", .local), ("row", .local), ("len", .globalImplicit), ("longest", .free)]
def S__law_some_1 : List (Str × NameKind) := [(".0", .local), ("way", .local), ("bits", .local), ("list", .globalImplicit)]
def S__law_some_2 : List (Str × NameKind) := [(".0", .local), ("row", .local), ("list", .globalImplicit)]
def S_need_rows_1 : List (Str × NameKind) := [(".0", .local), ("row", .local)]
def S_mend_rows_1 : List (Str × NameKind) := [(".0", .local), ("x", .local), ("rows", .free)]
def S_block_of_1 : List (Str × NameKind) := [(".0", .local), ("place", .local), ("number", .free)]
def S_mended_1 : List (Str × NameKind) := [(".0", .local), ("block", .local), ("short_row", .globalImplicit)]
def S_mended_2 : List (Str × NameKind) := [(".0", .local), ("row", .local)]
def S_mended_3 : List (Str × NameKind) := [(".0", .local), ("row", .local), ("len", .globalImplicit)]
def S_mended_4 : List (Str × NameKind) := [(".0", .local), ("row", .local), ("len", .globalImplicit), ("longest", .free)]
def S_mended_5 : List (Str × NameKind) := [(".0", .local), ("row", .local), ("block_of", .globalImplicit)]
def S_law_1 : List (Str × NameKind) := [(".0", .local), ("one", .local), ("list", .globalImplicit)]
def S_law_2 : List (Str × NameKind) := [(".0", .local), ("row", .local), ("list", .globalImplicit)]
def S_law_3 : List (Str × NameKind) := [(".0", .local), ("way", .local), ("bits", .local), ("len", .globalImplicit)]
def S_law_4 : List (Str × NameKind) := [(".0", .local), ("way", .local), ("bits", .local), ("len", .globalImplicit)]
theorem d__law_take : FDb "_law_take" := by decide +kernel
theorem i__law_bits_place : FNi N__law_bits 4 "place" := rfl
theorem k__law_bits_1_place : List.lookup ("place" : Str) S__law_bits_1 = some .local := by decide +kernel
theorem k__law_bits_1_pool : List.lookup ("pool" : Str) S__law_bits_1 = some .free := by decide +kernel
theorem k__law_bits_1__law_take : List.lookup ("_law_take" : Str) S__law_bits_1 = some .globalImplicit := by decide +kernel
theorem v_min : bootBuiltins "min" = some (.builtin "min") := rfl
theorem nn_min : ("min" : Str) ≠ "__name__" := by decide +kernel
theorem d__law_bits : FDb "_law_bits" := by decide +kernel
theorem i_row_at_place : FNi N_row_at 7 "place" := rfl
theorem k_row_at_1_place : List.lookup ("place" : Str) S_row_at_1 = some .local := by decide +kernel
theorem i_row_at_share : FNi N_row_at 6 "share" := rfl
theorem k_row_at_1_share : List.lookup ("share" : Str) S_row_at_1 = some .local := by decide +kernel
theorem k_row_at_1_rows : List.lookup ("rows" : Str) S_row_at_1 = some .free := by decide +kernel
theorem k_row_at_1_column : List.lookup ("column" : Str) S_row_at_1 = some .free := by decide +kernel
theorem v_sum : bootBuiltins "sum" = some (.builtin "sum") := rfl
theorem nn_sum : ("sum" : Str) ≠ "__name__" := by decide +kernel
theorem i_spares_of_one : FNi N_spares_of 3 "one" := rfl
theorem k_spares_of_1_one : List.lookup ("one" : Str) S_spares_of_1 = some .local := by decide +kernel
theorem k_spares_of_1_slab : List.lookup ("slab" : Str) S_spares_of_1 = some .free := by decide +kernel
theorem k_spares_of_1_places : List.lookup ("places" : Str) S_spares_of_1 = some .free := by decide +kernel
theorem k_spares_of_1_len : List.lookup ("len" : Str) S_spares_of_1 = some .globalImplicit := by decide +kernel
theorem k_spares_of_1_row_at : List.lookup ("row_at" : Str) S_spares_of_1 = some .globalImplicit := by decide +kernel
theorem d_row_at : FDb "row_at" := by decide +kernel
theorem v_int : bootBuiltins "int" = some (.type "int") := rfl
theorem nn_int : ("int" : Str) ≠ "__name__" := by decide +kernel
theorem v_isinstance : bootBuiltins "isinstance" = some (.builtin "isinstance") := rfl
theorem nn_isinstance : ("isinstance" : Str) ≠ "__name__" := by decide +kernel
theorem v_bool : bootBuiltins "bool" = some (.type "bool") := rfl
theorem nn_bool : ("bool" : Str) ≠ "__name__" := by decide +kernel
theorem i_slab_of_block : FNi N_slab_of 3 "block" := rfl
theorem k_slab_of_1_block : List.lookup ("block" : Str) S_slab_of_1 = some .local := by decide +kernel
theorem k_slab_of_1_short_row : List.lookup ("short_row" : Str) S_slab_of_1 = some .globalImplicit := by decide +kernel
theorem d_short_row : FDb "short_row" := by decide +kernel
theorem k_slab_of_rows : FKl "rows" s_slab_of := by decide +kernel
theorem i_slab_of_row : FNi N_slab_of 4 "row" := rfl
theorem k_slab_of_2_row : List.lookup ("row" : Str) S_slab_of_2 = some .local := by decide +kernel
theorem k_slab_of_2_len : List.lookup ("len" : Str) S_slab_of_2 = some .globalImplicit := by decide +kernel
theorem v_max : bootBuiltins "max" = some (.builtin "max") := rfl
theorem nn_max : ("max" : Str) ≠ "__name__" := by decide +kernel
theorem k_slab_of_3_row : List.lookup ("row" : Str) S_slab_of_3 = some .local := by decide +kernel
theorem k_slab_of_3_longest : List.lookup ("longest" : Str) S_slab_of_3 = some .free := by decide +kernel
theorem k_slab_of_3_len : List.lookup ("len" : Str) S_slab_of_3 = some .globalImplicit := by decide +kernel
theorem i__law_some_bits : FNi N__law_some 6 "bits" := rfl
theorem k__law_some_1_bits : List.lookup ("bits" : Str) S__law_some_1 = some .local := by decide +kernel
theorem i__law_some_way : FNi N__law_some 5 "way" := rfl
theorem k__law_some_1_way : List.lookup ("way" : Str) S__law_some_1 = some .local := by decide +kernel
theorem k__law_some_1_list : List.lookup ("list" : Str) S__law_some_1 = some .globalImplicit := by decide +kernel
theorem v_list : bootBuiltins "list" = some (.type "list") := rfl
theorem nn_list : ("list" : Str) ≠ "__name__" := by decide +kernel
theorem d_list : FDb "list" := by decide +kernel
theorem i__law_some_row : FNi N__law_some 7 "row" := rfl
theorem k__law_some_2_row : List.lookup ("row" : Str) S__law_some_2 = some .local := by decide +kernel
theorem k__law_some_2_list : List.lookup ("list" : Str) S__law_some_2 = some .globalImplicit := by decide +kernel
theorem k_need_rows_1_row : List.lookup ("row" : Str) S_need_rows_1 = some .local := by decide +kernel
theorem k_need_rows_there : FKl "there" s_need_rows := by decide +kernel
theorem k_mend_rows_1_x : List.lookup ("x" : Str) S_mend_rows_1 = some .local := by decide +kernel
theorem k_mend_rows_1_rows : List.lookup ("rows" : Str) S_mend_rows_1 = some .free := by decide +kernel
theorem k_mend_rows_places : FKl "places" s_mend_rows := by decide +kernel
theorem i_block_of_place : FNi N_block_of 4 "place" := rfl
theorem k_block_of_1_place : List.lookup ("place" : Str) S_block_of_1 = some .local := by decide +kernel
theorem k_block_of_1_number : List.lookup ("number" : Str) S_block_of_1 = some .free := by decide +kernel
theorem i_mended_block : FNi N_mended 10 "block" := rfl
theorem k_mended_1_block : List.lookup ("block" : Str) S_mended_1 = some .local := by decide +kernel
theorem k_mended_1_short_row : List.lookup ("short_row" : Str) S_mended_1 = some .globalImplicit := by decide +kernel
theorem k_mended_rows : FKl "rows" s_mended := by decide +kernel
theorem i_mended_row : FNi N_mended 11 "row" := rfl
theorem k_mended_2_row : List.lookup ("row" : Str) S_mended_2 = some .local := by decide +kernel
theorem k_mended_there : FKl "there" s_mended := by decide +kernel
theorem k_mended_3_row : List.lookup ("row" : Str) S_mended_3 = some .local := by decide +kernel
theorem k_mended_3_len : List.lookup ("len" : Str) S_mended_3 = some .globalImplicit := by decide +kernel
theorem k_mended_4_row : List.lookup ("row" : Str) S_mended_4 = some .local := by decide +kernel
theorem k_mended_4_longest : List.lookup ("longest" : Str) S_mended_4 = some .free := by decide +kernel
theorem k_mended_4_len : List.lookup ("len" : Str) S_mended_4 = some .globalImplicit := by decide +kernel
theorem k_mended_5_row : List.lookup ("row" : Str) S_mended_5 = some .local := by decide +kernel
theorem k_mended_5_block_of : List.lookup ("block_of" : Str) S_mended_5 = some .globalImplicit := by decide +kernel
theorem d_block_of : FDb "block_of" := by decide +kernel
theorem d__law_some : FDb "_law_some" := by decide +kernel
theorem i_law_one : FNi N_law 13 "one" := rfl
theorem k_law_1_one : List.lookup ("one" : Str) S_law_1 = some .local := by decide +kernel
theorem k_law_1_list : List.lookup ("list" : Str) S_law_1 = some .globalImplicit := by decide +kernel
theorem k_law_handed : FKl "handed" s_law := by decide +kernel
theorem i_law_row : FNi N_law 14 "row" := rfl
theorem k_law_2_row : List.lookup ("row" : Str) S_law_2 = some .local := by decide +kernel
theorem k_law_2_list : List.lookup ("list" : Str) S_law_2 = some .globalImplicit := by decide +kernel
theorem k_law_rows : FKl "rows" s_law := by decide +kernel
theorem v_tuple : bootBuiltins "tuple" = some (.type "tuple") := rfl
theorem nn_tuple : ("tuple" : Str) ≠ "__name__" := by decide +kernel
theorem i_law_bits : FNi N_law 16 "bits" := rfl
theorem k_law_3_bits : List.lookup ("bits" : Str) S_law_3 = some .local := by decide +kernel
theorem i_law_way : FNi N_law 15 "way" := rfl
theorem k_law_3_way : List.lookup ("way" : Str) S_law_3 = some .local := by decide +kernel
theorem k_law_3_len : List.lookup ("len" : Str) S_law_3 = some .globalImplicit := by decide +kernel
theorem k_law_4_bits : List.lookup ("bits" : Str) S_law_4 = some .local := by decide +kernel
theorem k_law_4_way : List.lookup ("way" : Str) S_law_4 = some .local := by decide +kernel
theorem k_law_4_len : List.lookup ("len" : Str) S_law_4 = some .globalImplicit := by decide +kernel
structure Txt (K : PySem.W.Frag) (mg : Str → Option Value) where
  C_NoNumber : Addr
  C_Broken : Addr
  cf_NoNumber : CF K mg "NoNumber" C_NoNumber
  cf_Broken : CF K mg "Broken" C_Broken
  rf_Broken : RF K C_Broken
  rf_NoNumber : RF K C_NoNumber
  ef : EF K
  n_len : mg "len" = none
  n_range : mg "range" = none
  n_min : mg "min" = none
  n_sum : mg "sum" = none
  n_zip : mg "zip" = none
  n_list : mg "list" = none
  n_isinstance : mg "isinstance" = none
  n_int : mg "int" = none
  n_bool : mg "bool" = none
  n_max : mg "max" = none
  n_tuple : mg "tuple" = none
  g_PRIME : KI mg "PRIME" 257
  g_MOST_WAY : KI mg "MOST_WAY" 255
  g_MOST_BITS : KI mg "MOST_BITS" 65535
  g_MOST_BLOCKS : KI mg "MOST_BLOCKS" 64
  g_MOST_ROWS : KI mg "MOST_ROWS" 64
  g_MOST_SPARES : KI mg "MOST_SPARES" 16
  d__law_pool : DF K mg "_law_pool" "_law_pool" s__law_pool ["script", "k"]
  d__law_take : DF K mg "_law_take" "_law_take" s__law_take ["pool", "many"]
  d__law_bits : DF K mg "_law_bits" "_law_bits" s__law_bits ["pool"]
  d__law_container : DF K mg "_law_container" "_law_container" s__law_container ["script"]
  d_turned_over : DF K mg "turned_over" "turned_over" s_turned_over ["number"]
  d_shares_at : DF K mg "shares_at" "shares_at" s_shares_at ["places", "x"]
  d_row_at : DF K mg "row_at" "row_at" s_row_at ["rows", "places", "x"]
  d_spares_of : DF K mg "spares_of" "spares_of" s_spares_of ["slab", "r"]
  d_need_container : DF K mg "need_container" "need_container" s_need_container ["container"]
  d_need_block : DF K mg "need_block" "need_block" s_need_block ["block"]
  d_need_blocks : DF K mg "need_blocks" "need_blocks" s_need_blocks ["container"]
  d_short_row : DF K mg "short_row" "short_row" s_short_row ["block"]
  d_slab_of : DF K mg "slab_of" "slab_of" s_slab_of ["container"]
  d__law_some : DF K mg "_law_some" "_law_some" s__law_some ["blocks", "spares", "pool"]
  d_need_rows : DF K mg "need_rows" "need_rows" s_need_rows ["rows", "k"]
  d_all_by : DF K mg "all_by" "all_by" s_all_by ["rows", "places"]
  d_mend_rows : DF K mg "mend_rows" "mend_rows" s_mend_rows ["rows", "k"]
  d_block_of : DF K mg "block_of" "block_of" s_block_of ["row"]
  d_mended : DF K mg "mended" "mended" s_mended ["container", "spares"]
  d_law : DF K mg "law" "law" s_law ["script"]
section
variable {P : Program} {w : World} {K : PySem.W.Frag} {mg : Str → Option Value} {base : Heap} (T : Txt K mg)
abbrev Txt.G : GX := ⟨fun i => match i with | 1 => T.C_NoNumber | 2 => T.C_Broken | _ => T.C_NoNumber, K, []⟩
theorem Txt.tab : AllT K T.G tab := trivial
theorem ok__law_pool : OkV P w base 1 T.d__law_pool T.G 2 F__law_pool :=
  fnV3 (N := N__law_pool) (fb := f__law_pool) sc__law_pool fun cdv A outer s H E C hr hp q =>
  (vss_cons (vs_s q hp ve_int)
  (vss_cons (vs_if (vt_cmp os_lt (ve_v q) (ve_len T.n_len (q.g 0) (ve_v q)) (nomark _)) (vss_one (vs_s q hp (ve_ix rfl (ve_v q) (ve_v q) (fun _ _ => rfl)))) vss_nil)
  (vss_one (vs_ret (ve_lst (va_cons (ve_set (ve_bin os_div (ve_v q) ve_int)) (va_cons (ve_set (ve_bin os_mod (ve_v q) ve_int)) (va_cons (ve_set (ve_bin os_mul ve_int (ve_v q))) va_nil))))))))
theorem ok__law_take : OkD P w base 1 T.d__law_take (spQ T.G 0 1 F__law_take) :=
  fnQ3 (N := N__law_take) (fb := f__law_take) sc__law_take fun cdv A outer s H E C hr hp q =>
  (vss_cons (vs_if (vt_cmp (os_eq hr.units) (ve_ix rfl (ve_v q) ve_int (fun _ _ => rfl)) ve_int (nomark _)) (vss_cons (vs_set q.nd (q.n 2) (q.l 2) (pinQ hp 2 (by decide)) (ve_bin os_mod (ve_ix rfl (ve_v q) ve_int (fun _ _ => rfl)) (ve_v q)))
  (vss_cons (vs_setIx (q.n 0) (q.v 0) (q.d 0) (q.c 0) ve_int (ve_bin os_div (ve_ix rfl (ve_v q) ve_int (fun _ _ => rfl)) (ve_v q)))
  (vss_one (vs_ret (ve_v q))))) vss_nil)
  (vss_cons (vs_setIx (q.n 0) (q.v 0) (q.d 0) (q.c 0) ve_int (ve_bin os_add (ve_ix rfl (ve_v q) ve_int (fun _ _ => rfl)) ve_int))
  (vss_cons (vs_set q.nd (q.n 3) (q.l 3) (pinQ hp 3 (by decide)) (ve_ix rfl (ve_v q) ve_int (fun _ _ => rfl)))
  (vss_cons (vs_set q.nd (q.n 4) (q.l 4) (pinQ hp 4 (by decide)) (ve_bin os_mul (ve_bin os_add (ve_bin os_mod (ve_ix rfl (ve_v q) ve_int (fun _ _ => rfl)) ve_int) ve_int) (ve_bin os_add (ve_bin os_mul ve_int (ve_v q)) ve_int)))
  (vss_cons (vs_set q.nd (q.n 4) (q.l 4) (pinQ hp 4 (by decide)) (ve_bin os_add (ve_v q) (ve_bin os_mul (ve_bin os_mul ve_int (ve_v q)) (ve_v q))))
  (vss_cons (vs_set q.nd (q.n 4) (q.l 4) (pinQ hp 4 (by decide)) (ve_bin os_mod (ve_bin os_mul (ve_v q) (ve_v q)) ve_int))
  (vss_one (vs_ret (ve_bin os_mod (ve_bin os_div (ve_bin os_mod (ve_bin os_mul (ve_v q) (ve_bin os_add (ve_v q) ve_int)) ve_int) ve_int) (ve_v q))))))))))
theorem ok__law_bits : OkD P w base 2 T.d__law_bits (spQ T.G 0 0 F__law_bits) :=
  fnQ3 (N := N__law_bits) (fb := f__law_bits) sc__law_bits fun cdv A outer s H E C hr hp q =>
  (vss_cons (vs_set q.nd (q.n 1) (q.l 1) (pinQ hp 1 (by decide)) (ve_lst (va_cons (ve_set (ve_callQ (takes_of rfl rfl rfl rfl) (ok__law_take T) (by decide) (hr.mono (by decide)) (q.g 0) T.d__law_take.m T.d__law_take.k T.d__law_take.b (va_cons (ve_v q) (va_cons (ve_set ve_int) va_nil)) (q.h 0))) (va_cons (ve_set (ve_callQ (takes_of rfl rfl rfl rfl) (ok__law_take T) (by decide) (hr.mono (by decide)) (q.g 0) T.d__law_take.m T.d__law_take.k T.d__law_take.b (va_cons (ve_v q) (va_cons (ve_set ve_int) va_nil)) (q.h 0))) (va_cons (ve_set (ve_callQ (takes_of rfl rfl rfl rfl) (ok__law_take T) (by decide) (hr.mono (by decide)) (q.g 0) T.d__law_take.m T.d__law_take.k T.d__law_take.b (va_cons (ve_v q) (va_cons (ve_set ve_int) va_nil)) (q.h 0))) va_nil)))))
  (vss_cons (vs_set q.nd (q.n 2) (q.l 2) (pinQ hp 2 (by decide)) (ve_ix rfl (ve_v q) (ve_ix rfl (ve_lst (va_cons (ve_set ve_int) (va_cons (ve_set ve_int) (va_cons (ve_set ve_int) (va_cons (ve_set ve_int) (va_cons (ve_set ve_int) (va_cons (ve_set ve_int) (va_cons (ve_set ve_int) (va_cons (ve_set ve_int) va_nil))))))))) (ve_callQ (takes_of rfl rfl rfl rfl) (ok__law_take T) (by decide) (hr.mono (by decide)) (q.g 0) T.d__law_take.m T.d__law_take.k T.d__law_take.b (va_cons (ve_v q) (va_cons (ve_set ve_int) va_nil)) (q.h 0)) (fun _ _ => rfl)) (fun _ _ => rfl)))
  (vss_cons (vs_set q.nd (q.n 3) (q.l 3) (pinQ hp 3 (by decide)) (ve_callQ (takes_of rfl rfl rfl rfl) (ok__law_take T) (by decide) (hr.mono (by decide)) (q.g 0) T.d__law_take.m T.d__law_take.k T.d__law_take.b (va_cons (ve_v q) (va_cons (ve_set ve_int) va_nil)) (q.h 0)))
  (vss_cons (vs_if (vt_cmp (os_eq hr.units) (ve_v q) ve_int (nomark _)) (vss_one (vs_ret (ve_bin os_mul (ve_lst (va_cons (ve_set ve_int) va_nil)) (ve_v q)))) vss_nil)
  (vss_cons (vs_if (vt_cmp (os_eq hr.units) (ve_v q) ve_int (nomark _)) (vss_one (vs_ret (ve_bin os_mul (ve_lst (va_cons (ve_set ve_int) va_nil)) (ve_v q)))) vss_nil)
  (vss_one (vs_ret (ve_lc rfl q.nd (own := [("place", 4)]) (vi_range1 (q.g 1) T.n_range (va_cons (ve_v q) va_nil)) (show BlkOk N__law_bits (defScope s__law_bits) _ _ from blkOk_by (by decide +kernel)) (pinQo hp [4] (by decide)) (by decide) (fun _ _ _ _ _ => (vg_name q.nd i__law_bits_place (.inl (cv_own k__law_bits_1_place)) (pinQ hp 4 (by decide)))) (fun _ _ _ _ _ => vts_nil) (fun _ _ _ _ _ => (ve_callQ takes0 (ok__law_take T) (by decide) (hr.mono (by decide)) (cv_gl k__law_bits_1__law_take) T.d__law_take.m T.d__law_take.k T.d__law_take.b (va_cons (ve_var (q.n 0) (cv_free k__law_bits_1_pool) (q.d 0) (q.c 0)) (va_cons (ve_set ve_int) va_nil)) (q.h 0)))))))))))
theorem ok__law_container : OkV P w base 3 T.d__law_container T.G 1 F__law_container :=
  fnV3 (N := N__law_container) (fb := f__law_container) sc__law_container fun cdv A outer s H E C hr hp q =>
  (vss_cons (vs_s q hp (ve_f (ok__law_pool T) hr q 0 (va_cons (ve_v q) (va_cons ve_int va_nil))))
  (vss_cons (vs_s q hp (ve_bin os_add ve_int (ve_callQ (takes_of rfl rfl rfl rfl) (ok__law_take T) (by decide) (hr.mono (by decide)) (q.g 1) T.d__law_take.m T.d__law_take.k T.d__law_take.b (va_cons (ve_v q) (va_cons (ve_set ve_int) va_nil)) (q.h 1))))
  (vss_cons (vs_s q hp (ve_callB rfl (cs_min2 rfl) (q.g 2) T.n_min v_min (va_cons ve_int (va_cons (ve_bin os_div ve_int (ve_v q)) va_nil)) nn_min (q.h 2)))
  (vss_cons (vs_s q hp (ve_ix rfl (ve_lst (va_cons (ve_set ve_int) (va_cons (ve_set ve_int) (va_cons (ve_set ve_int) va_nil)))) (ve_ix rfl (ve_lst (va_cons (ve_set ve_int) (va_cons (ve_set ve_int) (va_cons (ve_set ve_int) (va_cons (ve_set ve_int) (va_cons (ve_set ve_int) (va_cons (ve_set ve_int) (va_cons (ve_set ve_int) (va_cons (ve_set ve_int) va_nil))))))))) (ve_callQ (takes_of rfl rfl rfl rfl) (ok__law_take T) (by decide) (hr.mono (by decide)) (q.g 1) T.d__law_take.m T.d__law_take.k T.d__law_take.b (va_cons (ve_v q) (va_cons (ve_set ve_int) va_nil)) (q.h 1)) (fun _ _ => rfl)) (fun _ _ => rfl)))
  (vss_cons (vs_s q hp (ve_bin os_add ve_int (ve_callQ (takes_of rfl rfl rfl rfl) (ok__law_take T) (by decide) (hr.mono (by decide)) (q.g 1) T.d__law_take.m T.d__law_take.k T.d__law_take.b (va_cons (ve_v q) (va_cons (ve_set (ve_callB rfl (cs_min2 rfl) (q.g 2) T.n_min v_min (va_cons (ve_v q) (va_cons (ve_v q) va_nil)) nn_min (q.h 2))) va_nil)) (q.h 1))))
  (vss_cons (vs_s q hp (ve_bin os_add (ve_bin os_add (ve_bin os_mul (ve_v q) (ve_bin os_sub (ve_v q) ve_int)) ve_int) (ve_callQ (takes_of rfl rfl rfl rfl) (ok__law_take T) (by decide) (hr.mono (by decide)) (q.g 1) T.d__law_take.m T.d__law_take.k T.d__law_take.b (va_cons (ve_v q) (va_cons (ve_set (ve_v q)) va_nil)) (q.h 1))))
  (vss_cons (vs_s q hp (ve_lst va_nil))
  (vss_cons (vs_f (vi_range1 (q.g 3) T.n_range (va_cons (ve_v q) va_nil)) (vg_n q hp) (vss_cons (vs_s q hp (ve_f (ok__law_pool T) hr q 0 (va_cons (ve_v q) (va_cons (ve_bin os_add ve_int (ve_v q)) va_nil))))
  (vss_cons (vs_s q hp (ve_ix rfl (ve_lst (va_cons (ve_set (ve_callQ (takes_of rfl rfl rfl rfl) (ok__law_take T) (by decide) (hr.mono (by decide)) (q.g 1) T.d__law_take.m T.d__law_take.k T.d__law_take.b (va_cons (ve_v q) (va_cons (ve_set ve_int) va_nil)) (q.h 1))) (va_cons (ve_set (ve_callQ (takes_of rfl rfl rfl rfl) (ok__law_take T) (by decide) (hr.mono (by decide)) (q.g 1) T.d__law_take.m T.d__law_take.k T.d__law_take.b (va_cons (ve_v q) (va_cons (ve_set ve_int) va_nil)) (q.h 1))) (va_cons (ve_set ve_int) va_nil)))) (ve_ix rfl (ve_lst (va_cons (ve_set ve_int) (va_cons (ve_set ve_int) (va_cons (ve_set ve_int) (va_cons (ve_set ve_int) va_nil))))) (ve_callQ (takes_of rfl rfl rfl rfl) (ok__law_take T) (by decide) (hr.mono (by decide)) (q.g 1) T.d__law_take.m T.d__law_take.k T.d__law_take.b (va_cons (ve_v q) (va_cons (ve_set ve_int) va_nil)) (q.h 1)) (fun _ _ => rfl)) (fun _ _ => rfl)))
  (vss_one (vs_expr (ve_app (q.n 7) (q.v 7) (q.d 7) (q.c 7) (ve_tup (va_cons (ve_set (ve_v q)) (va_cons (ve_set (ve_callQ (takes_of rfl rfl rfl rfl) (ok__law_bits T) (by decide) (hr.mono (by decide)) (q.g 4) T.d__law_bits.m T.d__law_bits.k T.d__law_bits.b (va_cons (ve_v q) va_nil) (q.h 4))) va_nil)))))))))
  (vss_one (vs_ret (ve_tup (va_cons (ve_set (ve_v q)) (va_cons (ve_set (ve_v q)) (va_cons (ve_set (ve_v q)) va_nil))))))))))))))
theorem ok_turned_over : OkV P w base 1 T.d_turned_over T.G 1 F_turned_over :=
  fnV3 (N := N_turned_over) (fb := f_turned_over) sc_turned_over fun cdv A outer s H E C hr hp q =>
  (vss_cons (vs_s q hp ve_int)
  (vss_cons (vs_f (vi_range1 (q.g 0) T.n_range (va_cons ve_int va_nil)) (vg_n q hp) (vss_one (vs_s q hp (ve_bin os_mod (ve_bin os_mul (ve_bin os_mul (ve_v q) (ve_v q)) (ve_v q)) (ve_gint (q.g 1) T.g_PRIME.m (q.h 1))))))
  (vss_one (vs_ret (ve_v q)))))
theorem ok_shares_at : OkV P w base 2 T.d_shares_at T.G 2 F_shares_at :=
  fnV3 (N := N_shares_at) (fb := f_shares_at) sc_shares_at fun cdv A outer s H E C hr hp q =>
  (vss_cons (vs_s q hp (ve_lst va_nil))
  (vss_cons (vs_f (vi_list rfl (ve_v q)) (vg_n q hp) (vss_cons (vs_s q hp ve_int)
  (vss_cons (vs_s q hp ve_int)
  (vss_cons (vs_f (vi_list rfl (ve_v q)) (vg_n q hp) (vss_one (vs_if (vt_cmp (os_ne hr.units) (ve_v q) (ve_v q) (nomark _)) (vss_cons (vs_s q hp (ve_bin os_mod (ve_bin os_mul (ve_v q) (ve_bin os_sub (ve_v q) (ve_v q))) (ve_gint (q.g 0) T.g_PRIME.m (q.h 0))))
  (vss_one (vs_s q hp (ve_bin os_mod (ve_bin os_mul (ve_v q) (ve_bin os_sub (ve_v q) (ve_v q))) (ve_gint (q.g 0) T.g_PRIME.m (q.h 0)))))) vss_nil)))
  (vss_one (vs_expr (ve_app (q.n 2) (q.v 2) (q.d 2) (q.c 2) (ve_bin os_mod (ve_bin os_mul (ve_v q) (ve_f (ok_turned_over T) hr q 1 (va_cons (ve_v q) va_nil))) (ve_gint (q.g 0) T.g_PRIME.m (q.h 0))))))))))
  (vss_one (vs_ret (ve_v q)))))
theorem ok_row_at : OkV P w base 3 T.d_row_at T.G 3 F_row_at :=
  fnV3 (N := N_row_at) (fb := f_row_at) sc_row_at fun cdv A outer s H E C hr hp q =>
  (vss_cons (vs_s q hp (ve_f (ok_shares_at T) hr q 0 (va_cons (ve_v q) (va_cons (ve_v q) va_nil))))
  (vss_cons (vs_s q hp (ve_lst va_nil))
  (vss_cons (vs_f (vi_range1 (q.g 1) T.n_range (va_cons (ve_len T.n_len (q.g 2) (ve_ix rfl (ve_v q) (ve_ix rfl (ve_v q) ve_int (fun _ _ => rfl)) (fun _ _ => rfl))) va_nil)) (vg_n q hp) (vss_one (vs_expr (ve_app (q.n 4) (q.v 4) (q.d 4) (q.c 4) (ve_bin os_mod (ve_callB rfl (cs_sum rfl) (q.g 3) T.n_sum v_sum (va_cons (ve_lc rfl q.nd (own := [("share", 6), ("place", 7)]) (vi_zip (q.g 4) T.n_zip (va_cons (ve_set (ve_v q)) (va_cons (ve_set (ve_v q)) va_nil))) (show BlkOk N_row_at (defScope s_row_at) _ _ from blkOk_by (by decide +kernel)) (pinVo hp [6, 7]) (by decide) (fun _ _ _ _ _ => (vg_tup rfl (vgs_cons q.nd i_row_at_share (.inl (cv_own k_row_at_1_share)) (pinV hp 6) (vgs_cons q.nd i_row_at_place (.inl (cv_own k_row_at_1_place)) (pinV hp 7) vgs_nil)))) (fun _ _ _ _ _ => vts_nil) (fun _ _ _ _ _ => (ve_bin os_mul (ve_var i_row_at_share (.inl (cv_own k_row_at_1_share)) (q.d 6) (q.c 6)) (ve_ix rfl (ve_ix rfl (ve_var (q.n 0) (cv_free k_row_at_1_rows) (q.d 0) (q.c 0)) (ve_var i_row_at_place (.inl (cv_own k_row_at_1_place)) (q.d 7) (q.c 7)) (fun _ _ => rfl)) (ve_var (q.n 5) (cv_free k_row_at_1_column) (q.d 5) (q.c 5)) (fun _ _ => rfl))))) va_nil) nn_sum (q.h 3)) (ve_gint (q.g 5) T.g_PRIME.m (q.h 5)))))))
  (vss_one (vs_ret (ve_v q))))))
theorem ok_spares_of : OkV P w base 4 T.d_spares_of T.G 2 F_spares_of :=
  fnV3 (N := N_spares_of) (fb := f_spares_of) sc_spares_of fun cdv A outer s H E C hr hp q =>
  (vss_cons (vs_s q hp (ve_listRg1 rfl (q.g 0) T.n_list (q.g 1) T.n_range (ve_len T.n_len (q.g 2) (ve_v q))))
  (vss_one (vs_ret (ve_lc rfl q.nd (own := [("one", 3)]) (vi_range1 (q.g 1) T.n_range (va_cons (ve_v q) va_nil)) (show BlkOk N_spares_of (defScope s_spares_of) _ _ from blkOk_by (by decide +kernel)) (pinVo hp [3]) (by decide) (fun _ _ _ _ _ => (vg_name q.nd i_spares_of_one (.inl (cv_own k_spares_of_1_one)) (pinV hp 3))) (fun _ _ _ _ _ => vts_nil) (fun _ _ _ _ _ => (ve_callD (ok_row_at T) hr (cv_gl k_spares_of_1_row_at) d_row_at (va_cons (ve_var (q.n 0) (cv_free k_spares_of_1_slab) (q.d 0) (q.c 0)) (va_cons (ve_var (q.n 2) (cv_free k_spares_of_1_places) (q.d 2) (q.c 2)) (va_cons (ve_bin os_add (ve_len T.n_len (cv_gl k_spares_of_1_len) (ve_var (q.n 0) (cv_free k_spares_of_1_slab) (q.d 0) (q.c 0))) (ve_var i_spares_of_one (.inl (cv_own k_spares_of_1_one)) (q.d 3) (q.c 3))) va_nil))) (tk := takes0)))))))
theorem ok_need_container : OkV P w base 1 T.d_need_container T.G 1 F_need_container :=
  fnV3 (N := N_need_container) (fb := f_need_container) sc_need_container fun cdv A outer s H E C hr hp q =>
  (vss_cons (vs_asg (ve_v q) (vg_tup rfl (vgs_c q hp (vgs_c q hp (vgs_c q hp vgs_nil)))))
  (vss_cons (vs_if (VW.pt (vw_or (vt_not (vt_chain op_le op_le ve_int (ve_v q) ve_int)) (vw_or (vt_not (vt_chain op_le op_le ve_int (ve_v q) ve_int)) (vw_or1 (vt_cmp (os_ne hr.units) (ve_len T.n_len (q.g 0) (ve_v q)) (ve_bin os_div (ve_bin os_sub (ve_bin os_add (ve_v q) (ve_v q)) ve_int) (ve_v q)) (nomark _)))))) (vss_one (vs_raiseC (c := 2) T.cf_Broken T.rf_Broken (q.g 1) (q.h 1))) vss_nil)
  (vss_one (vs_f (vi_list rfl (ve_v q)) (vg_n q hp) (vss_one (vs_if (VW.pt (vw_and (vt_cmp os_isnot (ve_v q) ve_non (nomark _)) (vw_and1 (vt_cmp os_lt (ve_ix rfl (ve_v q) ve_int (fun _ _ => rfl)) ve_int (nomark _))))) (vss_one (vs_raiseC (c := 2) T.cf_Broken T.rf_Broken (q.g 1) (q.h 1))) vss_nil))))))
theorem ok_need_block : OkV P w base 1 T.d_need_block T.G 1 F_need_block :=
  fnV3 (N := N_need_block) (fb := f_need_block) sc_need_block fun cdv A outer s H E C hr hp q =>
  (vss_cons (vs_asg (ve_v q) (vg_tup rfl (vgs_c q hp (vgs_c q hp vgs_nil))))
  (vss_cons (vs_if (VW.pt (vw_or (vt_cmp os_gt (ve_v q) (ve_gint (q.g 0) T.g_MOST_WAY.m (q.h 0)) (nomark _)) (vw_or1 (vt_cmp os_gt (ve_len T.n_len (q.g 1) (ve_v q)) (ve_gint (q.g 2) T.g_MOST_BITS.m (q.h 2)) (nomark _))))) (vss_one (vs_raiseC (c := 1) T.cf_NoNumber T.rf_NoNumber (q.g 3) (q.h 3))) vss_nil)
  (vss_one (vs_f (vi_list rfl (ve_v q)) (vg_n q hp) (vss_one (vs_if (VW.pt (vw_or (vt_not (vt_val (ve_isi T.tab.etab (q.g 4) T.n_isinstance v_isinstance (va_cons (ve_v q) (va_cons (ve_gty (q.g 5) T.n_int v_int nn_int (q.h 5)) va_nil)) nn_isinstance (q.h 4)) (fun _ => rfl))) (vw_or (vt_val (ve_isi T.tab.etab (q.g 4) T.n_isinstance v_isinstance (va_cons (ve_v q) (va_cons (ve_gty (q.g 6) T.n_bool v_bool nn_bool (q.h 6)) va_nil)) nn_isinstance (q.h 4)) (fun _ => rfl)) (vw_or1 (vt_cmp (os_notin (units65 hr)) (ve_v q) (ve_tup (va_cons (ve_set ve_int) (va_cons (ve_set ve_int) va_nil))) (by with_unfolding_all rfl)))))) (vss_one (vs_raiseC (c := 1) T.cf_NoNumber T.rf_NoNumber (q.g 3) (q.h 3))) vss_nil))))))
theorem ok_need_blocks : OkV P w base 2 T.d_need_blocks T.G 1 F_need_blocks :=
  fnV3 (N := N_need_blocks) (fb := f_need_blocks) sc_need_blocks fun cdv A outer s H E C hr hp q =>
  (vss_cons (vs_expr (ve_f (ok_need_container T) hr q 0 (va_cons (ve_v q) va_nil)))
  (vss_cons (vs_s q hp (ve_ix rfl (ve_v q) ve_int (fun _ _ => rfl)))
  (vss_cons (vs_if (vt_not (vt_chain op_le op_le ve_int (ve_len T.n_len (q.g 1) (ve_v q)) (ve_gint (q.g 2) T.g_MOST_BLOCKS.m (q.h 2)))) (vss_one (vs_raiseC (c := 1) T.cf_NoNumber T.rf_NoNumber (q.g 3) (q.h 3))) vss_nil)
  (vss_one (vs_f (vi_list rfl (ve_v q)) (vg_n q hp) (vss_one (vs_if (vt_cmp os_isnot (ve_v q) ve_non (nomark _)) (vss_one (vs_expr (ve_f (ok_need_block T) hr q 4 (va_cons (ve_v q) va_nil)))) vss_nil)))))))
theorem ok_short_row : OkV P w base 1 T.d_short_row T.G 1 F_short_row :=
  fnV3 (N := N_short_row) (fb := f_short_row) sc_short_row fun cdv A outer s H E C hr hp q =>
  (vss_cons (vs_asg (ve_v q) (vg_tup rfl (vgs_c q hp (vgs_c q hp vgs_nil))))
  (vss_cons (vs_s q hp (ve_lst (va_cons (ve_set (ve_v q)) (va_cons (ve_set (ve_bin os_div (ve_len T.n_len (q.g 0) (ve_v q)) ve_int)) (va_cons (ve_set (ve_bin os_mod (ve_len T.n_len (q.g 0) (ve_v q)) ve_int)) va_nil)))))
  (vss_cons (vs_f (vi_range3 (q.g 1) T.n_range (va_cons ve_int (va_cons (ve_len T.n_len (q.g 0) (ve_v q)) (va_cons ve_int va_nil)))) (vg_n q hp) (vss_cons (vs_s q hp ve_int)
  (vss_cons (vs_f (vi_list rfl (ve_slice rfl (ve_bin os_add (ve_slice rfl (ve_v q) (vo_some (ve_v q)) (vo_some (ve_bin os_add (ve_v q) ve_int))) (ve_bin os_mul (ve_lst (va_cons (ve_set ve_int) va_nil)) ve_int)) vo_none (vo_some ve_int))) (vg_n q hp) (vss_one (vs_s q hp (ve_bin os_add (ve_bin os_mul ve_int (ve_v q)) (ve_v q)))))
  (vss_one (vs_expr (ve_app (q.n 3) (q.v 3) (q.d 3) (q.c 3) (ve_v q)))))))
  (vss_one (vs_ret (ve_v q))))))
theorem ok_slab_of : OkV P w base 3 T.d_slab_of T.G 1 F_slab_of :=
  fnV3 (N := N_slab_of) (fb := f_slab_of) sc_slab_of fun cdv A outer s H E C hr hp q =>
  (vss_cons (vs_expr (ve_f (ok_need_blocks T) hr q 0 (va_cons (ve_v q) va_nil)))
  (vss_cons (vs_setLc rfl q.nd (q.n 1) k_slab_of_rows (pinV hp 1) (sw_true sc_slab_of.fs.kind k_slab_of_rows rfl (by decide +kernel)) (own := [("block", 3)]) (vi_list rfl (ve_ix rfl (ve_v q) ve_int (fun _ _ => rfl))) (show BlkOk N_slab_of (defScope s_slab_of) _ _ from blkOk_by (by decide +kernel)) (pinVo hp [3]) (by decide) (fun _ _ _ _ _ => (vg_name q.nd i_slab_of_block (.inl (cv_own k_slab_of_1_block)) (pinV hp 3))) (fun _ _ _ _ _ => vts_nil) (fun _ _ _ _ _ => (ve_callD (ok_short_row T) hr (cv_gl k_slab_of_1_short_row) d_short_row (va_cons (ve_var i_slab_of_block (.inl (cv_own k_slab_of_1_block)) (q.d 3) (q.c 3)) va_nil) (tk := takes0))))
  (vss_cons (vs_s q hp (ve_callB rfl (cs_maxL rfl) (q.g 1) T.n_max v_max (va_cons (ve_lc rfl q.nd (own := [("row", 4)]) (vi_list rfl (ve_v q)) (show BlkOk N_slab_of (defScope s_slab_of) _ _ from blkOk_by (by decide +kernel)) (pinVo hp [4]) (by decide) (fun _ _ _ _ _ => (vg_name q.nd i_slab_of_row (.inl (cv_own k_slab_of_2_row)) (pinV hp 4))) (fun _ _ _ _ _ => vts_nil) (fun _ _ _ _ _ => (ve_len T.n_len (cv_gl k_slab_of_2_len) (ve_var i_slab_of_row (.inl (cv_own k_slab_of_2_row)) (q.d 4) (q.c 4))))) va_nil) nn_max (q.h 1)))
  (vss_one (vs_ret (ve_lc rfl q.nd (own := [("row", 4)]) (vi_list rfl (ve_v q)) (show BlkOk N_slab_of (defScope s_slab_of) _ _ from blkOk_by (by decide +kernel)) (pinVo hp [4]) (by decide) (fun _ _ _ _ _ => (vg_name q.nd i_slab_of_row (.inl (cv_own k_slab_of_3_row)) (pinV hp 4))) (fun _ _ _ _ _ => vts_nil) (fun _ _ _ _ _ => (ve_bin os_add (ve_var i_slab_of_row (.inl (cv_own k_slab_of_3_row)) (q.d 4) (q.c 4)) (ve_bin os_mul (ve_lst (va_cons (ve_set ve_int) va_nil)) (ve_bin os_sub (ve_var (q.n 2) (cv_free k_slab_of_3_longest) (q.d 2) (q.c 2)) (ve_len T.n_len (cv_gl k_slab_of_3_len) (ve_var i_slab_of_row (.inl (cv_own k_slab_of_3_row)) (q.d 4) (q.c 4)))))))))))))
theorem ok__law_some : OkD P w base 2 T.d__law_some (spQ T.G 2 2 F__law_some) :=
  fnQ3 (N := N__law_some) (fb := f__law_some) sc__law_some fun cdv A outer s H E C hr hp q =>
  (vss_cons (vs_set q.nd (q.n 3) (q.l 3) (pinQ hp 3 (by decide)) (ve_bin os_add (ve_lc rfl q.nd (own := [("way", 5), ("bits", 6)]) (vi_list rfl (ve_v q)) (show BlkOk N__law_some (defScope s__law_some) _ _ from blkOk_by (by decide +kernel)) (pinQo hp [5, 6] (by decide)) (by decide) (fun _ _ _ _ _ => (vg_tup rfl (vgs_cons q.nd i__law_some_way (.inl (cv_own k__law_some_1_way)) (pinQ hp 5 (by decide)) (vgs_cons q.nd i__law_some_bits (.inl (cv_own k__law_some_1_bits)) (pinQ hp 6 (by decide)) vgs_nil)))) (fun _ _ _ _ _ => vts_nil) (fun _ _ _ _ _ => (ve_tup (va_cons (ve_set (ve_var i__law_some_way (.inl (cv_own k__law_some_1_way)) (q.d 5) (q.c 5))) (va_cons (ve_set (ve_callTy rfl cs_list (cv_gl k__law_some_1_list) T.n_list v_list (va_cons (ve_var i__law_some_bits (.inl (cv_own k__law_some_1_bits)) (q.d 6) (q.c 6)) va_nil) nn_list d_list)) va_nil))))) (ve_lc rfl q.nd (own := [("row", 7)]) (vi_list rfl (ve_v q)) (show BlkOk N__law_some (defScope s__law_some) _ _ from blkOk_by (by decide +kernel)) (pinQo hp [7] (by decide)) (by decide) (fun _ _ _ _ _ => (vg_name q.nd i__law_some_row (.inl (cv_own k__law_some_2_row)) (pinQ hp 7 (by decide)))) (fun _ _ _ _ _ => vts_nil) (fun _ _ _ _ _ => (ve_callTy rfl cs_list (cv_gl k__law_some_2_list) T.n_list v_list (va_cons (ve_var i__law_some_row (.inl (cv_own k__law_some_2_row)) (q.d 7) (q.c 7)) va_nil) nn_list d_list)))))
  (vss_cons (vs_f (vi_range1 (q.g 0) T.n_range (va_cons (ve_ix rfl (ve_lst (va_cons (ve_set (ve_len T.n_len (q.g 1) (ve_v q))) (va_cons (ve_set (ve_callQ (takes_of rfl rfl rfl rfl) (ok__law_take T) (by decide) (hr.mono (by decide)) (q.g 2) T.d__law_take.m T.d__law_take.k T.d__law_take.b (va_cons (ve_v q) (va_cons (ve_set (ve_bin os_add (ve_len T.n_len (q.g 1) (ve_v q)) ve_int)) va_nil)) (q.h 2))) va_nil))) (ve_callQ (takes_of rfl rfl rfl rfl) (ok__law_take T) (by decide) (hr.mono (by decide)) (q.g 2) T.d__law_take.m T.d__law_take.k T.d__law_take.b (va_cons (ve_v q) (va_cons (ve_set ve_int) va_nil)) (q.h 2)) (fun _ _ => rfl)) va_nil)) (vg_name q.nd (q.n 4) (q.l 4) (pinQ hp 4 (by decide))) (vss_one (vs_setIx (q.n 3) (q.v 3) (q.d 3) (q.c 3) (ve_callQ (takes_of rfl rfl rfl rfl) (ok__law_take T) (by decide) (hr.mono (by decide)) (q.g 2) T.d__law_take.m T.d__law_take.k T.d__law_take.b (va_cons (ve_v q) (va_cons (ve_set (ve_ix rfl (ve_lst (va_cons (ve_set (ve_len T.n_len (q.g 1) (ve_v q))) (va_cons (ve_set (ve_len T.n_len (q.g 1) (ve_v q))) va_nil))) (ve_callQ (takes_of rfl rfl rfl rfl) (ok__law_take T) (by decide) (hr.mono (by decide)) (q.g 2) T.d__law_take.m T.d__law_take.k T.d__law_take.b (va_cons (ve_v q) (va_cons (ve_set ve_int) va_nil)) (q.h 2)) (fun _ _ => rfl))) va_nil)) (q.h 2)) ve_non)))
  (vss_one (vs_ret (ve_v q)))))
theorem ok_need_rows : OkV P w base 1 T.d_need_rows T.G 2 F_need_rows :=
  fnV3 (N := N_need_rows) (fb := f_need_rows) sc_need_rows fun cdv A outer s H E C hr hp q =>
  (vss_cons (vs_setLc rfl q.nd (q.n 2) k_need_rows_there (pinV hp 2) (sw_true sc_need_rows.fs.kind k_need_rows_there rfl (by decide +kernel)) (own := [("row", 3)]) (vi_list rfl (ve_v q)) (show BlkOk N_need_rows (defScope s_need_rows) _ _ from blkOk_by (by decide +kernel)) (pinVo hp [3]) (by decide) (fun _ _ _ _ _ => (vg_name q.nd (q.n 3) (.inl (cv_own k_need_rows_1_row)) (pinV hp 3))) (fun _ _ _ _ _ => (vts_one (vt_cmp os_isnot (ve_var (q.n 3) (.inl (cv_own k_need_rows_1_row)) (q.d 3) (q.c 3)) ve_non (nomark _)))) (fun _ _ _ _ _ => (ve_var (q.n 3) (.inl (cv_own k_need_rows_1_row)) (q.d 3) (q.c 3))))
  (vss_cons (vs_if (VW.pt (vw_or (vt_not (vt_chain op_le op_le ve_int (ve_v q) (ve_gint (q.g 0) T.g_MOST_ROWS.m (q.h 0)))) (vw_or1 (vt_not (vt_chain op_le op_le (ve_v q) (ve_len T.n_len (q.g 1) (ve_v q)) (ve_bin os_add (ve_v q) (ve_gint (q.g 2) T.g_MOST_SPARES.m (q.h 2)))))))) (vss_one (vs_raiseC (c := 2) T.cf_Broken T.rf_Broken (q.g 3) (q.h 3))) vss_nil)
  (vss_one (vs_f (vi_list rfl (ve_v q)) (vg_n q hp) (vss_cons (vs_if (vt_cmp (os_ne hr.units) (ve_len T.n_len (q.g 1) (ve_v q)) (ve_len T.n_len (q.g 1) (ve_ix rfl (ve_v q) ve_int (fun _ _ => rfl))) (nomark _)) (vss_one (vs_raiseC (c := 2) T.cf_Broken T.rf_Broken (q.g 3) (q.h 3))) vss_nil)
  (vss_one (vs_f (vi_list rfl (ve_v q)) (vg_n q hp) (vss_one (vs_if (VW.pt (vw_or (vt_cmp os_lt (ve_v q) ve_int (nomark _)) (vw_or1 (vt_cmp os_ge (ve_v q) (ve_gint (q.g 4) T.g_PRIME.m (q.h 4)) (nomark _))))) (vss_one (vs_raiseC (c := 2) T.cf_Broken T.rf_Broken (q.g 3) (q.h 3))) vss_nil)))))))))
theorem ok_all_by : OkV P w base 4 T.d_all_by T.G 2 F_all_by :=
  fnV3 (N := N_all_by) (fb := f_all_by) sc_all_by fun cdv A outer s H E C hr hp q =>
  (vss_cons (vs_s q hp (ve_lst va_nil))
  (vss_cons (vs_f (vi_range1 (q.g 0) T.n_range (va_cons (ve_len T.n_len (q.g 1) (ve_v q)) va_nil)) (vg_n q hp) (vss_one (vs_if (vt_cmp (os_in (units65 hr)) (ve_v q) (ve_v q) (by with_unfolding_all rfl)) (vss_one (vs_expr (ve_app (q.n 2) (q.v 2) (q.d 2) (q.c 2) (ve_callTy rfl cs_list (q.g 2) T.n_list v_list (va_cons (ve_ix rfl (ve_v q) (ve_v q) (fun _ _ => rfl)) va_nil) nn_list (q.h 2))))) (vss_one (vs_expr (ve_app (q.n 2) (q.v 2) (q.d 2) (q.c 2) (ve_f (ok_row_at T) hr q 3 (va_cons (ve_v q) (va_cons (ve_v q) (va_cons (ve_v q) va_nil))))))))))
  (vss_one (vs_ret (ve_v q)))))
theorem ok_mend_rows : OkV P w base 5 T.d_mend_rows T.G 2 F_mend_rows :=
  fnV3 (N := N_mend_rows) (fb := f_mend_rows) sc_mend_rows fun cdv A outer s H E C hr hp q =>
  (vss_cons (vs_expr (ve_f (ok_need_rows T) hr q 0 (va_cons (ve_v q) (va_cons (ve_v q) va_nil))))
  (vss_cons (vs_setLc rfl q.nd (q.n 2) k_mend_rows_places (pinV hp 2) (sw_true sc_mend_rows.fs.kind k_mend_rows_places rfl (by decide +kernel)) (own := [("x", 4)]) (vi_range1 (q.g 1) T.n_range (va_cons (ve_len T.n_len (q.g 2) (ve_v q)) va_nil)) (show BlkOk N_mend_rows (defScope s_mend_rows) _ _ from blkOk_by (by decide +kernel)) (pinVo hp [4]) (by decide) (fun _ _ _ _ _ => (vg_name q.nd (q.n 4) (.inl (cv_own k_mend_rows_1_x)) (pinV hp 4))) (fun _ _ _ _ _ => (vts_one (vt_cmp os_isnot (ve_ix rfl (ve_var (q.n 0) (cv_free k_mend_rows_1_rows) (q.d 0) (q.c 0)) (ve_var (q.n 4) (.inl (cv_own k_mend_rows_1_x)) (q.d 4) (q.c 4)) (fun _ _ => rfl)) ve_non (nomark _)))) (fun _ _ _ _ _ => (ve_var (q.n 4) (.inl (cv_own k_mend_rows_1_x)) (q.d 4) (q.c 4))))
  (vss_cons (vs_if (vt_cmp os_lt (ve_len T.n_len (q.g 2) (ve_v q)) (ve_v q) (nomark _)) (vss_one (vs_raiseC (c := 2) T.cf_Broken T.rf_Broken (q.g 3) (q.h 3))) vss_nil)
  (vss_cons (vs_s q hp (ve_f (ok_all_by T) hr q 4 (va_cons (ve_v q) (va_cons (ve_slice rfl (ve_v q) vo_none (vo_some (ve_v q))) va_nil))))
  (vss_cons (vs_f (vi_list rfl (ve_slice rfl (ve_v q) (vo_some (ve_v q)) vo_none)) (vg_n q hp) (vss_one (vs_if (vt_pure (fun _ eC1 => vt_cmp (os_ne hr.units) (ve_ix rfl (ve_v q) (ve_v q) (fun _ _ => rfl)) (ve_callTy rfl cs_list (q.g 5) T.n_list v_list (va_cons (ve_ix rfl (ve_v q) (ve_v q) (fun _ _ => rfl)) va_nil) nn_list (q.h 5)) (nomark _))) (vss_one (vs_raiseC (c := 2) T.cf_Broken T.rf_Broken (q.g 3) (q.h 3))) vss_nil)))
  (vss_one (vs_ret (ve_v q))))))))
theorem ok_block_of : OkV P w base 1 T.d_block_of T.G 1 F_block_of :=
  fnV3 (N := N_block_of) (fb := f_block_of) sc_block_of fun cdv A outer s H E C hr hp q =>
  (vss_cons (vs_if (VW.pt (vw_or (vt_cmp os_lt (ve_len T.n_len (q.g 0) (ve_v q)) ve_int (nomark _)) (vw_or1 (vt_cmp (os_in (units65 hr)) ve_int (ve_v q) (by with_unfolding_all rfl))))) (vss_one (vs_raiseC (c := 2) T.cf_Broken T.rf_Broken (q.g 1) (q.h 1))) vss_nil)
  (vss_cons (vs_s q hp (ve_bin os_add (ve_bin os_mul ve_int (ve_ix rfl (ve_v q) ve_int (fun _ _ => rfl))) (ve_ix rfl (ve_v q) ve_int (fun _ _ => rfl))))
  (vss_cons (vs_s q hp (ve_lst va_nil))
  (vss_cons (vs_f (vi_list rfl (ve_slice rfl (ve_v q) (vo_some ve_int) vo_none)) (vg_n q hp) (vss_one (vs_expr (ve_ext (q.n 2) (q.v 2) (q.d 2) (q.c 2) (ve_lc rfl q.nd (own := [("place", 4)]) (vi_range3 (q.g 2) T.n_range (va_cons ve_int (va_cons (ve_neg ve_int) (va_cons (ve_neg ve_int) va_nil)))) (show BlkOk N_block_of (defScope s_block_of) _ _ from blkOk_by (by decide +kernel)) (pinVo hp [4]) (by decide) (fun _ _ _ _ _ => (vg_name q.nd i_block_of_place (.inl (cv_own k_block_of_1_place)) (pinV hp 4))) (fun _ _ _ _ _ => vts_nil) (fun _ _ _ _ _ => (ve_bin os_mod (ve_bin os_div (ve_var (q.n 3) (cv_free k_block_of_1_number) (q.d 3) (q.c 3)) (ve_bin os_shl ve_int (ve_var i_block_of_place (.inl (cv_own k_block_of_1_place)) (q.d 4) (q.c 4)))) ve_int)))))))
  (vss_cons (vs_if (VW.pt (vw_or (vt_cmp os_gt (ve_v q) (ve_len T.n_len (q.g 0) (ve_v q)) (nomark _)) (vw_or1 (vt_cmp (os_in (units65 hr)) ve_int (ve_slice rfl (ve_v q) (vo_some (ve_v q)) vo_none) (by with_unfolding_all rfl))))) (vss_one (vs_raiseC (c := 2) T.cf_Broken T.rf_Broken (q.g 1) (q.h 1))) vss_nil)
  (vss_one (vs_ret (ve_tup (va_cons (ve_set (ve_ix rfl (ve_v q) ve_int (fun _ _ => rfl))) (va_cons (ve_set (ve_slice rfl (ve_v q) vo_none (vo_some (ve_v q)))) va_nil))))))))))
theorem ok_mended : OkV P w base 6 T.d_mended T.G 2 F_mended :=
  fnV3 (N := N_mended) (fb := f_mended) sc_mended fun cdv A outer s H E C hr hp q =>
  (vss_cons (vs_expr (ve_f (ok_need_blocks T) hr q 0 (va_cons (ve_v q) va_nil)))
  (vss_cons (vs_asg (ve_v q) (vg_tup rfl (vgs_c q hp (vgs_c q hp (vgs_c q hp vgs_nil)))))
  (vss_cons (vs_setLc rfl q.nd (q.n 5) k_mended_rows (pinV hp 5) (sw_true sc_mended.fs.kind k_mended_rows rfl (by decide +kernel)) (own := [("block", 10)]) (vi_list rfl (ve_v q)) (show BlkOk N_mended (defScope s_mended) _ _ from blkOk_by (by decide +kernel)) (pinVo hp [10]) (by decide) (fun _ _ _ _ _ => (vg_name q.nd i_mended_block (.inl (cv_own k_mended_1_block)) (pinV hp 10))) (fun _ _ _ _ _ => vts_nil) (fun _ _ _ _ _ => (ve_if (vt_cmp os_is (ve_var i_mended_block (.inl (cv_own k_mended_1_block)) (q.d 10) (q.c 10)) ve_non (nomark _)) ve_non (ve_callD (ok_short_row T) hr (cv_gl k_mended_1_short_row) d_short_row (va_cons (ve_var i_mended_block (.inl (cv_own k_mended_1_block)) (q.d 10) (q.c 10)) va_nil) (tk := takes0)))))
  (vss_cons (vs_setLc rfl q.nd (q.n 6) k_mended_there (pinV hp 6) (sw_true sc_mended.fs.kind k_mended_there rfl (by decide +kernel)) (own := [("row", 11)]) (vi_list rfl (ve_bin os_add (ve_v q) (ve_callTy rfl cs_list (q.g 1) T.n_list v_list (va_cons (ve_v q) va_nil) nn_list (q.h 1)))) (show BlkOk N_mended (defScope s_mended) _ _ from blkOk_by (by decide +kernel)) (pinVo hp [11]) (by decide) (fun _ _ _ _ _ => (vg_name q.nd i_mended_row (.inl (cv_own k_mended_2_row)) (pinV hp 11))) (fun _ _ _ _ _ => (vts_one (vt_cmp os_isnot (ve_var i_mended_row (.inl (cv_own k_mended_2_row)) (q.d 11) (q.c 11)) ve_non (nomark _)))) (fun _ _ _ _ _ => (ve_var i_mended_row (.inl (cv_own k_mended_2_row)) (q.d 11) (q.c 11))))
  (vss_cons (vs_s q hp (ve_maxDef rfl rfl (units65 hr) (q.g 2) T.n_max v_max (va_cons (ve_lc rfl q.nd (own := [("row", 11)]) (vi_list rfl (ve_v q)) (show BlkOk N_mended (defScope s_mended) _ _ from blkOk_by (by decide +kernel)) (pinVo hp [11]) (by decide) (fun _ _ _ _ _ => (vg_name q.nd i_mended_row (.inl (cv_own k_mended_3_row)) (pinV hp 11))) (fun _ _ _ _ _ => vts_nil) (fun _ _ _ _ _ => (ve_len T.n_len (cv_gl k_mended_3_len) (ve_var i_mended_row (.inl (cv_own k_mended_3_row)) (q.d 11) (q.c 11))))) va_nil) nn_max (q.h 2)))
  (vss_cons (vs_setLc rfl q.nd (q.n 5) k_mended_rows (pinV hp 5) (sw_true sc_mended.fs.kind k_mended_rows rfl (by decide +kernel)) (own := [("row", 11)]) (vi_list rfl (ve_v q)) (show BlkOk N_mended (defScope s_mended) _ _ from blkOk_by (by decide +kernel)) (pinVo hp [11]) (by decide) (fun _ _ _ _ _ => (vg_name q.nd i_mended_row (.inl (cv_own k_mended_4_row)) (pinV hp 11))) (fun _ _ _ _ _ => vts_nil) (fun _ _ _ _ _ => (ve_if (vt_cmp os_is (ve_var i_mended_row (.inl (cv_own k_mended_4_row)) (q.d 11) (q.c 11)) ve_non (nomark _)) ve_non (ve_bin os_add (ve_var i_mended_row (.inl (cv_own k_mended_4_row)) (q.d 11) (q.c 11)) (ve_bin os_mul (ve_lst (va_cons (ve_set ve_int) va_nil)) (ve_bin os_sub (ve_var (q.n 7) (cv_free k_mended_4_longest) (q.d 7) (q.c 7)) (ve_len T.n_len (cv_gl k_mended_4_len) (ve_var i_mended_row (.inl (cv_own k_mended_4_row)) (q.d 11) (q.c 11)))))))))
  (vss_cons (vs_s q hp (ve_slice rfl (ve_f (ok_mend_rows T) hr q 3 (va_cons (ve_bin os_add (ve_v q) (ve_callTy rfl cs_list (q.g 1) T.n_list v_list (va_cons (ve_v q) va_nil) nn_list (q.h 1))) (va_cons (ve_len T.n_len (q.g 4) (ve_v q)) va_nil))) vo_none (vo_some (ve_len T.n_len (q.g 4) (ve_v q)))))
  (vss_cons (vs_s q hp (ve_tup (va_cons (ve_set (ve_v q)) (va_cons (ve_set (ve_v q)) (va_cons (ve_set (ve_lc rfl q.nd (own := [("row", 11)]) (vi_list rfl (ve_v q)) (show BlkOk N_mended (defScope s_mended) _ _ from blkOk_by (by decide +kernel)) (pinVo hp [11]) (by decide) (fun _ _ _ _ _ => (vg_name q.nd i_mended_row (.inl (cv_own k_mended_5_row)) (pinV hp 11))) (fun _ _ _ _ _ => vts_nil) (fun _ _ _ _ _ => (ve_callD (ok_block_of T) hr (cv_gl k_mended_5_block_of) d_block_of (va_cons (ve_var i_mended_row (.inl (cv_own k_mended_5_row)) (q.d 11) (q.c 11)) va_nil) (tk := takes0))))) va_nil)))))
  (vss_cons (vs_if (vt_cmp (os_ne hr.units) (ve_f (ok_slab_of T) hr q 5 (va_cons (ve_v q) va_nil)) (ve_v q) (nomark _)) (vss_one (vs_raiseC (c := 2) T.cf_Broken T.rf_Broken (q.g 6) (q.h 6))) vss_nil)
  (vss_one (vs_ret (ve_v q))))))))))))
theorem ok_law : OkV P w base 7 T.d_law T.G 1 F_law :=
  fnV3 (N := N_law) (fb := f_law) sc_law fun cdv A outer s H E C hr hp q =>
  (vss_cons (vs_asg (ve_f (ok__law_container T) hr q 0 (va_cons (ve_v q) va_nil)) (vg_tup rfl (vgs_c q hp (vgs_c q hp (vgs_c q hp vgs_nil)))))
  (vss_cons (vs_s q hp (ve_tup (va_cons (ve_set (ve_v q)) (va_cons (ve_set (ve_v q)) (va_cons (ve_set (ve_v q)) va_nil)))))
  (vss_cons (vs_s q hp (ve_f (ok__law_pool T) hr q 1 (va_cons (ve_v q) (va_cons ve_int va_nil))))
  (vss_cons (vs_s q hp (ve_f (ok_spares_of T) hr q 2 (va_cons (ve_f (ok_slab_of T) hr q 3 (va_cons (ve_v q) va_nil)) (va_cons (ve_ix rfl (ve_lst (va_cons (ve_set (ve_callQ (takes_of rfl rfl rfl rfl) (ok__law_take T) (by decide) (hr.mono (by decide)) (q.g 4) T.d__law_take.m T.d__law_take.k T.d__law_take.b (va_cons (ve_v q) (va_cons (ve_set ve_int) va_nil)) (q.h 4))) (va_cons (ve_set (ve_callQ (takes_of rfl rfl rfl rfl) (ok__law_take T) (by decide) (hr.mono (by decide)) (q.g 4) T.d__law_take.m T.d__law_take.k T.d__law_take.b (va_cons (ve_v q) (va_cons (ve_set ve_int) va_nil)) (q.h 4))) va_nil))) (ve_callQ (takes_of rfl rfl rfl rfl) (ok__law_take T) (by decide) (hr.mono (by decide)) (q.g 4) T.d__law_take.m T.d__law_take.k T.d__law_take.b (va_cons (ve_v q) (va_cons (ve_set ve_int) va_nil)) (q.h 4)) (fun _ _ => rfl)) va_nil))))
  (vss_cons (vs_f (vi_range1 (q.g 5) T.n_range (va_cons (ve_ix rfl (ve_lst (va_cons (ve_set ve_int) (va_cons (ve_set ve_int) va_nil))) (ve_callTy rfl cs_int (q.g 6) T.n_int v_int (va_cons (ve_cmp os_lt (ve_len T.n_len (q.g 7) (ve_v q)) ve_int (nomark _)) va_nil) nn_int (q.h 6)) (fun _ _ => rfl)) va_nil)) (vg_n q hp) (vss_cons (vs_s q hp (ve_callQ (takes_of rfl rfl rfl rfl) (ok__law_some T) (by decide) (hr.mono (by decide)) (q.g 8) T.d__law_some.m T.d__law_some.k T.d__law_some.b (va_cons (ve_set (ve_v q)) (va_cons (ve_set (ve_v q)) (va_cons (ve_v q) va_nil))) (q.h 8)))
  (vss_cons (vs_setLc rfl q.nd (q.n 9) k_law_handed (pinV hp 9) (sw_true sc_law.fs.kind k_law_handed rfl (by decide +kernel)) (own := [("one", 13)]) (vi_list rfl (ve_slice rfl (ve_v q) vo_none (vo_some (ve_len T.n_len (q.g 7) (ve_v q))))) (show BlkOk N_law (defScope s_law) _ _ from blkOk_by (by decide +kernel)) (pinVo hp [13]) (by decide) (fun _ _ _ _ _ => (vg_name q.nd i_law_one (.inl (cv_own k_law_1_one)) (pinV hp 13))) (fun _ _ _ _ _ => vts_nil) (fun _ _ _ _ _ => (ve_if (vt_cmp os_is (ve_var i_law_one (.inl (cv_own k_law_1_one)) (q.d 13) (q.c 13)) ve_non (nomark _)) ve_non (ve_tup (va_cons (ve_set (ve_ix rfl (ve_var i_law_one (.inl (cv_own k_law_1_one)) (q.d 13) (q.c 13)) ve_int (fun _ _ => rfl))) (va_cons (ve_set (ve_callTy rfl cs_list (cv_gl k_law_1_list) T.n_list v_list (va_cons (ve_ix rfl (ve_var i_law_one (.inl (cv_own k_law_1_one)) (q.d 13) (q.c 13)) ve_int (fun _ _ => rfl)) va_nil) nn_list (q.h 9))) va_nil))))))
  (vss_cons (vs_setLc rfl q.nd (q.n 10) k_law_rows (pinV hp 10) (sw_true sc_law.fs.kind k_law_rows rfl (by decide +kernel)) (own := [("row", 14)]) (vi_list rfl (ve_slice rfl (ve_v q) (vo_some (ve_len T.n_len (q.g 7) (ve_v q))) vo_none)) (show BlkOk N_law (defScope s_law) _ _ from blkOk_by (by decide +kernel)) (pinVo hp [14]) (by decide) (fun _ _ _ _ _ => (vg_name q.nd i_law_row (.inl (cv_own k_law_2_row)) (pinV hp 14))) (fun _ _ _ _ _ => vts_nil) (fun _ _ _ _ _ => (ve_if (vt_cmp os_is (ve_var i_law_row (.inl (cv_own k_law_2_row)) (q.d 14) (q.c 14)) ve_non (nomark _)) ve_non (ve_callTy rfl cs_list (cv_gl k_law_2_list) T.n_list v_list (va_cons (ve_var i_law_row (.inl (cv_own k_law_2_row)) (q.d 14) (q.c 14)) va_nil) nn_list (q.h 9)))))
  (vss_cons (vs_s q hp (ve_f (ok_mended T) hr q 10 (va_cons (ve_tup (va_cons (ve_set (ve_v q)) (va_cons (ve_set (ve_v q)) (va_cons (ve_set (ve_v q)) va_nil)))) (va_cons (ve_v q) va_nil))))
  (vss_cons (vs_if (VW.pt (vw_or (vt_not (vt_val (ve_isi T.tab.etab (q.g 11) T.n_isinstance v_isinstance (va_cons (ve_v q) (va_cons (ve_gty (q.g 12) T.n_tuple v_tuple nn_tuple (q.h 12)) va_nil)) nn_isinstance (q.h 11)) (fun _ => rfl))) (vw_or (vt_cmp (os_ne hr.units) (ve_len T.n_len (q.g 7) (ve_v q)) ve_int (nomark _)) (vw_or (vt_not (vt_val (ve_pure (fun _ eC2 => (ve_isi T.tab.etab (q.g 11) T.n_isinstance v_isinstance (va_cons (ve_ix rfl (ve_v q) ve_int (fun _ _ => rfl)) (va_cons (ve_gty (q.g 9) T.n_list v_list nn_list (q.h 9)) va_nil)) nn_isinstance (q.h 11)))) (fun _ => rfl))) (vw_or1 (vt_cmp (os_ne hr.units) (ve_v q) (ve_v q) (nomark _))))))) (vss_one (vs_ret ve_bl)) vss_nil)
  (vss_cons (vs_forGA (passes_of rfl) rfl (pp_ix (p := []) (m := 2) (pp_var (q.n 11) (q.v 11) (q.d 11) (q.c 11))) q.nd (GW.gt (gw_or (gt_tup (q.g 11) T.n_isinstance v_isinstance (q.g 12) T.n_tuple v_tuple (q.n 12) (q.v 12) (q.d 12) (q.c 12) nn_isinstance (q.h 11) nn_tuple (q.h 12)) (gw_one (gt_lst (q.g 11) T.n_isinstance v_isinstance (q.g 9) T.n_list v_list (q.n 12) (q.v 12) (q.d 12) (q.c 12) (fun _ _ => rfl) nn_isinstance (q.h 11) nn_list (q.h 9))))) (vss_one (vs_ret ve_bl)) (fun _ _ => rfl) (by decide) (q.n 12) (q.l 12) (pinV hp 12) (q.d 12) (q.c 12))
  (vss_cons (vs_if (vt_cmp (os_ne hr.units) (ve_pure (fun _ eC3 => ve_lc rfl q.nd (own := [("way", 15), ("bits", 16)]) (vi_list rfl (ve_ix rfl (ve_v q) ve_int (fun _ _ => rfl))) (show BlkOk N_law (defScope s_law) _ _ from blkOk_by (by decide +kernel)) (pinPo (pinVo hp [15, 16]) eC3) (by decide) (fun _ _ _ _ _ => (vg_tup rfl (vgs_cons q.nd i_law_way (.inl (cv_own k_law_3_way)) (pinP (pinV hp 15) eC3) (vgs_cons q.nd i_law_bits (.inl (cv_own k_law_3_bits)) (pinP (pinV hp 16) eC3) vgs_nil)))) (fun _ _ _ _ _ => vts_nil) (fun _ _ _ _ _ => (ve_len T.n_len (cv_gl k_law_3_len) (ve_var i_law_bits (.inl (cv_own k_law_3_bits)) (q.d 16) (q.c 16)))))) (ve_lc rfl q.nd (own := [("way", 15), ("bits", 16)]) (vi_list rfl (ve_v q)) (show BlkOk N_law (defScope s_law) _ _ from blkOk_by (by decide +kernel)) (pinVo hp [15, 16]) (by decide) (fun _ _ _ _ _ => (vg_tup rfl (vgs_cons q.nd i_law_way (.inl (cv_own k_law_4_way)) (pinV hp 15) (vgs_cons q.nd i_law_bits (.inl (cv_own k_law_4_bits)) (pinV hp 16) vgs_nil)))) (fun _ _ _ _ _ => vts_nil) (fun _ _ _ _ _ => (ve_bin os_add (ve_len T.n_len (cv_gl k_law_4_len) (ve_var i_law_bits (.inl (cv_own k_law_4_bits)) (q.d 16) (q.c 16))) ve_int))) (nomark _)) (vss_one (vs_ret ve_bl)) vss_nil)
  (vss_cons (vs_expr (ve_clrP (q.n 11) (q.v 11) (q.d 11) (q.c 11) ve_int (fun _ _ => rfl)))
  (vss_one (vs_if (vt_cmp (os_ne hr.units) (ve_bin os_add (ve_v q) (ve_v q)) (ve_v q) (nomark _)) (vss_one (vs_ret ve_bl)) vss_nil)))))))))))
  (vss_one (vs_ret ve_bl)))))))
end
end K81

namespace K81
theorem all_mk {P : Program} {w : World} {K : PySem.W.Frag} {mg : Str → Option Value} {fa : Addr} (hfa : mg "law" = some (.ref fa)) (T : Txt K mg) : ∃ fd : FuncData, (∀ (s : Shared) (u : Value), BindsTo s fd ⟨[u], []⟩ [("script", u)]) ∧ ∀ base : Heap, K.In base → base.Ns mainGlobals mg → FnOk P w K mg base (L2.CX P w) 7 fa fd ["script"] (spLaw K) := by
  have e := hfa.symm.trans T.d_law.m
  cases e
  exact ⟨T.d_law.fd, fun s u => .of_eq (T.d_law.bs [u] rfl), fun base _ _ => (ok_law T).imp fun vs H Q E q => law_imp (G := T.G) rfl rfl law_plain q⟩
end K81
open PySem PySem.W PyProof.Rows
local macro_rules | `(tactic| walk_at "d") => `(tactic| (refine' VL.DF.of (by assumption) (by assumption) ?n ?l ?c ?k ?b; (case n => k_is); (case l => k_is); (case c => k_is); (case k => k_is); (case b => first | (exact fun _ _ _ _ _ _ us hl => match us, hl with | [_], _ => rfl) | (exact fun _ _ _ _ _ _ us hl => match us, hl with | [_, _], _ => rfl) | (exact fun _ _ _ _ _ _ us hl => match us, hl with | [_, _, _], _ => rfl)))) -- own
local macro_rules | `(tactic| walk_at "c") => `(tactic| (refine' VL.CF.of (by assumption) (by assumption) ?n ?i ?t ?b; (case n => k_is); (case i => k_is); (case t => k_is); (case b => k_is))) -- own
local macro_rules | `(tactic| walk_at "r") => `(tactic| (refine' ⟨?x, ?kc, ?hg, ?hk, ?hd, ?ha, ?hm, ?se⟩; (case x => k_exc); (case kc => k_is); (case hg => k_is); (case hk => k_is); (case hd => k_is); (case ha => k_is); (case hm => k_is); (case se => first | rfl | k_is))) -- own
local macro_rules | `(tactic| walk_at "e") => `(tactic| (refine' ⟨?n, ?t⟩; (case n => k_is); (case t => k_is))) -- own
local macro_rules | `(tactic| walk_at "su") => `(tactic| (first | rfl | k_is)) -- own
local macro_rules | `(tactic| walk_at "k") => `(tactic| (k_is)) -- own
local macro_rules | `(tactic| walk_at "n") => `(tactic| (refine' PySem.W.mg_none_of (by assumption) (by assumption) ?z; (case z => k_is))) -- own
local macro_rules | `(tactic| walk_at "g") => `(tactic| (refine' VL.KI.of (by assumption) (by assumption) ?z; (case z => k_is))) -- own
local macro_rules | `(tactic| walk_at "gs") => `(tactic| (refine' VL.KS.of (by assumption) (by assumption) ?z; (case z => k_is))) -- own
theorem PySem.Challenge.cw_packhall_k81_whole_lost_blocks_back_holds : PySem.Challenge.rw_packhall_k81_whole_lost_blocks_back.Holds := by
  w_on; o_law; k_head; (case hw => w_witness2)
  k_fill
  refine VL.walk_lawV (k := 7) (l := PySem.Challenge.rw_packhall_k81_whole_lost_blocks_back) rfl rfl ⟨rfl, by decide, by decide⟩ (fun w h Y => PySem.W.kIn_of Y) ?F
  case F =>
    intro w mg fa h KX G hmg
    refine' K81.all_mk hmg ⟨_, _, ?cf_NoNumber, ?cf_Broken, ?rf_Broken, ?rf_NoNumber, ?ef, ?n_len, ?n_range, ?n_min, ?n_sum, ?n_zip, ?n_list, ?n_isinstance, ?n_int, ?n_bool, ?n_max, ?n_tuple, ?g_PRIME, ?g_MOST_WAY, ?g_MOST_BITS, ?g_MOST_BLOCKS, ?g_MOST_ROWS, ?g_MOST_SPARES, ?d__law_pool, ?d__law_take, ?d__law_bits, ?d__law_container, ?d_turned_over, ?d_shares_at, ?d_row_at, ?d_spares_of, ?d_need_container, ?d_need_block, ?d_need_blocks, ?d_short_row, ?d_slab_of, ?d__law_some, ?d_need_rows, ?d_all_by, ?d_mend_rows, ?d_block_of, ?d_mended, ?d_law⟩
    (case cf_NoNumber | cf_Broken => walk_at "c")
    (case rf_Broken | rf_NoNumber => walk_at "r")
    (case ef => walk_at "e")
    (case n_len | n_range | n_min | n_sum | n_zip | n_list | n_isinstance | n_int | n_bool | n_max | n_tuple => walk_at "n")
    (case g_PRIME | g_MOST_WAY | g_MOST_BITS | g_MOST_BLOCKS | g_MOST_ROWS | g_MOST_SPARES => walk_at "g")
    (case d__law_pool | d__law_take | d__law_bits | d__law_container | d_turned_over | d_shares_at | d_row_at | d_spares_of | d_need_container | d_need_block | d_need_blocks | d_short_row | d_slab_of | d__law_some | d_need_rows | d_all_by | d_mend_rows | d_block_of | d_mended | d_law => walk_at "d")
#print axioms PySem.Challenge.cw_packhall_k81_whole_lost_blocks_back_holds

