import PyProof.Rows.All
import Wide.All
import OpenK.AllK
import Wide.FinOn
import HandS.ForMost
import HandS.ForExc
import HandS.ExcIs
import HandS.Lambda
import HandS.EndTab
import HandS.Wide
import HandS.WideBits
import HandS.Deep
import HandS.TupAny
import HandS.IsInst
import HandS.Ends
import HandS.Style
import HandS.EndBits
import HandS.Conv
import HandS.SetFor
import HandS.SortInts
import HandS.More
import HandS.NoneIn
import HandS.DictTup
import HandS.SortRule
import HandS.NamedTupSort
import KE.LtSeq
import HandS.Rev
import HandS.Strs
import HandS.ExcOwn
import HandS.SortKw
import KE.SortKeyHeap
import HandS.Dict
import HandS.TupLe
import HandS.Sort
import KE.KDictZip
import HandS.Zip
import KE.KTryMore
import KE.DatumOrd
import PySem.Challenge.RW_packhall_k09_words_by_lengths
set_option Elab.async false
set_option linter.all false
set_option maxRecDepth 100000
set_option maxHeartbeats 4000000
namespace VL
end VL
open PySem PySem.Spec PyProof.Rows L2 VL
namespace VL
open PySem PySem.Spec PyProof.Rows L2

inductive Kd where
  | lst | tup | rd | dK (ks : List Key) | dT (ks : List (List Key)) | ins (c : Nat) (fs : List Str)
def isR : Kd → Bool
  | .rd => true
  | _ => false
inductive D where
  | any | non | bl (b : Bool) | int (i : Int) | str (s : Str) | exc (c : Nat) | ty (n : String) | cls (c : Nat)
  | node (k : Kd) (o : Bool) (xs : List D)

inductive Bs where
  | sl (i : Nat) | tm (j : Nat) | fo
  deriving DecidableEq
structure Loc where
  b : Bs
  p : List Nat
  deriving DecidableEq
def Loc.sub (l : Loc) (i : Nat) : Loc := ⟨l.b, l.p ++ [i]⟩
def Loc.app (l : Loc) (q : List Nat) : Loc := ⟨l.b, l.p ++ q⟩
theorem Loc.sub_app (l : Loc) (i : Nat) (q : List Nat) : (l.sub i).app q = l.app (i :: q) := by
  unfold Loc.sub Loc.app; simp
theorem Loc.app_nil (l : Loc) : l.app [] = l := by
  unfold Loc.app; simp
abbrev Ow := Addr → Option Loc

def ExT (cls : Value) (a : Addr) : HO := .ext fun h => ∃ (oe : Obj) (vs : Array Value), h.get? a = some oe ∧ Zc cls none oe ∧ oe.data = .fields vs
def isTbl : HO → Bool
  | .tbl _ => true
  | _ => false
def Kt (x : Option HO) (o : HO) : Prop := x = some o ∨ (isTbl o = true ∧ ∃ ps, x = some (.tbl ps))
instance {x : Option HO} {o : HO} : Coe (x = some o) (Kt x o) := ⟨.inl⟩
theorem Kt.get {x : Option HO} {o : HO} (h : Kt x o) (n : isTbl o = false) : x = some o := h.elim id fun z => by rw [n] at z; cases z.1
theorem Kt.bind {x y : Option HO} {o : HO} (h : Kt x o) (f : ∀ u, x = some u → Kt y u) : Kt y o := by
  rcases h with h | ⟨h1, ps, h2⟩
  · exact f o h
  · rcases f _ h2 with z | ⟨_, z⟩
    · exact .inr ⟨h1, _, z⟩
    · exact .inr ⟨h1, z⟩
theorem Kt.no {o : HO} (h : Kt none o) : False := by
  rcases h with h | ⟨_, _, h⟩ <;> cases h
theorem Kt.on {x : Option HO} {o : HO} (h : Kt x o) (e : x = none) : False := by rw [e] at h; exact h.no
def OwnO : Option HO → Prop
  | some (.lst _) => True
  | some (.dK _) => True
  | some (.dT _) => True
  | some (.ins _ _ _) => True
  | _ => False
theorem OwnO.nt {o : HO} (h : OwnO (some o)) : isTbl o = false := by
  cases o <;> first | rfl | exact h.elim
def OwnAt (k : Kd) (o : Bool) (l : Loc) (x : Option Loc) : Prop := match k with
  | .rd => True
  | _ => x = if o = true then some l else none
theorem OwnAt.ofR {k : Kd} {o : Bool} {l : Loc} {x : Option Loc} (h : isR k = true) : OwnAt k o l x := by
  cases k <;> first | exact trivial | cases h
theorem OwnAt.cases {k : Kd} {o : Bool} {l : Loc} {x : Option Loc} (h : OwnAt k o l x) : isR k = true ∨ x = if o = true then some l else none := by
  cases k <;> first | exact .inl rfl | exact .inr h
theorem OwnAt.mk {k : Kd} {o : Bool} {l : Loc} {x : Option Loc} (h : x = if o = true then some l else none) : OwnAt k o l x := by
  cases k <;> first | exact h | exact trivial
structure GX where
  ad : Nat → Addr
  K : PySem.W.Frag
  T : List (Addr × Str)
instance : CoeFun GX (fun _ => Nat → Addr) := ⟨GX.ad⟩
def Holds (G : GX) (H : Hp) (a : Addr) : Kd → List V → Prop
  | .lst, vs => H a = some (.lst vs)
  | .tup, vs => H a = some (.tup vs)
  | .rd, vs => (∃ o, H a = some (.frz o (.lst vs))) ∨ ∃ (o : Obj) (its : Array Value) (n : Nat), G.K.lookup a = some o ∧ o.cls = .type "list" ∧ o.dict = none ∧ o.data = .seq its n ∧ its.size ≤ sizeLine ∧ Vals vs its.toList
  | .dK ks, vs => H a = some (.dK (ks.zip vs)) ∧ ks.length = vs.length
  | .dT ks, vs => H a = some (.dT (ks.zip vs)) ∧ ks.length = vs.length
  | .ins c fs, vs => (∃ dx, H a = some (.ins (G c) dx (fs.zip vs))) ∧ fs.length = vs.length
theorem Holds.there {G : GX} {H : Hp} {a : Addr} {k : Kd} {vs : List V} (h : Holds G H a k vs) (n : isR k ≠ true) : ∃ o, H a = some o ∧ isTbl o = false := by
  cases k with
  | lst => exact ⟨_, h, rfl⟩
  | tup => exact ⟨_, h, rfl⟩
  | dK ks => exact ⟨_, h.1, rfl⟩
  | dT ks => exact ⟨_, h.1, rfl⟩
  | ins c fs => obtain ⟨⟨dx, h⟩, _⟩ := h; exact ⟨_, h, rfl⟩
  | _ => exact absurd rfl n
theorem Holds.seq {G : GX} {H : Hp} {a : Addr} {vs : List V} (h : Holds G H a .rd vs) : SqL G.K H a vs := by
  rcases h with ⟨o, h⟩ | h
  · exact .inl (.inr ⟨o, h⟩)
  · exact .inr h
theorem Holds.keep {G : GX} {H H' : Hp} {a : Addr} {k : Kd} {vs : List V} (h : Holds G H a k vs) (e : ∀ o, H a = some o → Kt (H' a) o) : Holds G H' a k vs := by
  cases k with
  | lst => exact (e _ h).get rfl
  | tup => exact (e _ h).get rfl
  | rd =>
    rcases h with ⟨o, h⟩ | h
    · exact .inl ⟨o, (e _ h).get rfl⟩
    · exact .inr h
  | dK ks => exact ⟨(e _ h.1).get rfl, h.2⟩
  | dT ks => exact ⟨(e _ h.1).get rfl, h.2⟩
  | ins c fs => obtain ⟨⟨dx, h⟩, z⟩ := h; exact ⟨⟨dx, (e _ h).get rfl⟩, z⟩
theorem Holds.keepR {G : GX} {H H' : Hp} {a : Addr} {k : Kd} {vs : List V} (hk : isR k = true) (h : Holds G H a k vs) (e : ∀ a o, H a = some o → ¬ OwnO (some o) → Kt (H' a) o) : Holds G H' a k vs := by
  cases k with
  | rd =>
    rcases h with ⟨o, h⟩ | h
    · exact .inl ⟨o, (e _ _ h (fun z => z)).get rfl⟩
    · exact .inr h
  | _ => cases hk
mutual
def Rep (G : GX) (ow : Ow) (H : Hp) : D → Loc → V → Prop
  | .any, _, _ => True
  | .non, _, v => v = .non
  | .bl b, _, v => v = .bl b
  | .int i, _, v => v = .int i
  | .str s, _, v => v = .str s
  | .exc c, _, v => ∃ a, v = .ref a ∧ H a = some (ExT (.ref (G c)) a)
  | .ty n, _, v => v = .ty n
  | .cls c, _, v => v = .ref (G c)
  | .node k o xs, l, v => ∃ a vs, v = .ref a ∧ Holds G H a k vs ∧ OwnAt k o l (ow a) ∧ Reps G ow H xs l 0 vs
def Reps (G : GX) (ow : Ow) (H : Hp) : List D → Loc → Nat → List V → Prop
  | [], _, _, vs => vs = []
  | d :: ds, l, i, vs => ∃ v ws, vs = v :: ws ∧ Rep G ow H d (l.sub i) v ∧ Reps G ow H ds l (i + 1) ws
end

mutual
def frz : D → D
  | .any => .any
  | .non => .non
  | .bl b => .bl b
  | .int i => .int i
  | .str s => .str s
  | .exc c => .exc c
  | .ty n => .ty n
  | .cls c => .cls c
  | .node k _ xs => .node k false (frzs xs)
def frzs : List D → List D
  | [] => []
  | d :: ds => frz d :: frzs ds
end
theorem frzs_map : ∀ xs : List D, frzs xs = xs.map frz
  | [] => by simp [frzs]
  | d :: ds => by simp [frzs, frzs_map ds]
mutual
theorem frz_frz : ∀ d : D, frz (frz d) = frz d
  | .any => rfl
  | .non => rfl
  | .bl _ => rfl
  | .int _ => rfl
  | .str _ => rfl
  | .exc _ => rfl
  | .ty _ => rfl
  | .cls _ => rfl
  | .node k o xs => by simp only [frz, frzs_frzs xs]
theorem frzs_frzs : ∀ ds : List D, frzs (frzs ds) = frzs ds
  | [] => by simp only [frzs]
  | d :: ds => by simp only [frzs, frz_frz d, frzs_frzs ds]
end
def frzB : D → D
  | .node k o xs => .node k o (frzs xs)
  | d => d

section
variable {G : GX} {ow ow' : Ow} {H H' : Hp}
mutual
/-- the one rule of change: objects that the tree leans on stay, and who owns them is told anew -/
theorem Rep.mono : ∀ (d : D) {l l' : Loc} {v : V}, (∀ a o, H a = some o → (ow a = none ∨ ∃ q, ow a = some (l.app q)) → Kt (H' a) o) → (∀ a o, H a = some o → ¬ OwnO (some o) → Kt (H' a) o) → (∀ a o, H a = some o → ow a = none → ow' a = none) →
    (∀ a o q, H a = some o → ow a = some (l.app q) → ow' a = some (l'.app q)) → Rep G ow H d l v → Rep G ow' H' d l' v
  | .any, _, _, _, _, _, _, _, _ => trivial
  | .non, _, _, _, _, _, _, _, h => h
  | .bl _, _, _, _, _, _, _, _, h => h
  | .int _, _, _, _, _, _, _, _, h => h
  | .str _, _, _, _, _, _, _, _, h => h
  | .ty _, _, _, _, _, _, _, _, h => h
  | .cls _, _, _, _, _, _, _, _, h => h
  | .exc _, _, _, _, _, hE, _, _, h => by
    obtain ⟨a, e, h⟩ := h
    exact ⟨a, e, (hE a _ h (fun z => z)).get rfl⟩
  | .node k o xs, l, l', v, hA, hE, hB, hC, h => by
    obtain ⟨a, vs, e, h1, h2, h3⟩ := h
    by_cases hk : isR k = true
    · exact ⟨a, vs, e, h1.keepR hk hE, .ofR hk, Reps.mono xs hA hE hB hC h3⟩
    have h2 := h2.cases.resolve_left hk
    obtain ⟨ob, hob, _⟩ := h1.there hk
    refine ⟨a, vs, e, h1.keep fun o' z => hA a o' z ?_, .mk ?_, Reps.mono xs hA hE hB hC h3⟩
    · cases o with
      | true => exact .inr ⟨[], by rw [Loc.app_nil]; simpa using h2⟩
      | false => exact .inl (by simpa using h2)
    · cases o with
      | true =>
        have z := hC a ob [] hob (by rw [Loc.app_nil]; simpa using h2)
        rw [Loc.app_nil] at z
        simpa using z
      | false => simpa using hB a ob hob (by simpa using h2)
theorem Reps.mono : ∀ (ds : List D) {l l' : Loc} {i : Nat} {vs : List V}, (∀ a o, H a = some o → (ow a = none ∨ ∃ q, ow a = some (l.app q)) → Kt (H' a) o) → (∀ a o, H a = some o → ¬ OwnO (some o) → Kt (H' a) o) → (∀ a o, H a = some o → ow a = none → ow' a = none) →
    (∀ a o q, H a = some o → ow a = some (l.app q) → ow' a = some (l'.app q)) → Reps G ow H ds l i vs → Reps G ow' H' ds l' i vs
  | [], _, _, _, _, _, _, _, _, h => h
  | d :: ds, l, l', i, vs, hA, hE, hB, hC, h => by
    obtain ⟨v, ws, e, h1, h2⟩ := h
    refine ⟨v, ws, e, Rep.mono d (fun a o z q => hA a o z ?_) hE hB (fun a o q z r => ?_) h1, Reps.mono ds hA hE hB hC h2⟩
    · rcases q with q | ⟨q, r⟩
      · exact .inl q
      · exact .inr ⟨i :: q, by rw [r, Loc.sub_app]⟩
    · rw [Loc.sub_app] at r ⊢
      exact hC a o (i :: q) z r
end
mutual
/-- frozen: all that it owned is nobody's -/
theorem Rep.frz : ∀ (d : D) {l l' : Loc} {v : V}, (∀ a o, H a = some o → (ow a = none ∨ ∃ q, ow a = some (l.app q)) → Kt (H' a) o ∧ ow' a = none) → (∀ a o, H a = some o → ¬ OwnO (some o) → Kt (H' a) o) →
    Rep G ow H d l v → Rep G ow' H' (VL.frz d) l' v
  | .any, _, _, _, _, _, _ => trivial
  | .non, _, _, _, _, _, h => h
  | .bl _, _, _, _, _, _, h => h
  | .int _, _, _, _, _, _, h => h
  | .str _, _, _, _, _, _, h => h
  | .ty _, _, _, _, _, _, h => h
  | .cls _, _, _, _, _, _, h => h
  | .exc _, _, _, _, _, hE, h => by
    obtain ⟨a, e, h⟩ := h
    exact ⟨a, e, (hE a _ h (fun z => z)).get rfl⟩
  | .node k o xs, l, l', v, hA, hE, h => by
    obtain ⟨a, vs, e, h1, h2, h3⟩ := h
    by_cases hk : isR k = true
    · exact ⟨a, vs, e, h1.keepR hk hE, .ofR hk, Reps.frz xs hA hE h3⟩
    have h2 := h2.cases.resolve_left hk
    obtain ⟨ob, hob, _⟩ := h1.there hk
    have own : ow a = none ∨ ∃ q, ow a = some (l.app q) := by
      cases o with
      | true => exact .inr ⟨[], by rw [Loc.app_nil]; simpa using h2⟩
      | false => exact .inl (by simpa using h2)
    show ∃ a vs, v = .ref a ∧ Holds G H' a k vs ∧ OwnAt k false l' (ow' a) ∧ Reps G ow' H' (VL.frzs xs) l' 0 vs
    exact ⟨a, vs, e, h1.keep fun o' z => (hA a o' z own).1, .mk (by simpa using (hA a ob hob own).2), Reps.frz xs hA hE h3⟩
theorem Reps.frz : ∀ (ds : List D) {l l' : Loc} {i j : Nat} {vs : List V}, (∀ a o, H a = some o → (ow a = none ∨ ∃ q, ow a = some (l.app q)) → Kt (H' a) o ∧ ow' a = none) → (∀ a o, H a = some o → ¬ OwnO (some o) → Kt (H' a) o) →
    Reps G ow H ds l i vs → Reps G ow' H' (VL.frzs ds) l' j vs
  | [], _, _, _, _, _, _, _, h => h
  | d :: ds, l, l', i, j, vs, hA, hE, h => by
    obtain ⟨v, ws, e, h1, h2⟩ := h
    show ∃ v ws, vs = v :: ws ∧ Rep G ow' H' (VL.frz d) (l'.sub j) v ∧ Reps G ow' H' (VL.frzs ds) l' (j + 1) ws
    refine ⟨v, ws, e, Rep.frz d (fun a o z q => hA a o z ?_) hE h1, Reps.frz ds hA hE h2⟩
    rcases q with q | ⟨q, r⟩
    · exact .inl q
    · exact .inr ⟨i :: q, by rw [r, Loc.sub_app]⟩
end
end

theorem Reps.length {G : GX} {ow : Ow} {H : Hp} : ∀ {ds : List D} {l : Loc} {i : Nat} {vs : List V}, Reps G ow H ds l i vs → ds.length = vs.length
  | [], _, _, _, h => by
    have e : _ = [] := h
    subst e; rfl
  | d :: ds, l, i, vs, h => by
    obtain ⟨v, ws, e, _, h2⟩ := h
    subst e
    simp [Reps.length h2]
theorem Reps.get {G : GX} {ow : Ow} {H : Hp} : ∀ {ds : List D} {l : Loc} {i : Nat} {vs : List V}, Reps G ow H ds l i vs → ∀ (j : Nat) (d : D), ds[j]? = some d → ∃ v, vs[j]? = some v ∧ Rep G ow H d (l.sub (i + j)) v
  | [], _, _, _, _, j, d, e => by simp at e
  | d :: ds, l, i, vs, h, 0, d', e => by
    obtain ⟨v, ws, ev, h1, _⟩ := h
    subst ev
    simp at e; subst e
    exact ⟨v, rfl, h1⟩
  | d :: ds, l, i, vs, h, j + 1, d', e => by
    obtain ⟨v, ws, ev, _, h2⟩ := h
    subst ev
    obtain ⟨u, e1, e2⟩ := Reps.get h2 j d' (by simpa using e)
    refine ⟨u, by simpa using e1, ?_⟩
    rw [show i + (j + 1) = i + 1 + j by omega]
    exact e2
theorem Reps.of_get {G : GX} {ow : Ow} {H : Hp} : ∀ {ds : List D} {l : Loc} {i : Nat} {vs : List V}, ds.length = vs.length → (∀ (j : Nat) (d : D) (v : V), ds[j]? = some d → vs[j]? = some v → Rep G ow H d (l.sub (i + j)) v) → Reps G ow H ds l i vs
  | [], _, _, vs, hl, _ => by
    have : vs = [] := by simpa using hl.symm
    exact this
  | d :: ds, l, i, [], hl, _ => by simp at hl
  | d :: ds, l, i, v :: vs, hl, h => by
    refine ⟨v, vs, rfl, h 0 d v rfl rfl, Reps.of_get (by simpa using hl) fun j d' v' e1 e2 => ?_⟩
    have z := h (j + 1) d' v' (by simpa using e1) (by simpa using e2)
    rw [show i + 1 + j = i + (j + 1) by omega]
    exact z
end VL

namespace VL
open PySem PySem.Spec PyProof.Rows L2

structure Fc where
  H0 : Hp
  io : Addr → Prop
  fo : Addr → Prop
  pin : List (Nat × V)
abbrev Rho := List (Option D)
theorem tabs_upd {T : List (Addr × Str)} {H : Hp} {a : Addr} {ho : HO} (t : LamX.Tabs T H) (h : H a = none ∨ OwnO (H a)) : LamX.Tabs T (upd H a ho) := fun p hp => by
  have ne : ∀ (b : Addr) (o : HO), H b = some o → ¬ OwnO (some o) → upd H a ho b = some o := fun b o e n => by
    rw [upd_ne]
    · exact e
    · intro z
      subst z
      rcases h with h | h
      · rw [h] at e; cases e
      · rw [e] at h; exact n h
  obtain ⟨ps, h1, h2, h3⟩ := t p hp
  refine ⟨ps, ne _ _ h1 (fun z => z), h2, fun pos cv hc => ?_⟩
  obtain ⟨c, e1, e2⟩ := h3 pos cv hc
  exact ⟨c, e1, ne _ _ e2 (fun z => z)⟩
theorem tabs_none {T : List (Addr × Str)} {H : Hp} {a : Addr} {ho : HO} (t : LamX.Tabs T H) (h : H a = none) : LamX.Tabs T (upd H a ho) := tabs_upd t (.inl h)
theorem tabs_own {T : List (Addr × Str)} {H : Hp} {a : Addr} {ho o : HO} (t : LamX.Tabs T H) (h : H a = some o) (n : OwnO (some o)) : LamX.Tabs T (upd H a ho) := tabs_upd t (.inr (by rw [h]; exact n))
structure StW (G : GX) (C : Fc) (ow : Ow) (r : Rho) (T : List (D × V)) (s : L2.St) (H : Hp) : Prop where
  len : r.length = s.length
  sl : ∀ (i : Nat) (d : D), r[i]? = some (some d) → ∃ v, s[i]? = some (some v) ∧ Rep G ow H d ⟨.sl i, []⟩ v
  tm : ∀ (j : Nat) (d : D) (v : V), T[j]? = some (d, v) → Rep G ow H d ⟨.tm j, []⟩ v
  old : ∀ a o, ¬ C.io a → C.H0 a = some o → Kt (H a) o
  own : ∀ a l, ow a = some l → l.b = .fo ∨ C.H0 a = none ∨ C.io a
  fo : ∀ a, C.fo a → ow a = some ⟨.fo, []⟩
  mu : ∀ a l, ow a = some l → OwnO (H a)
  pin : ∀ p ∈ C.pin, s[p.1]? = some (some p.2)
  tabs : LamX.Tabs G.T H
def StOk (G : GX) (C : Fc) (r : Rho) (T : List (D × V)) (s : L2.St) (H : Hp) : Prop := ∃ ow, StW G C ow r T s H
def Ext (H H' : Hp) : Prop := ∀ a o, H a = some o → Kt (H' a) o
theorem Ext.trans {H H' H'' : Hp} (h : Ext H H') (h' : Ext H' H'') : Ext H H'' := fun a o e => (h a o e).bind fun u e => h' a u e
theorem Ext.new {H : Hp} {p : Addr} {o : HO} (h : H p = none) : Ext H (upd H p o) := fun a u e => by
  rw [upd_ne (ne_of_none e h)]; exact .inl e

def atom : D → Bool
  | .node _ _ _ => false
  | _ => true
theorem frz_atom {d : D} (h : atom d = true) : frz d = d := by
  cases d with
  | node k o xs => cases h
  | _ => rfl

section
variable {G : GX} {C : Fc} {ow ow' : Ow} {r : Rho} {T T1 T2 : List (D × V)} {s : L2.St} {H H' : Hp}
mutual
/-- .. the tree frozen: only unowned cells count -/
theorem Rep.moveF : ∀ (d : D) {l l' : Loc} {v : V}, VL.frz d = d → (∀ a o, H a = some o → ow a = none → Kt (H' a) o ∧ ow' a = none) → (∀ a o, H a = some o → ¬ OwnO (some o) → Kt (H' a) o) → Rep G ow H d l v → Rep G ow' H' d l' v
  | .any, _, _, _, _, _, _, _ => trivial
  | .non, _, _, _, _, _, _, h => h
  | .bl _, _, _, _, _, _, _, h => h
  | .int _, _, _, _, _, _, _, h => h
  | .str _, _, _, _, _, _, _, h => h
  | .ty _, _, _, _, _, _, _, h => h
  | .cls _, _, _, _, _, _, _, h => h
  | .exc _, _, _, _, _, _, hE, h => by
    obtain ⟨a, e, h⟩ := h
    exact ⟨a, e, (hE a _ h (fun z => z)).get rfl⟩
  | .node k o xs, l, l', v, e, hA, hE, h => by
    have e' : D.node k false (VL.frzs xs) = .node k o xs := e
    injection e' with _ e1 e2
    subst e1
    obtain ⟨a, vs, ev, h1, h2, h3⟩ := h
    by_cases hk : isR k = true
    · exact ⟨a, vs, ev, h1.keepR hk hE, .ofR hk, Reps.moveF xs e2 hA hE h3⟩
    have h2 := h2.cases.resolve_left hk
    obtain ⟨ob, hob, _⟩ := h1.there hk
    have n : ow a = none := by simpa using h2
    exact ⟨a, vs, ev, h1.keep fun o' z => (hA a o' z n).1, .mk (by simpa using (hA a ob hob n).2), Reps.moveF xs e2 hA hE h3⟩
theorem Reps.moveF : ∀ (ds : List D) {l l' : Loc} {i j : Nat} {vs : List V}, VL.frzs ds = ds → (∀ a o, H a = some o → ow a = none → Kt (H' a) o ∧ ow' a = none) → (∀ a o, H a = some o → ¬ OwnO (some o) → Kt (H' a) o) → Reps G ow H ds l i vs → Reps G ow' H' ds l' j vs
  | [], _, _, _, _, _, _, _, _, h => h
  | d :: ds, l, l', i, j, vs, e, hA, hE, h => by
    have e' : VL.frz d :: VL.frzs ds = d :: ds := e
    injection e' with e1 e2
    obtain ⟨v, ws, ev, h1, h2⟩ := h
    exact ⟨v, ws, ev, Rep.moveF d e1 hA hE h1, Reps.moveF ds e2 hA hE h2⟩
end

theorem StW.ext (S : StW G C ow r T s H) (e : Ext H H') (et : LamX.Tabs G.T H') : StW G C ow r T s H' where
  len := S.len
  sl := fun i d q => by
    obtain ⟨v, h1, h2⟩ := S.sl i d q
    exact ⟨v, h1, h2.mono d (fun a o z _ => e a o z) (fun a o z _ => e a o z) (fun _ _ _ z => z) fun _ _ _ _ z => z⟩
  tm := fun j d v q => (S.tm j d v q).mono d (fun a o z _ => e a o z) (fun a o z _ => e a o z) (fun _ _ _ z => z) fun _ _ _ _ z => z
  old := fun a o n q => (S.old a o n q).bind fun u q => e a u q
  own := S.own
  fo := S.fo
  mu := fun a l q => by
    have m := S.mu a l q
    cases z : H a with
    | none => rw [z] at m; exact m.elim
    | some o => rw [z] at m; rw [(e a o z).get m.nt]; exact m
  pin := S.pin
  tabs := et
theorem StOk.ext (S : StOk G C r T s H) (e : Ext H H') (et : LamX.Tabs G.T H') : StOk G C r T s H' := let ⟨ow, W⟩ := S; ⟨ow, W.ext e et⟩
theorem StOk.new {a : Addr} {ho : HO} (S : StOk G C r T s H) (hn : H a = none) : StOk G C r T s (upd H a ho) := S.ext (Ext.new hn) (let ⟨_, W⟩ := S; tabs_none W.tabs hn)
theorem StW.drop (S : StW G C ow r (T ++ T2) s H) : StW G C ow r T s H :=
  ⟨S.len, S.sl, fun j d v q => S.tm j d v (by
    have hj : j < T.length := (List.getElem?_eq_some_iff.mp q).1
    rw [List.getElem?_append_left hj]; exact q), S.old, S.own, S.fo, S.mu, S.pin, S.tabs⟩
theorem StOk.drop (S : StOk G C r (T ++ T2) s H) : StOk G C r T s H := let ⟨ow, W⟩ := S; ⟨ow, W.drop⟩
theorem StW.last {d : D} {v : V} (S : StW G C ow r (T ++ [(d, v)]) s H) : Rep G ow H d ⟨.tm T.length, []⟩ v := S.tm T.length d v (by simp)
theorem StW.push {d : D} {v : V} (S : StW G C ow r T s H) (h : Rep G ow H d ⟨.tm T.length, []⟩ v) : StW G C ow r (T ++ [(d, v)]) s H :=
  ⟨S.len, S.sl, fun j d' v' q => by
    by_cases hj : j < T.length
    · rw [List.getElem?_append_left hj] at q
      exact S.tm j d' v' q
    · rw [List.getElem?_append_right (by omega)] at q
      have e : j = T.length := by
        have := (List.getElem?_eq_some_iff.mp q).1
        simp at this; omega
      subst e
      simp at q
      obtain ⟨e1, e2⟩ := q
      subst e1; subst e2
      exact h, S.old, S.own, S.fo, S.mu, S.pin, S.tabs⟩
theorem Rep.of_atom {d : D} {l l' : Loc} {v : V} (a : atom d = true) (h : Rep G ow H d l v) : Rep G ow' H d l' v := by
  cases d with
  | node k o xs => cases a
  | _ => exact h
theorem StOk.pushA {d : D} {v : V} (S : StOk G C r T s H) (a : atom d = true) (h : ∀ ow l, Rep G ow H d l v) : StOk G C r (T ++ [(d, v)]) s H := let ⟨ow, W⟩ := S; ⟨ow, W.push (h _ _)⟩
theorem StOk.pushI (i : Int) (S : StOk G C r T s H) : StOk G C r (T ++ [(.int i, .int i)]) s H := S.pushA rfl fun _ _ => rfl
theorem StOk.pushB (b : Bool) (S : StOk G C r T s H) : StOk G C r (T ++ [(.bl b, .bl b)]) s H := S.pushA rfl fun _ _ => rfl
theorem StOk.pushN (S : StOk G C r T s H) : StOk G C r (T ++ [(.non, .non)]) s H := S.pushA rfl fun _ _ => rfl
def free (ow : Ow) (b : Bs) : Ow := fun a => match ow a with
  | some l => if l.b = b then none else some l
  | none => none
theorem free_none {b : Bs} {a : Addr} (h : ow a = none) : free ow b a = none := by unfold free; rw [h]
theorem free_at {b : Bs} {a : Addr} {l : Loc} (h : ow a = some l) (e : l.b = b) : free ow b a = none := by unfold free; rw [h]; simp [e]
theorem free_else {b : Bs} {a : Addr} {l : Loc} (h : ow a = some l) (e : l.b ≠ b) : free ow b a = some l := by unfold free; rw [h]; simp [e]
theorem of_free {b : Bs} {a : Addr} {l : Loc} (h : free ow b a = some l) : ow a = some l ∧ l.b ≠ b := by
  unfold free at h
  split at h
  · rename_i l' e
    split at h
    · cases h
    · rename_i n
      cases h
      exact ⟨e, n⟩
  · cases h
theorem app_b (l : Loc) (q : List Nat) : (l.app q).b = l.b := rfl
theorem Rep.free {d : D} {l : Loc} {v : V} {b : Bs} (h : Rep G ow H d l v) (n : l.b ≠ b) : Rep G (VL.free ow b) H d l v :=
  h.mono d (fun _ _ z _ => z) (fun _ _ z _ => z) (fun _ _ _ z => free_none z) fun a o q _ z => free_else z (by rw [app_b]; exact n)
theorem Rep.freeze {d : D} {l l' : Loc} {v : V} (h : Rep G ow H d l v) : Rep G (VL.free ow l.b) H (VL.frz d) l' v :=
  Rep.frz d (fun a o z q => ⟨z, by
    rcases q with q | ⟨q, e⟩
    · exact free_none q
    · exact free_at e (app_b l q)⟩) (fun _ _ z _ => z) h
theorem StW.frzSl {j : Nat} {d : D} (S : StW G C ow r T s H) (e : r[j]? = some (some d)) : StW G C (free ow (.sl j)) (r.set j (some (frz d))) T s H where
  len := by simpa using S.len
  sl := fun i d' q => by
    by_cases hi : i = j
    · subst hi
      have hlt : i < r.length := (List.getElem?_eq_some_iff.mp e).1
      rw [List.getElem?_set_self hlt] at q
      cases q
      obtain ⟨v, h1, h2⟩ := S.sl i d e
      exact ⟨v, h1, h2.freeze⟩
    · rw [List.getElem?_set_ne (Ne.symm hi)] at q
      obtain ⟨v, h1, h2⟩ := S.sl i d' q
      exact ⟨v, h1, h2.free (fun z => hi (by injection z))⟩
  tm := fun k d' v q => (S.tm k d' v q).free (fun z => nomatch z)
  old := S.old
  own := fun a l q => S.own a l (of_free q).1
  fo := fun a q => free_else (S.fo a q) (fun z => nomatch z)
  mu := fun a l q => S.mu a l (of_free q).1
  pin := S.pin
  tabs := S.tabs
theorem StW.copy {j : Nat} {d : D} {v : V} (S : StW G C ow r T s H) (e : r[j]? = some (some d)) (f : frz d = d) (hv : s[j]? = some (some v)) : StW G C ow r (T ++ [(d, v)]) s H := by
  obtain ⟨v', h1, h2⟩ := S.sl j d e
  rw [hv] at h1
  cases h1
  exact S.push (Rep.moveF d f (fun a o z q => ⟨z, q⟩) (fun _ _ z _ => z) h2)
theorem StW.frzTm {d : D} {v : V} (S : StW G C ow r (T1 ++ (d, v) :: T2) s H) : StW G C (VL.free ow (.tm T1.length)) r (T1 ++ (frz d, v) :: T2) s H where
  len := S.len
  sl := fun i d' q => by
    obtain ⟨v', h1, h2⟩ := S.sl i d' q
    exact ⟨v', h1, h2.free (fun z => nomatch z)⟩
  tm := fun k d' v' q => by
    by_cases hk : k = T1.length
    · subst hk
      have z : (T1 ++ (frz d, v) :: T2)[T1.length]? = some (frz d, v) := by simp
      rw [z] at q
      cases q
      exact Rep.freeze (l := ⟨.tm T1.length, []⟩) (S.tm T1.length d v (by simp))
    · refine (S.tm k d' v' ?_).free (fun z => hk (by injection z))
      by_cases hlt : k < T1.length
      · rw [List.getElem?_append_left hlt] at q ⊢; exact q
      · rw [List.getElem?_append_right (by omega)] at q ⊢
        obtain ⟨m, hm⟩ : ∃ m, k - T1.length = m + 1 := ⟨k - T1.length - 1, by omega⟩
        rw [hm] at q ⊢
        simpa using q
  old := S.old
  own := fun a l q => S.own a l (of_free q).1
  fo := fun a q => free_else (S.fo a q) (fun z => nomatch z)
  mu := fun a l q => S.mu a l (of_free q).1
  pin := S.pin
  tabs := S.tabs

def moved (ow : Ow) (b : Bs) (l : Loc) : Ow := fun a => match ow a with
  | some m => if m.b = b then some (l.app m.p) else some m
  | none => none
theorem moved_none {b : Bs} {l : Loc} {a : Addr} (h : ow a = none) : moved ow b l a = none := by unfold moved; rw [h]
theorem moved_at {b : Bs} {l m : Loc} {a : Addr} (h : ow a = some m) (e : m.b = b) : moved ow b l a = some (l.app m.p) := by unfold moved; rw [h]; simp [e]
theorem moved_else {b : Bs} {l m : Loc} {a : Addr} (h : ow a = some m) (e : m.b ≠ b) : moved ow b l a = some m := by unfold moved; rw [h]; simp [e]
theorem moved_some {b : Bs} {l m : Loc} {a : Addr} (h : moved ow b l a = some m) : ∃ m', ow a = some m' ∧ (m.b = l.b ∨ m.b = m'.b) := by
  unfold moved at h
  split at h
  · rename_i m' e
    refine ⟨m', e, ?_⟩
    split at h
    · cases h; exact .inl rfl
    · cases h; exact .inr rfl
  · cases h
theorem Rep.moved {d : D} {b : Bs} {l : Loc} {v : V} (h : Rep G ow H d ⟨b, []⟩ v) : Rep G (VL.moved ow b l) H d l v :=
  h.mono d (fun _ _ z _ => z) (fun _ _ z _ => z) (fun _ _ _ z => moved_none z) fun a o q _ z => by
    refine (moved_at z rfl).trans ?_
    simp [Loc.app]
theorem Rep.unmoved {d : D} {b : Bs} {l m : Loc} {v : V} (h : Rep G ow H d m v) (n : m.b ≠ b) : Rep G (VL.moved ow b l) H d m v :=
  h.mono d (fun _ _ z _ => z) (fun _ _ z _ => z) (fun _ _ _ z => moved_none z) fun a o q _ z => moved_else z (by rw [app_b]; exact n)
theorem StW.set {i : Nat} {d : D} {v : V} (S : StW G C ow r (T ++ [(d, v)]) s H) (hp : ∀ p ∈ C.pin, p.1 ≠ i) : StW G C (VL.moved (free ow (.sl i)) (.tm T.length) ⟨.sl i, []⟩) (r.set i (some d)) T (s.set i (some v)) H where
  len := by simpa using S.len
  sl := fun j d' q => by
    by_cases hj : j = i
    · subst hj
      have hlt : j < r.length := by
        have := (List.getElem?_eq_some_iff.mp q).1
        simpa using this
      rw [List.getElem?_set_self hlt] at q
      cases q
      refine ⟨v, by rw [List.getElem?_set_self (by rw [← S.len]; exact hlt)], ?_⟩
      exact Rep.moved (Rep.free (b := .sl j) S.last (fun z => nomatch z))
    · rw [List.getElem?_set_ne (Ne.symm hj)] at q
      obtain ⟨v', h1, h2⟩ := S.sl j d' q
      refine ⟨v', by rw [List.getElem?_set_ne (Ne.symm hj)]; exact h1, ?_⟩
      exact Rep.unmoved (Rep.free (b := .sl i) h2 (fun z => hj (by injection z))) (fun z => nomatch z)
  tm := fun k d' v' q => by
    have hk : k < T.length := (List.getElem?_eq_some_iff.mp q).1
    have z := S.tm k d' v' (by rw [List.getElem?_append_left hk]; exact q)
    exact Rep.unmoved (b := .tm T.length) (Rep.free (b := .sl i) z (fun z => nomatch z)) (fun z => by injection z with z; omega)
  old := S.old
  own := fun a l q => by
    obtain ⟨m, z, e⟩ := moved_some q
    rcases S.own a m (of_free z).1 with h | h
    · unfold VL.moved at q
      rw [z] at q
      have n : m.b ≠ .tm T.length := by rw [h]; exact fun z => nomatch z
      simp only [if_neg n] at q
      cases q
      exact .inl h
    · exact .inr h
  fo := fun a q => moved_else (free_else (S.fo a q) (fun z => nomatch z)) (fun z => nomatch z)
  mu := fun a l q => by
    obtain ⟨m, z, _⟩ := moved_some q
    exact S.mu a m (of_free z).1
  pin := fun p hm => by
    rw [List.getElem?_set_ne (Ne.symm (hp p hm))]
    exact S.pin p hm
  tabs := S.tabs
theorem StOk.set {i : Nat} {d : D} {v : V} (S : StOk G C r (T ++ [(d, v)]) s H) (hp : ∀ p ∈ C.pin, p.1 ≠ i) : StOk G C (r.set i (some d)) T (s.set i (some v)) H := let ⟨ow, W⟩ := S; ⟨_, W.set hp⟩
theorem StOk.wipe1 {i : Nat} {x : Option V} (S : StOk G C r T s H) (hp : ∀ p ∈ C.pin, p.1 ≠ i) : StOk G C (r.set i none) T (s.set i x) H := by
  obtain ⟨ow, W⟩ := S
  refine ⟨ow, by simpa using W.len, fun j d q => ?_, W.tm, W.old, W.own, W.fo, W.mu, fun p hm => ?_, W.tabs⟩
  · by_cases hj : j = i
    · subst hj
      have hlt : j < r.length := by
        have := (List.getElem?_eq_some_iff.mp q).1
        simpa using this
      rw [List.getElem?_set_self hlt] at q
      cases q
    · rw [List.getElem?_set_ne (Ne.symm hj)] at q
      obtain ⟨v, h1, h2⟩ := W.sl j d q
      exact ⟨v, by rw [List.getElem?_set_ne (Ne.symm hj)]; exact h1, h2⟩
  · rw [List.getElem?_set_ne (Ne.symm (hp p hm))]
    exact W.pin p hm

def laid (ow : Ow) (n : Nat) (a : Addr) (o : Bool) : Ow := fun b => if b = a then (if o = true then some ⟨.tm n, []⟩ else none) else match ow b with
  | some ⟨.tm j, p⟩ => if n ≤ j then some ⟨.tm n, (j - n) :: p⟩ else some ⟨.tm j, p⟩
  | x => x
theorem laid_none {n : Nat} {a b : Addr} {o : Bool} (h : ow b = none) (e : b ≠ a) : laid ow n a o b = none := by unfold laid; rw [if_neg e, h]
theorem laid_sl {n i : Nat} {a b : Addr} {o : Bool} {p : List Nat} (h : ow b = some ⟨.sl i, p⟩) (e : b ≠ a) : laid ow n a o b = some ⟨.sl i, p⟩ := by unfold laid; rw [if_neg e, h]
theorem laid_lo {n j : Nat} {a b : Addr} {o : Bool} {p : List Nat} (h : ow b = some ⟨.tm j, p⟩) (e : b ≠ a) (l : j < n) : laid ow n a o b = some ⟨.tm j, p⟩ := by
  unfold laid; rw [if_neg e, h]; exact if_neg (by omega)
theorem laid_hi {n j : Nat} {a b : Addr} {o : Bool} {p : List Nat} (h : ow b = some ⟨.tm j, p⟩) (e : b ≠ a) (l : n ≤ j) : laid ow n a o b = some ⟨.tm n, (j - n) :: p⟩ := by
  unfold laid; rw [if_neg e, h]; exact if_pos l
theorem StW.alloc {k : Kd} {o : Bool} {ho : HO} {ds : List D} {vs : List V} {a : Addr} (S : StW G C ow r (T ++ ds.zip vs) s H) (hl : ds.length = vs.length) (hn : H a = none) (hh : Holds G (upd H a ho) a k vs) (hm : o = true → OwnO (some ho)) :
    StW G C (laid ow T.length a o) r (T ++ [(.node k o ds, .ref a)]) s (upd H a ho) where
  len := S.len
  sl := fun i d q => by
    obtain ⟨v, h1, h2⟩ := S.sl i d q
    refine ⟨v, h1, Rep.mono (l := ⟨.sl i, []⟩) d (fun b o z _ => Ext.new hn b o z) (fun b o z _ => Ext.new hn b o z) (fun b o z e => laid_none e (ne_of_none z hn)) (fun b o q z e => laid_sl (p := [] ++ q) e (ne_of_none z hn)) h2⟩
  tm := fun j d v q => by
    by_cases hj : j < T.length
    · rw [List.getElem?_append_left hj] at q
      have z := S.tm j d v (by rw [List.getElem?_append_left hj]; exact q)
      exact Rep.mono (l := ⟨.tm j, []⟩) d (fun b o z _ => Ext.new hn b o z) (fun b o z _ => Ext.new hn b o z) (fun b o z e => laid_none e (ne_of_none z hn)) (fun b o q z e => laid_lo (p := [] ++ q) e (ne_of_none z hn) hj) z
    · rw [List.getElem?_append_right (by omega)] at q
      have e : j = T.length := by
        have := (List.getElem?_eq_some_iff.mp q).1
        simp at this; omega
      subst e
      simp at q
      obtain ⟨e1, e2⟩ := q
      subst e1; subst e2
      refine ⟨a, vs, rfl, hh, .mk ?_, Reps.of_get hl fun i d v e1 e2 => ?_⟩
      · unfold laid; rw [if_pos rfl]
      · have z := S.tm (T.length + i) d v (by
          rw [List.getElem?_append_right (by omega), Nat.add_sub_cancel_left]
          exact List.getElem?_zip_eq_some.mpr ⟨e1, e2⟩)
        refine Rep.mono (l := ⟨.tm (T.length + i), []⟩) d (fun b o z _ => Ext.new hn b o z) (fun b o z _ => Ext.new hn b o z) (fun b o z e => laid_none e (ne_of_none z hn)) (fun b o q z e => ?_) z
        rw [laid_hi (p := q) (by simpa [Loc.app] using e) (ne_of_none z hn) (by omega)]
        simp [Loc.app, Loc.sub]
  old := fun b u n q => (S.old b u n q).bind fun u q => Ext.new hn b u q
  own := fun b l q => by
    by_cases hb : b = a
    · subst hb
      cases e : C.H0 b with
      | none => exact .inr (.inl rfl)
      | some u =>
        by_cases hi : C.io b
        · exact .inr (.inr hi)
        · exact ((S.old b u hi e).on hn).elim
    · cases e : ow b with
      | none => rw [laid_none e hb] at q; cases q
      | some m =>
        obtain ⟨mb, mp⟩ := m
        cases mb with
        | fo =>
          unfold laid at q
          rw [if_neg hb, e] at q
          cases q
          exact .inl rfl
        | sl i => exact (S.own b _ e).elim (fun z => nomatch z) .inr
        | tm i => exact (S.own b _ e).elim (fun z => nomatch z) .inr
  fo := fun b q => by
    have z := S.fo b q
    have hb : b ≠ a := fun x => by
      have m := S.mu b _ z
      rw [x, hn] at m
      exact m
    unfold laid
    rw [if_neg hb, z]
  mu := fun b l q => by
    by_cases hb : b = a
    · subst hb
      rw [upd_same]
      apply hm
      unfold laid at q
      rw [if_pos rfl] at q
      cases o with
      | true => rfl
      | false => cases q
    · rw [upd_ne hb]
      cases e : ow b with
      | none => rw [laid_none e hb] at q; cases q
      | some m => exact S.mu b m e
  pin := S.pin
  tabs := tabs_none S.tabs hn
theorem StOk.alloc {k : Kd} {ho : HO} {ds : List D} {vs : List V} {a : Addr} (o : Bool) (S : StOk G C r (T ++ ds.zip vs) s H) (hl : ds.length = vs.length) (hn : H a = none) (hh : Holds G (upd H a ho) a k vs) (hm : o = true → OwnO (some ho)) :
    StOk G C r (T ++ [(.node k o ds, .ref a)]) s (upd H a ho) := let ⟨ow, W⟩ := S; ⟨_, W.alloc hl hn hh hm⟩
theorem holds_lst {a : Addr} {vs : List V} : Holds G (upd H a (.lst vs)) a .lst vs := upd_same
theorem holds_tup {a : Addr} {vs : List V} : Holds G (upd H a (.tup vs)) a .tup vs := upd_same
end
end VL

namespace VL
open PySem PySem.Spec PyProof.Rows L2

inductive R where
  | val (d : D) | loc (i : Nat)
inductive EO where
  | ok (x : R) (r : Rho) | exc (c : Nat) (r : Rho) | bad
abbrev Ev := Rho → EO
def opd (r : Rho) : R → Option D
  | .val d => some d
  | .loc i => match r[i]? with
    | some (some d) => some d
    | _ => none
def touch (r : Rho) : R → Rho
  | .val _ => r
  | .loc i => match r[i]? with
    | some (some d) => r.set i (some (frzB d))
    | _ => r
def settle (r : Rho) : R → Rho
  | .val _ => r
  | .loc i => match r[i]? with
    | some (some d) => r.set i (some (frz d))
    | _ => r
def pushR : R → V → List (D × V)
  | .val d, v => [(d, v)]
  | .loc _, _ => []
def LocOk (s : L2.St) (v : V) : R → Prop
  | .val _ => True
  | .loc i => s[i]? = some (some v)
def Post (G : GX) (C : Fc) (r : Rho) (T : List (D × V)) (s : L2.St) (H : Hp) (x : R) (v : V) : Prop := StOk G C r (T ++ pushR x v) s H ∧ LocOk s v x
def tV (G : GX) (C : Fc) (W : WX) (f : Ev) : TE := fun s H Q => ∃ r T, StOk G C r T s H ∧ match f r with
  | .ok x r' => ∀ v H', Post G C r' T s H' x v → Q v H'
  | .exc c r' => ∀ H', StOk G C r' T s H' → W (.ref (G c)) none s H'
  | .bad => False
abbrev VE (X : Cx) (G : GX) (C : Fc) (W : WX) (e : Expr) (f : Ev) : Prop := PE X e (tV G C W f)
theorem PE.imp {X : Cx} {e : Expr} {t t' : TE} (h : PE X e t) (i : ∀ s H Q, t' s H Q → t s H Q) : PE X e t' := ⟨fun pins s σ H Q I w => h.run pins s σ H Q I (i _ _ _ w)⟩

section
variable {G : GX} {C : Fc} {ow ow' : Ow} {r : Rho} {T T1 T2 : List (D × V)} {s : L2.St} {H H' : Hp}
theorem Post.any {x : R} {v : V} (P : Post G C r T s H x v) : StOk G C r T s H := P.1.drop
theorem opd_loc {i : Nat} {d : D} (e : opd r (.loc i) = some d) : r[i]? = some (some d) := by
  have e' : (match r[i]? with | some (some d) => some d | _ => none) = some d := e
  cases q : r[i]? with
  | none => rw [q] at e'; cases e'
  | some x =>
    cases x with
    | none => rw [q] at e'; cases e'
    | some d' => rw [q] at e'; cases e'; rfl
theorem touch_loc {i : Nat} {d : D} (q : r[i]? = some (some d)) : touch r (.loc i) = r.set i (some (frzB d)) := by
  show (match r[i]? with | some (some d) => r.set i (some (frzB d)) | _ => r) = _
  rw [q]
theorem settle_loc {i : Nat} {d : D} (q : r[i]? = some (some d)) : settle r (.loc i) = r.set i (some (frz d)) := by
  show (match r[i]? with | some (some d) => r.set i (some (frz d)) | _ => r) = _
  rw [q]
def base (n : Nat) : R → Loc
  | .val _ => ⟨.tm n, []⟩
  | .loc i => ⟨.sl i, []⟩
theorem opd_rep {x : R} {v : V} {d : D} (S : StW G C ow r (T ++ (pushR x v ++ T2)) s H) (h : LocOk s v x) (e : opd r x = some d) : Rep G ow H d (base T.length x) v := by
  cases x with
  | val d' =>
    cases e
    exact S.tm T.length d v (by simp [pushR])
  | loc i =>
    obtain ⟨v', h1, h2⟩ := S.sl i d (opd_loc e)
    have h' : s[i]? = some (some v) := h
    rw [h'] at h1
    cases h1
    exact h2

def freeU (ow : Ow) (b : Bs) : Ow := fun a => match ow a with
  | some l => if l.b = b ∧ l.p ≠ [] then none else some l
  | none => none
theorem freeU_none {b : Bs} {a : Addr} (h : ow a = none) : freeU ow b a = none := by unfold freeU; rw [h]
theorem freeU_at {b : Bs} {a : Addr} {l : Loc} (h : ow a = some l) (e : l.b = b) (p : l.p ≠ []) : freeU ow b a = none := by unfold freeU; rw [h]; simp [e, p]
theorem freeU_top {b : Bs} {a : Addr} (h : ow a = some ⟨b, []⟩) : freeU ow b a = some ⟨b, []⟩ := by unfold freeU; rw [h]; simp
theorem freeU_else {b : Bs} {a : Addr} {l : Loc} (h : ow a = some l) (e : l.b ≠ b) : freeU ow b a = some l := by unfold freeU; rw [h]; simp [e]
theorem of_freeU {b : Bs} {a : Addr} {l : Loc} (h : freeU ow b a = some l) : ow a = some l := by
  unfold freeU at h
  split at h
  · rename_i l' e
    split at h
    · cases h
    · cases h
      exact e
  · cases h
theorem Rep.freeU {d : D} {l : Loc} {v : V} {b : Bs} (h : Rep G ow H d l v) (n : l.b ≠ b) : Rep G (VL.freeU ow b) H d l v :=
  h.mono d (fun _ _ z _ => z) (fun _ _ z _ => z) (fun _ _ _ z => freeU_none z) fun a o q _ z => freeU_else z (by rw [app_b]; exact n)
theorem Reps.under {xs : List D} {b : Bs} {i j : Nat} {l' : Loc} {vs : List V} (h : Reps G ow H xs ⟨b, []⟩ i vs) : Reps G (VL.freeU ow b) H (VL.frzs xs) l' j vs := by
  have go : ∀ (xs : List D) (i j : Nat) (vs : List V), Reps G ow H xs ⟨b, []⟩ i vs → Reps G (VL.freeU ow b) H (VL.frzs xs) l' j vs := by
    intro xs
    induction xs with
    | nil => intro i j vs h; exact h
    | cons d ds ih =>
      intro i j vs h
      obtain ⟨v, ws, e, h1, h2⟩ := h
      refine ⟨v, ws, e, ?_, ih (i + 1) (j + 1) ws h2⟩
      refine Rep.frz (l := Loc.sub ⟨b, []⟩ i) d (fun a o z q => ⟨z, ?_⟩) (fun _ _ z _ => z) h1
      rcases q with q | ⟨q, e⟩
      · exact freeU_none q
      · exact freeU_at e rfl (by simp [Loc.sub, Loc.app])
  exact go xs i j vs h
theorem StW.under {i : Nat} {k : Kd} {o : Bool} {xs : List D} (S : StW G C ow r T s H) (e : r[i]? = some (some (.node k o xs))) : StW G C (VL.freeU ow (.sl i)) (r.set i (some (.node k o (frzs xs)))) T s H where
  len := by simpa using S.len
  sl := fun j d' q => by
    by_cases hi : j = i
    · subst hi
      have hlt : j < r.length := (List.getElem?_eq_some_iff.mp e).1
      rw [List.getElem?_set_self hlt] at q
      cases q
      obtain ⟨v, h1, a, vs, ev, h2, h3, h4⟩ := S.sl j _ e
      refine ⟨v, h1, a, vs, ev, h2, ?_, h4.under⟩
      rcases h3.cases with hk | h3
      · exact .ofR hk
      refine .mk ?_
      cases o with
      | true => exact freeU_top (by simpa using h3)
      | false => exact freeU_none (by simpa using h3)
    · rw [List.getElem?_set_ne (Ne.symm hi)] at q
      obtain ⟨v, h1, h2⟩ := S.sl j d' q
      exact ⟨v, h1, h2.freeU (fun z => hi (by injection z))⟩
  tm := fun k d' v q => (S.tm k d' v q).freeU (fun z => nomatch z)
  old := S.old
  own := fun a l q => S.own a l (of_freeU q)
  fo := fun a q => freeU_else (S.fo a q) (fun z => nomatch z)
  mu := fun a l q => S.mu a l (of_freeU q)
  pin := S.pin
  tabs := S.tabs
theorem StW.pushFs : ∀ {ds : List D} {T : List (D × V)} {l : Loc} {i : Nat} {vs : List V}, StW G C ow r T s H → frzs ds = ds → Reps G ow H ds l i vs → StW G C ow r (T ++ ds.zip vs) s H
  | [], T, _, _, _, S, _, _ => by simpa using S
  | d :: ds, T, l, i, vs, S, e, h => by
    obtain ⟨v, ws, ev, h1, h2⟩ := h
    have e' : frz d :: frzs ds = d :: ds := e
    injection e' with e1 e2
    subst ev
    have S1 := S.push (d := d) (v := v) (Rep.moveF d e1 (fun a o z q => ⟨z, q⟩) (fun _ _ z _ => z) h1)
    have S2 := StW.pushFs S1 e2 h2
    simpa using S2
theorem Reps.app {ds es : List D} {l : Loc} {vs ws : List V} (e1 : VL.frzs ds = ds) (e2 : VL.frzs es = es) (h1 : Reps G ow H ds l 0 vs) (h2 : Reps G ow H es l 0 ws) : Reps G ow H (ds ++ es) l 0 (vs ++ ws) := by
  refine Reps.of_get (by rw [List.length_append, List.length_append, h1.length, h2.length]) fun j d v q1 q2 => ?_
  by_cases hj : j < ds.length
  · rw [List.getElem?_append_left hj] at q1
    rw [List.getElem?_append_left (by rw [← h1.length]; exact hj)] at q2
    obtain ⟨v', z1, z2⟩ := h1.get j d q1
    rw [q2] at z1; cases z1
    exact z2
  · rw [List.getElem?_append_right (by omega)] at q1
    rw [List.getElem?_append_right (by rw [← h1.length]; omega)] at q2
    rw [← h1.length] at q2
    obtain ⟨v', z1, z2⟩ := h2.get (j - ds.length) d q1
    rw [q2] at z1; cases z1
    have f : VL.frz d = d := by
      have := congrArg (·[j - ds.length]?) e2
      simp only [frzs_map, List.getElem?_map, q1, Option.map_some] at this
      exact Option.some.inj this
    exact Rep.moveF d f (fun a o z q => ⟨z, q⟩) (fun _ _ z _ => z) z2
theorem StW.parts {x : R} {v : V} {k : Kd} {o : Bool} {xs : List D} (S : StW G C ow r (T ++ pushR x v) s H) (hl : LocOk s v x) (e : opd r x = some (.node k o xs)) :
    ∃ ow' a vs, StW G C ow' (touch r x) T s H ∧ v = .ref a ∧ Holds G H a k vs ∧ (∀ l, Reps G ow' H (frzs xs) l 0 vs) ∧ (∀ b, ow b = none → ow' b = none) := by
  cases x with
  | val d' =>
    cases e
    obtain ⟨a, vs, ev, h1, h2, h3⟩ := S.last
    have S' := (show StW G C ow r (T ++ (D.node k o xs, v) :: []) s H from S).frzTm
    refine ⟨_, a, vs, S'.drop, ev, h1, fun l => ?_, fun b z => free_none z⟩
    exact Reps.frz (l := ⟨.tm T.length, []⟩) xs (fun b u z q => ⟨z, by
      rcases q with q | ⟨q, e⟩
      · exact free_none q
      · exact free_at e rfl⟩) (fun _ _ z _ => z) h3
  | loc i =>
    have q := opd_loc e
    obtain ⟨v', h1, a, vs, ev, h2, h3, h4⟩ := S.sl i _ q
    have h' : s[i]? = some (some v) := hl
    rw [h'] at h1
    cases h1
    have S' := S.under q
    refine ⟨_, a, vs, ?_, ev, h2, fun l => h4.under, fun b z => freeU_none z⟩
    rw [touch_loc q]
    exact S'.drop
end
end VL

namespace VL
open PySem PySem.Spec PyProof.Rows L2

def EO.bd (x : EO) (k : R → Rho → EO) : EO := match x with
  | .ok y r => k y r
  | .exc c r => .exc c r
  | .bad => .bad
@[simp] theorem bd_ok (y : R) (r : Rho) (k : R → Rho → EO) : (EO.ok y r).bd k = k y r := rfl
@[simp] theorem bd_exc (c : Nat) (r : Rho) (k : R → Rho → EO) : (EO.exc c r).bd k = .exc c r := rfl
@[simp] theorem bd_bad (k : R → Rho → EO) : EO.bad.bd k = .bad := rfl
def Goes (G : GX) (C : Fc) (W : WX) (T : List (D × V)) (s : L2.St) (Q : VK) (o : EO) : Prop := match o with
  | .ok x r' => ∀ v H', Post G C r' T s H' x v → Q v H'
  | .exc c r' => ∀ H', StOk G C r' T s H' → W (.ref (G c)) none s H'
  | .bad => False
section
variable {X : Cx} {G : GX} {C : Fc} {W : WX} {ow ow' : Ow} {r : Rho} {T T1 T2 : List (D × V)} {s : L2.St} {H H' : Hp} {fa fb fc : Ev}
theorem one {k : R → Rho → EO} {Q : VK} {K : V → Hp → Prop} (S : StOk G C r T s H) (h : Goes G C W T s Q ((fa r).bd k))
    (hk : ∀ x v r1 H1, Post G C r1 T s H1 x v → Goes G C W T s Q (k x r1) → K v H1) : tV G C W fa s H K := by
  refine ⟨r, T, S, ?_⟩
  cases e : fa r with
  | ok x r1 =>
    rw [e] at h
    exact fun v H1 P => hk x v r1 H1 P h
  | exc c r1 => rw [e] at h; exact h
  | bad => rw [e] at h; exact h
theorem two {k : R → R → Rho → EO} {Q : VK} {K : V → V → Hp → Prop} (S : StOk G C r T s H) (h : Goes G C W T s Q ((fa r).bd fun x r1 => (fb r1).bd (k x)))
    (hk : ∀ x y v u r2 H2, StOk G C r2 (T ++ (pushR x v ++ pushR y u)) s H2 → LocOk s v x → LocOk s u y → Goes G C W T s Q (k x y r2) → K v u H2) :
    tV G C W fa s H fun v H1 => tV G C W fb s H1 fun u H2 => K v u H2 := by
  refine one S h fun x v r1 H1 P h1 => ?_
  refine ⟨r1, T ++ pushR x v, P.1, ?_⟩
  cases e : fb r1 with
  | ok y r2 =>
    rw [e] at h1
    exact fun u H2 P2 => hk x y v u r2 H2 (by rw [← List.append_assoc]; exact P2.1) P.2 P2.2 h1
  | exc c r2 => rw [e] at h1; exact fun H' S' => h1 H' S'.drop
  | bad => rw [e] at h1; exact h1

def cVar (i : Nat) : Ev := fun r => match r[i]? with
  | some (some d) => if atom d = true then .ok (.val d) r else .ok (.loc i) r
  | _ => .bad
theorem ve_var {i : Nat} {x : Str} {pos : Pos} (hN : X.N[i]? = some x) (hv : Vis X.env.scope x) (hd : (x == ("__debug__" : Str)) = false := by decide) (hcd : (x == ("__classdict__" : Str)) = false := by decide) : VE X G C W (.Name x pos) (cVar i) := by
  refine PE.imp (pe_var hN hv hd hcd) fun s H Q h => ?_
  obtain ⟨r, T, S, g⟩ := h
  unfold cVar at g
  cases q : r[i]? with
  | none => rw [q] at g; exact g.elim
  | some o =>
    cases o with
    | none => rw [q] at g; exact g.elim
    | some d =>
      rw [q] at g
      obtain ⟨ow, S⟩ := S
      obtain ⟨v, h1, h2⟩ := S.sl i d q
      refine ⟨v, h1, ?_⟩
      by_cases a : atom d = true
      · simp only [a, if_true] at g
        exact g v H ⟨⟨ow, S.push (h2.of_atom a)⟩, trivial⟩
      · simp only [a, if_false] at g
        exact g v H ⟨⟨ow, by simpa [pushR] using S⟩, h1⟩
def cC (d : D) : Ev := fun r => .ok (.val d) r
theorem ve_c {e : Expr} {v : V} {d : D} (h : PE X e (tC v)) (a : atom d = true) (hr : ∀ ow H l, Rep G ow H d l v) : VE X G C W e (cC d) := by
  refine PE.imp h fun s H Q h => ?_
  obtain ⟨r, T, S, g⟩ := h
  exact g v H ⟨S.pushA a fun ow l => hr ow H l, trivial⟩
theorem ve_int {i j pos} : VE X G C W (.Constant (.int i) j pos) (cC (.int i)) := ve_c pe_int rfl fun _ _ _ => rfl
theorem ve_bl {b j pos} : VE X G C W (.Constant (.bool b) j pos) (cC (.bl b)) := ve_c pe_bl rfl fun _ _ _ => rfl
theorem ve_non {j pos} : VE X G C W (.Constant .none j pos) (cC .non) := ve_c pe_non rfl fun _ _ _ => rfl
theorem ve_gint {x : Str} {i : Int} {t : Tok} {pos : Pos} (hg : Gl X x) (hm : X.mg x = some (.int i t)) (hd : (x == ("__debug__" : Str)) = false := by decide) : VE X G C W (.Name x pos) (cC (.int i)) :=
  ve_c (pe_glob (v := .int i) hg hm ⟨t, rfl⟩ hd) rfl fun _ _ _ => rfl
abbrev G2 := R → R → Rho → EO
def OpS (X : Cx) (f : Value → Value → Sem Value) (g : G2) : Prop := ∃ rr, OpR X f rr ∧ ∀ (G : GX) (C : Fc) (W : WX) (r : Rho) (T : List (D × V)) (s : L2.St) (H : Hp) (x y : R) (v u : V) (Q : VK),
  StOk G C r (T ++ (pushR x v ++ pushR y u)) s H → LocOk s v x → LocOk s u y → Goes G C W T s Q (g x y r) → rr v u H Q
def cBin (g : G2) (fa fb : Ev) : Ev := fun r => (fa r).bd fun x r1 => (fb r1).bd fun y r2 => g x y r2
theorem ve_bin {op : Operator} {g : G2} {a b : Expr} {pos : Pos} (ho : OpS X (binaryOp op) g) (ha : VE X G C W a fa) (hb : VE X G C W b fb) : VE X G C W (.BinOp a op b pos) (cBin g fa fb) := by
  obtain ⟨rr, h1, h2⟩ := ho
  refine PE.imp (pe_op h1 ha hb) fun s H Q h => ?_
  obtain ⟨r, T, S, g⟩ := h
  exact two S g fun x y v u r2 H2 S2 lx ly g2 => h2 G C W r2 T s H2 x y v u Q S2 lx ly g2
theorem ve_cmp {op : CmpOp} {g : G2} {a b : Expr} {pos : Pos} (ho : OpS X (compareOp op) g) (ha : VE X G C W a fa) (hb : VE X G C W b fb) (hm : behindInMarks op b = false) : VE X G C W (.Compare a [op] [b] pos) (cBin g fa fb) := by
  obtain ⟨rr, h1, h2⟩ := ho
  refine PE.imp (pe_cmpR h1 ha hb hm) fun s H Q h => ?_
  obtain ⟨r, T, S, g⟩ := h
  exact two S g fun x y v u r2 H2 S2 lx ly g2 => h2 G C W r2 T s H2 x y v u Q S2 lx ly g2

def g2 (f : D → D → Option D) : G2 := fun x y r => match opd r x, opd r y with
  | some d, some e => (match f d e with
    | some z => if atom z = true then .ok (.val z) r else .bad
    | none => .bad)
  | _, _ => .bad
theorem OpS.scal {f : Value → Value → Sem Value} {rr : R2} {g : D → D → Option D} (h : OpR X f rr)
    (hr : ∀ (G : GX) (ow : Ow) (H : Hp) (d e z : D) (l m : Loc) (v u : V) (Q : VK), Rep G ow H d l v → Rep G ow H e m u → g d e = some z → (∀ w, (∀ ow l, Rep G ow H z l w) → Q w H) → rr v u H Q) : OpS X f (g2 g) := by
  refine ⟨rr, h, fun G C W r T s H x y v u Q S lx ly q => ?_⟩
  obtain ⟨ow, S⟩ := S
  unfold g2 at q
  cases e1 : opd r x with
  | none => rw [e1] at q; exact q.elim
  | some d =>
    cases e2 : opd r y with
    | none => rw [e1, e2] at q; exact q.elim
    | some e =>
      rw [e1, e2] at q
      cases e3 : g d e with
      | none => simp only [e3] at q; exact q.elim
      | some z =>
        simp only [e3] at q
        by_cases a : atom z = true
        · rw [if_pos a] at q
          refine hr G ow H d e z _ _ v u Q (opd_rep S lx e1) (opd_rep (T := T ++ pushR x v) (T2 := []) (by rw [List.append_nil, List.append_assoc]; exact S) ly e2) e3 fun w hw => ?_
          exact q w H ⟨StOk.pushA ⟨ow, S.drop⟩ a hw, trivial⟩
        · rw [if_neg a] at q
          exact q.elim
theorem rep_int {ow : Ow} {i : Int} {l : Loc} {v : V} (h : Rep G ow H (.int i) l v) : v = .int i := h
theorem rep_bl {ow : Ow} {b : Bool} {l : Loc} {v : V} (h : Rep G ow H (.bl b) l v) : v = .bl b := h
theorem rep_str {ow : Ow} {b : Str} {l : Loc} {v : V} (h : Rep G ow H (.str b) l v) : v = .str b := h
theorem rep_non {ow : Ow} {l : Loc} {v : V} (h : Rep G ow H .non l v) : v = .non := h
def fI (ok : Int → Int → Bool) (g : Int → Int → D) : D → D → Option D
  | .int i, .int j => if ok i j = true then some (g i j) else none
  | _, _ => none
@[simp] theorem fI_int (ok : Int → Int → Bool) (g : Int → Int → D) (i j : Int) : fI ok g (.int i) (.int j) = if ok i j = true then some (g i j) else none := rfl
theorem OpS.ints {f : Value → Value → Sem Value} {P : Int → Int → Prop} {ok : Int → Int → Bool} {g : Int → Int → V} {gd : Int → Int → D} (h : OpR X f (rI P g)) (hp : ∀ i j, ok i j = true → P i j)
    (hg : ∀ G ow H l i j, Rep G ow H (gd i j) l (g i j)) : OpS X f (g2 (fI ok gd)) := by
  refine OpS.scal h fun G ow H d e z l m v u Q h1 h2 e3 q => ?_
  cases d with
  | int i =>
    cases e with
    | int j =>
      rw [fI_int] at e3
      by_cases a : ok i j = true
      · rw [if_pos a] at e3
        cases e3
        exact ⟨i, j, h1, h2, hp i j a, q _ fun _ _ => hg _ _ _ _ i j⟩
      · rw [if_neg a] at e3; cases e3
    | _ => cases e3
  | _ => cases e <;> cases e3
theorem rI_of0 {f : Value → Value → Sem Value} {g : Int → Int → V} (h : OpR X f (rI0 g)) : OpR X f (rI (fun _ _ => True) g) := by
  intro pins s σ H x y v u Q I rx ry q
  obtain ⟨i, j, e1, e2, _, q⟩ := q
  exact h pins s σ H x y v u Q I rx ry ⟨i, j, e1, e2, q⟩
def yes2 : Int → Int → Bool := fun _ _ => true
@[simp] theorem yes2_eq (i j : Int) : yes2 i j = true := rfl
def gLt : G2 := g2 (fI yes2 fun i j => .bl (decide (i < j)))
def gLe : G2 := g2 (fI yes2 fun i j => .bl (decide (i ≤ j)))
def gGt : G2 := g2 (fI yes2 fun i j => .bl (decide (j < i)))
def gGe : G2 := g2 (fI yes2 fun i j => .bl (decide (j ≤ i)))
theorem os_lt : OpS X (compareOp .Lt) gLt := .ints (rI_of0 op_lt) (fun _ _ _ => trivial) fun _ _ _ _ _ _ => rfl
theorem os_le : OpS X (compareOp .LtE) gLe := .ints (rI_of0 op_le) (fun _ _ _ => trivial) fun _ _ _ _ _ _ => rfl
theorem os_gt : OpS X (compareOp .Gt) gGt := .ints (rI_of0 op_gt) (fun _ _ _ => trivial) fun _ _ _ _ _ _ => rfl
def gSub : G2 := g2 (fI yes2 fun i j => .int (i - j))
theorem os_sub : OpS X (binaryOp .Sub) gSub := .ints (rI_of0 op_sub) (fun _ _ _ => trivial) fun _ _ _ _ _ _ => rfl
def divOk (_ j : Int) : Bool := decide (0 < j) && (decide (j.natAbs < 1073741824) || decide (j.natAbs.log2 < 9000))
theorem op_fdivA : OpR X (binaryOp .FloorDiv) (rI (fun i j => CDiv i j ∨ CDivW i j) fun i j => .int (i / j)) := by
  intro pins s σ H x y v u Q I rx ry q
  obtain ⟨i, j, e1, e2, c | c, q⟩ := q
  · exact op_fdiv pins s σ H x y v u Q I rx ry ⟨i, j, e1, e2, c, q⟩
  · exact op_fdivW pins s σ H x y v u Q I rx ry ⟨i, j, e1, e2, c, q⟩
theorem divOk_of {i j : Int} (h : divOk i j = true) : CDiv i j ∨ CDivW i j := by
  unfold divOk at h
  simp only [Bool.and_eq_true, Bool.or_eq_true, decide_eq_true_eq] at h
  rcases h with ⟨h0, h | h⟩
  · exact .inl ⟨h0, by omega⟩
  · exact .inr ⟨h0, h⟩
def gDiv : G2 := g2 (fI divOk fun i j => .int (i / j))
theorem os_div : OpS X (binaryOp .FloorDiv) gDiv := .ints op_fdivA (fun _ _ h => divOk_of h) fun _ _ _ _ _ _ => rfl
def posOk (_ j : Int) : Bool := decide (0 < j)
def gMod : G2 := g2 (fI posOk fun i j => .int (i % j))
theorem os_mod : OpS X (binaryOp .Mod) gMod := .ints op_mod (fun _ _ h => of_decide_eq_true h) fun _ _ _ _ _ _ => rfl
def powOk (i j : Int) : Bool := decide (0 ≤ j) && decide (j.natAbs ≤ 1000000) && decide (i.natAbs < 2 ^ 64)
theorem powOk_of {i j : Int} (h : powOk i j = true) : CPow i j := by
  unfold powOk at h
  simp only [Bool.and_eq_true, decide_eq_true_eq] at h
  exact ⟨h.1.1, by have := h.1.2; omega, h.2⟩
def gPow : G2 := g2 (fI powOk fun i j => .int (i ^ j.toNat))
theorem os_pow : OpS X (binaryOp .Pow) gPow := .ints op_pow (fun _ _ h => powOk_of h) fun _ _ _ _ _ _ => rfl
def mulOk (i j : Int) : Bool := decide (i.natAbs < 2 ^ 64) || decide (j.natAbs < 2 ^ 64) || decide ((Builtin.Int.intBits i : Int) + (Builtin.Int.intBits j : Int) ≤ 134217728)
theorem mulOk_of {i j : Int} (h : mulOk i j = true) : IntMulOk i j := by
  unfold mulOk at h
  simp only [Bool.or_eq_true, decide_eq_true_eq] at h
  rcases h with (h | h) | h
  · exact CMul.ok (.inl ⟨by omega, by omega⟩)
  · exact CMul.ok (.inr ⟨by omega, by omega⟩)
  · exact CMulX.ok h
theorem op_mulA : OpR X (binaryOp .Mult) (rI IntMulOk fun i j => .int (i * j)) := opI fun _ _ _ _ _ _ _ hc q => mul_int q hc

theorem StW.made {ds : List D} {vs : List V} {l : Loc} {i : Nat} {Q : VK} (S : StW G C ow r T s H) (e : frzs ds = ds) (h : Reps G ow H ds l i vs) (hq : ∀ v H', Post G C r T s H' (.val (.node .lst true ds)) v → Q v H') :
    ∀ p, H p = none → Q (.ref p) (upd H p (.lst vs)) := fun p hp =>
  hq _ _ ⟨StOk.alloc true ⟨ow, S.pushFs e h⟩ h.length hp holds_lst (fun _ => trivial), trivial⟩
theorem touch_opd {x y : R} {k : Kd} {o : Bool} {xs : List D} (e : opd r x = some (.node k o xs)) : opd (touch r y) x = some (.node k o xs) ∨ opd (touch r y) x = some (.node k o (frzs xs)) := by
  cases x with
  | val d => exact .inl e
  | loc i =>
    have q := opd_loc e
    cases y with
    | val d => exact .inl e
    | loc j =>
      by_cases hij : j = i
      · subst hij
        refine .inr ?_
        have hlt : j < r.length := (List.getElem?_eq_some_iff.mp q).1
        rw [touch_loc q]
        show (match (r.set j (some (frzB (.node k o xs))))[j]? with | some (some d) => some d | _ => none) = _
        rw [List.getElem?_set_self hlt]
        rfl
      · refine .inl ?_
        cases q' : r[j]? with
        | none =>
          have : touch r (.loc j) = r := by show (match r[j]? with | some (some d) => r.set j (some (frzB d)) | _ => r) = _; rw [q']
          rw [this]; exact e
        | some o' =>
          cases o' with
          | none =>
            have : touch r (.loc j) = r := by show (match r[j]? with | some (some d) => r.set j (some (frzB d)) | _ => r) = _; rw [q']
            rw [this]; exact e
          | some d' =>
            rw [touch_loc q']
            show (match (r.set j (some (frzB d')))[i]? with | some (some d) => some d | _ => none) = _
            rw [List.getElem?_set_ne hij, q]
theorem StW.parts2 {x y : R} {v u : V} {k k' : Kd} {o o' : Bool} {xs ys : List D} (S : StW G C ow r (T ++ (pushR x v ++ pushR y u)) s H) (lx : LocOk s v x) (ly : LocOk s u y) (e1 : opd r x = some (.node k o xs)) (e2 : opd r y = some (.node k' o' ys)) :
    ∃ ow' a b vs us, StW G C ow' (touch (touch r y) x) T s H ∧ v = .ref a ∧ u = .ref b ∧ Holds G H a k vs ∧ Holds G H b k' us ∧ (∀ l, Reps G ow' H (frzs xs) l 0 vs) ∧ (∀ l, Reps G ow' H (frzs ys) l 0 us) := by
  obtain ⟨ow1, b, us, S1, eu, hb, ry, n1⟩ := StW.parts (T := T ++ pushR x v) (by rw [List.append_assoc]; exact S) ly e2
  have go : ∀ xs', opd (touch r y) x = some (.node k o xs') → frzs xs' = frzs xs →
      ∃ ow' a b vs us, StW G C ow' (touch (touch r y) x) T s H ∧ v = .ref a ∧ u = .ref b ∧ Holds G H a k vs ∧ Holds G H b k' us ∧ (∀ l, Reps G ow' H (frzs xs) l 0 vs) ∧ (∀ l, Reps G ow' H (frzs ys) l 0 us) := fun xs' e' ef => by
    obtain ⟨ow2, a, vs, S2, ev, ha, rx, n2⟩ := S1.parts lx e'
    refine ⟨ow2, a, b, vs, us, S2, ev, eu, ha, hb, fun l => by rw [← ef]; exact rx l, fun l => ?_⟩
    exact Reps.moveF _ (frzs_frzs ys) (fun c ob z q => ⟨z, n2 c q⟩) (fun _ _ z _ => z) (ry l)
  rcases touch_opd (y := y) e1 with e' | e'
  · exact go xs e' rfl
  · exact go _ e' (frzs_frzs xs)
@[irreducible] def gAdd : G2 := fun x y r => match opd r x, opd r y with
  | some (.int i), some (.int j) => .ok (.val (.int (i + j))) r
  | some (.int i), some (.bl k) => .ok (.val (.int (i + b2i k))) r
  | some (.str a), some (.str b) => if a.length + b.length ≤ 16777216 then .ok (.val (.str (a ++ b))) r else .bad
  | some (.node .lst _ xs), some (.node .lst _ ys) => if xs.length + ys.length ≤ 16777216 then .ok (.val (.node .lst true (frzs xs ++ frzs ys))) (touch (touch r y) x) else .bad
  | _, _ => .bad
theorem frzs_append (xs ys : List D) : frzs (xs ++ ys) = frzs xs ++ frzs ys := by simp [frzs_map]
theorem frzs_length (xs : List D) : (frzs xs).length = xs.length := by simp [frzs_map]
theorem goes_val {z : D} {Q : VK} (h : Goes G C W T s Q (.ok (.val z) r)) (S : StOk G C r T s H) (a : atom z = true) {w : V} (hw : ∀ ow l, Rep G ow H z l w) : Q w H := h w H ⟨S.pushA a hw, trivial⟩
theorem os_add_of {f : Value → Value → Sem Value} (h1 : OpR X f (rI0 fun i j => .int (i + j))) (h2 : OpR X f (fun x y H Q => ∃ i k, x = .int i ∧ y = .bl k ∧ Q (.int (i + b2i k)) H))
    (h3 : OpR X f (fun x y H Q => ∃ i j, x = .str i ∧ y = .str j ∧ i.length + j.length ≤ sizeLine ∧ Q (.str (i ++ j)) H)) (h4 : OpR X f rCat) : OpS X f gAdd := by
  refine ⟨_, h1.or (h2.or (h3.or h4)), fun G C W r T s H x y v u Q S lx ly q => ?_⟩
  obtain ⟨ow, S⟩ := S
  unfold gAdd at q
  split at q
  · rename_i i j e1 e2
    have a1 := opd_rep S lx e1
    have a2 := opd_rep (T := T ++ pushR x v) (T2 := []) (by rw [List.append_nil, List.append_assoc]; exact S) ly e2
    exact .inl ⟨i, j, a1, a2, goes_val q ⟨ow, S.drop⟩ rfl fun _ _ => rfl⟩
  · rename_i i k e1 e2
    have a1 := opd_rep S lx e1
    have a2 := opd_rep (T := T ++ pushR x v) (T2 := []) (by rw [List.append_nil, List.append_assoc]; exact S) ly e2
    exact .inr (.inl ⟨i, k, a1, a2, goes_val q ⟨ow, S.drop⟩ rfl fun _ _ => rfl⟩)
  · rename_i i j e1 e2
    have a1 := opd_rep S lx e1
    have a2 := opd_rep (T := T ++ pushR x v) (T2 := []) (by rw [List.append_nil, List.append_assoc]; exact S) ly e2
    split at q
    · rename_i hz
      exact .inr (.inr (.inl ⟨i, j, a1, a2, by rw [sizeLine_eq]; exact hz, goes_val q ⟨ow, S.drop⟩ rfl fun _ _ => rfl⟩))
    · exact q.elim
  · rename_i o1 xs o2 ys e1 e2
    split at q
    · rename_i hz
      obtain ⟨ow', a, b, vs, us, S', ev, eu, ha, hb, rx, ry⟩ := S.parts2 lx ly e1 e2
      subst ev; subst eu
      have l1 := (rx ⟨.fo, []⟩).length
      have l2 := (ry ⟨.fo, []⟩).length
      rw [frzs_length] at l1 l2
      refine .inr (.inr (.inr ⟨a, b, vs, us, rfl, rfl, ha, hb, by rw [sizeLine_eq, ← l1, ← l2]; exact hz, ?_⟩))
      exact S'.made (l := ⟨.fo, []⟩) (i := 0) (by rw [frzs_append, frzs_frzs, frzs_frzs]) (Reps.app (frzs_frzs xs) (frzs_frzs ys) (rx _) (ry _)) q
    · exact q.elim
  · exact q.elim
theorem os_add : OpS X (binaryOp .Add) gAdd := os_add_of op_add op_add_ib op_add_str op_cat
end
end VL

namespace VL
open PySem PySem.Spec PyProof.Rows L2

theorem reps_flat {G : GX} {ow : Ow} {H : Hp} {ds : List D} {l : Loc} {vs : List V} (e : frzs ds = ds) (h : Reps G ow H ds l 0 vs) : ∀ k : Nat, Reps G ow H (List.replicate k ds).flatten l 0 (List.replicate k vs).flatten ∧ frzs (List.replicate k ds).flatten = (List.replicate k ds).flatten
  | 0 => ⟨rfl, rfl⟩
  | k + 1 => by
    obtain ⟨i1, i2⟩ := reps_flat e h k
    rw [List.replicate_succ, List.replicate_succ, List.flatten_cons, List.flatten_cons]
    exact ⟨Reps.app e i2 h i1, by rw [frzs_append, e, i2]⟩
section
variable {X : Cx} {G : GX} {C : Fc} {W : WX} {ow ow' : Ow} {r : Rho} {T T1 T2 : List (D × V)} {s : L2.St} {H H' : Hp} {fa fb fc : Ev}
@[irreducible] def gMul : G2 := fun x y r => match opd r x, opd r y with
  | some (.int i), some (.int j) => if mulOk i j = true then .ok (.val (.int (i * j))) r else .bad
  | some (.node .lst _ xs), some (.int k) => if k.natAbs < 2 ^ 63 ∧ xs.length * k.toNat ≤ 16777216 then .ok (.val (.node .lst true (List.replicate k.toNat (frzs xs)).flatten)) (touch r x) else .bad
  | _, _ => .bad
theorem os_mul : OpS X (binaryOp .Mult) gMul := by
  refine ⟨_, op_mulA.or op_rep, fun G C W r T s H x y v u Q S lx ly q => ?_⟩
  obtain ⟨ow, S⟩ := S
  unfold gMul at q
  split at q
  · rename_i i j e1 e2
    split at q
    · rename_i hm
      have a1 := opd_rep S lx e1
      have a2 := opd_rep (T := T ++ pushR x v) (T2 := []) (by rw [List.append_nil, List.append_assoc]; exact S) ly e2
      exact .inl ⟨i, j, a1, a2, mulOk_of hm, goes_val q ⟨ow, S.drop⟩ rfl fun _ _ => rfl⟩
    · exact q.elim
  · rename_i o xs k e1 e2
    split at q
    · rename_i hz
      obtain ⟨h12, h3⟩ := hz
      have h1 : -(2 ^ 63) ≤ k := by omega
      have h2 : k < 2 ^ 63 := by omega
      have a2 := opd_rep (T := T ++ pushR x v) (T2 := []) (by rw [List.append_nil, List.append_assoc]; exact S) ly e2
      obtain ⟨ow', a, vs, S', ev, ha, rx, _⟩ := StW.parts (T := T) (StW.drop (T := T ++ pushR x v) (T2 := pushR y u) (by rw [List.append_assoc]; exact S)) lx e1
      subst ev
      have l1 := (rx ⟨.fo, []⟩).length
      rw [frzs_length] at l1
      obtain ⟨r1, r2⟩ := reps_flat (frzs_frzs xs) (rx ⟨.fo, []⟩) k.toNat
      refine .inr ⟨a, k, vs, rfl, a2, ha, h1, h2, by rw [sizeLine_eq, ← l1]; exact h3, ?_⟩
      exact S'.made (l := ⟨.fo, []⟩) (i := 0) r2 r1 q
    · exact q.elim
  · exact q.elim

mutual
def toPy : D → PyData
  | .non => .none
  | .bl b => .bool b
  | .int i => .int i
  | .str s => .str s
  | .node .lst _ xs => .list (toPys xs)
  | .node .tup _ xs => .tuple (toPys xs)
  | _ => .dict []
def toPys : List D → List PyData
  | [] => []
  | d :: ds => toPy d :: toPys ds
end
def eqOk (d : D) : Bool := SeqAt.shaped (toPy d)
mutual
theorem dp_of {K : PySem.W.Frag} : ∀ (d : D) {l : Loc} {v : V}, (toPy d).canLay0 = true → Rep G ow H d l v → Dp K H v (toPy d)
  | .non, _, _, _, h => by
    have e := rep_non h
    subst e; exact .non
  | .bl b, _, _, _, h => by
    have e := rep_bl h
    subst e; exact .bl b
  | .int i, _, _, _, h => by
    have e := rep_int h
    subst e; exact .int i
  | .str x, _, _, _, h => by
    have e := rep_str h
    subst e; exact .str x
  | .any, _, _, c, _ => by simp [toPy, PyData.canLay0] at c
  | .exc _, _, _, c, _ => by simp [toPy, PyData.canLay0] at c
  | .ty _, _, _, c, _ => by simp [toPy, PyData.canLay0] at c
  | .cls _, _, _, c, _ => by simp [toPy, PyData.canLay0] at c
  | .node k o xs, l, v, c, h => by
    obtain ⟨a, vs, e, h1, h2, h3⟩ := h
    subst e
    cases k with
    | lst =>
      have c' : PyData.canLayAll0 (toPys xs) = true := by simpa [toPy, PyData.canLay0] using c
      have z := dps_of (K := K) xs c' h3
      simp only [toPy]
      exact .lst (SqL.of h1) z
    | rd => simp [toPy, PyData.canLay0] at c
    | tup =>
      have c' : PyData.canLayAll0 (toPys xs) = true := by simpa [toPy, PyData.canLay0] using c
      have z := dps_of (K := K) xs c' h3
      simp only [toPy]
      exact .tup (SqT.of h1) z
    | dK ks => simp [toPy, PyData.canLay0] at c
    | dT ks => simp [toPy, PyData.canLay0] at c
    | ins c' fs => simp [toPy, PyData.canLay0] at c
theorem dps_of {K : PySem.W.Frag} : ∀ (ds : List D) {l : Loc} {i : Nat} {vs : List V}, PyData.canLayAll0 (toPys ds) = true → Reps G ow H ds l i vs → DpAll K H vs (toPys ds)
  | [], _, _, vs, _, h => by
    have e : vs = [] := h
    subst e
    simp only [toPys]
    exact .nil
  | d :: ds, l, i, vs, c, h => by
    obtain ⟨v, ws, e, h1, h2⟩ := h
    subst e
    have c' : (toPy d).canLay0 = true ∧ PyData.canLayAll0 (toPys ds) = true := by simpa [toPys, PyData.canLayAll0] using c
    simp only [toPys]
    exact .cons (dp_of d c'.1 h1) (dps_of ds c'.2 h2)
end
def eqD (d e : D) : Option D := if (eqOk d && eqOk e) = true then some (.bl (PyData.eqv (toPy d) (toPy e))) else none
def neD (d e : D) : Option D := if (eqOk d && eqOk e) = true then some (.bl (!PyData.eqv (toPy d) (toPy e))) else none
def gEq : G2 := g2 eqD
def gNe : G2 := g2 neD
theorem os_eq (hu : X.A.units + 64 < cLine) : OpS X (compareOp .Eq) gEq := by
  refine OpS.scal (op_eqD hu) fun G ow H d e z l m v u Q h1 h2 e3 q => ?_
  unfold eqD at e3
  split at e3
  · rename_i c
    rw [Bool.and_eq_true] at c
    cases e3
    exact ⟨_, _, dp_of d (SeqAt.canLay_of_shaped c.1) h1, dp_of e (SeqAt.canLay_of_shaped c.2) h2, c.1, c.2, q _ fun _ _ => rfl⟩
  · cases e3
theorem os_ne (hu : X.A.units + 64 < cLine) : OpS X (compareOp .NotEq) gNe := by
  refine OpS.scal (op_neD hu) fun G ow H d e z l m v u Q h1 h2 e3 q => ?_
  unfold neD at e3
  split at e3
  · rename_i c
    rw [Bool.and_eq_true] at c
    cases e3
    exact ⟨_, _, dp_of d (SeqAt.canLay_of_shaped c.1) h1, dp_of e (SeqAt.canLay_of_shaped c.2) h2, c.1, c.2, q _ fun _ _ => rfl⟩
  · cases e3
def flatD : D → Bool
  | .non => true
  | .bl _ => true
  | .int _ => true
  | .str _ => true
  | _ => false
theorem toPys_map : ∀ xs : List D, toPys xs = xs.map toPy
  | [] => by simp [toPys]
  | d :: ds => by simp [toPys, toPys_map ds]
def inD (d e : D) : Option Bool := match e with
  | .node .lst _ xs => if (eqOk d && eqOk e) = true then some (xs.any fun z => PyData.eqv (toPy z) (toPy d)) else none
  | .node .tup _ xs => if (flatD d && xs.all flatD) = true then some (xs.any fun z => PyData.eqv (toPy z) (toPy d)) else none
  | .str b => (match d with
    | .str a => some (!(Builtin.Str.occurrences b a 0 b.length 1).isEmpty)
    | _ => none)
  | _ => none
def gIn : G2 := g2 fun d e => (inD d e).map .bl
def tVT (G : GX) (C : Fc) (W : WX) (f : Ev) : TT := fun s H Q => ∃ r T, StOk G C r T s H ∧ match f r with
  | .ok (.val (.bl b)) r' => ∀ H', StOk G C r' T s H' → Q b H'
  | .exc c r' => ∀ H', StOk G C r' T s H' → W (.ref (G c)) none s H'
  | _ => False
abbrev VT (X : Cx) (G : GX) (C : Fc) (W : WX) (e : Expr) (f : Ev) : Prop := PT X e (tVT G C W f)
theorem PT.imp {e : Expr} {t t' : TT} (h : PT X e t) (i : ∀ s H Q, t' s H Q → t s H Q) : PT X e t' := ⟨fun pins s σ H Q I w => h.run pins s σ H Q I (i _ _ _ w)⟩
theorem PW.imp {e : Expr} {t t' : TT} (h : PW X e t) (i : ∀ s H Q, t' s H Q → t s H Q) : PW X e t' := ⟨fun wh pins s σ H Q I w => h.run wh pins s σ H Q I (i _ _ _ w)⟩
theorem tV_bl {f : Ev} {Q : Bool → Hp → Prop} (h : tVT G C W f s H Q) : tV G C W f s H fun v H' => ∃ k, v = .bl k ∧ Q k H' := by
  obtain ⟨r, T, S, h⟩ := h
  refine ⟨r, T, S, ?_⟩
  split at h
  · rename_i b r' e
    rw [e]
    exact fun v H' P => ⟨b, by
      obtain ⟨ow, S'⟩ := P.1
      exact S'.last, h H' P.any⟩
  · rename_i c r' e
    rw [e]
    exact h
  · exact h.elim
theorem vt_cmp {op : CmpOp} {g : G2} {a b : Expr} {pos : Pos} (ho : OpS X (compareOp op) g) (ha : VE X G C W a fa) (hb : VE X G C W b fb) (hm : behindInMarks op b = false) : VT X G C W (.Compare a [op] [b] pos) (cBin g fa fb) := by
  obtain ⟨rr, h1, h2⟩ := ho
  refine PT.imp (pt_cmpR h1 ha hb hm) fun s H Q h => ?_
  have z := tV_bl h
  obtain ⟨r, T, S, gg⟩ := z
  exact two S gg fun x y v u r2 H2 S2 lx ly g2 => h2 G C W r2 T s H2 x y v u _ S2 lx ly g2
def truthD : D → Option Bool
  | .non => some false
  | .bl b => some b
  | .int i => some (i != 0)
  | .str x => if x.length ≤ 16777216 then some ((x.length : Int) != 0) else none
  | .node .lst _ xs => some (!xs.isEmpty)
  | .node .tup _ xs => some (!xs.isEmpty)
  | .node (.dK _) _ xs => some (!xs.isEmpty)
  | _ => none
def cTru (fa : Ev) : Ev := fun r => (fa r).bd fun x r1 => match opd r1 x with
  | some d => (match truthD d with
    | some b => .ok (.val (.bl b)) r1
    | none => .bad)
  | none => .bad
theorem vt_val {a : Expr} (ha : VE X G C W a fa) (he : ∀ whole, isTrue a X.env whole = (do let v ← whole; standAt a.pos; holding [v] (truthy v))) : VT X G C W a fa := by
  refine PT.imp (pt_truth ha he) fun s H Q h => ?_
  have z := tV_bl h
  obtain ⟨r, T, S, g⟩ := z
  refine ⟨r, T, S, ?_⟩
  cases e : fa r with
  | ok x r1 =>
    rw [e] at g
    exact fun v H' P => by
      obtain ⟨k, ev, q⟩ := g v H' P
      subst ev
      exact ⟨k, rfl, q⟩
  | exc c r1 => rw [e] at g; exact g
  | bad => rw [e] at g; exact g
def cAnd (fa fb : Ev) : Ev := fun r => (fa r).bd fun x r1 => match x with
  | .val (.bl true) => fb r1
  | .val (.bl false) => .ok (.val (.bl false)) r1
  | _ => .bad
def cOr (fa fb : Ev) : Ev := fun r => (fa r).bd fun x r1 => match x with
  | .val (.bl true) => .ok (.val (.bl true)) r1
  | .val (.bl false) => fb r1
  | _ => .bad
def cNot (fa : Ev) : Ev := fun r => (fa r).bd fun x r1 => match x with
  | .val (.bl b) => .ok (.val (.bl (!b))) r1
  | _ => .bad
abbrev VW (X : Cx) (G : GX) (C : Fc) (W : WX) (e : Expr) (f : Ev) : Prop := PW X e (tVT G C W f)
theorem tVT_and {Q : Bool → Hp → Prop} (h : tVT G C W (cAnd fa fb) s H Q) : tAnd (tVT G C W fa) (tVT G C W fb) s H Q := by
  obtain ⟨r, T, S, g⟩ := h
  refine ⟨r, T, S, ?_⟩
  unfold cAnd at g
  cases e : fa r with
  | ok x r1 =>
    rw [e] at g
    simp only [bd_ok] at g
    split at g
    · rename_i b r' e'
      split at e'
      · exact fun H' S' => (if_pos rfl).mpr ⟨r1, T, S', by rw [e']; exact g⟩
      · cases e'
        exact fun H' S' => (if_neg Bool.false_ne_true).mpr (g H' S')
      · cases e'
    · rename_i c r' e'
      split at e'
      · exact fun H' S' => (if_pos rfl).mpr ⟨r1, T, S', by rw [e']; exact g⟩
      · cases e'
      · cases e'
    · exact g.elim
  | exc c r1 => rw [e] at g; exact g
  | bad => rw [e] at g; exact g
theorem tVT_or {Q : Bool → Hp → Prop} (h : tVT G C W (cOr fa fb) s H Q) : tOr (tVT G C W fa) (tVT G C W fb) s H Q := by
  obtain ⟨r, T, S, g⟩ := h
  refine ⟨r, T, S, ?_⟩
  unfold cOr at g
  cases e : fa r with
  | ok x r1 =>
    rw [e] at g
    simp only [bd_ok] at g
    split at g
    · rename_i b r' e'
      split at e'
      · cases e'
        exact fun H' S' => (if_pos rfl).mpr (g H' S')
      · exact fun H' S' => (if_neg Bool.false_ne_true).mpr ⟨r1, T, S', by rw [e']; exact g⟩
      · cases e'
    · rename_i c r' e'
      split at e'
      · cases e'
      · exact fun H' S' => (if_neg Bool.false_ne_true).mpr ⟨r1, T, S', by rw [e']; exact g⟩
      · cases e'
    · exact g.elim
  | exc c r1 => rw [e] at g; exact g
  | bad => rw [e] at g; exact g
theorem vw_and1 {a : Expr} {pos : Pos} (ha : VT X G C W a fa) : VW X G C W (.BoolOp .And [a] pos) fa := pw_and1 ha
theorem vw_or1 {a : Expr} {pos : Pos} (ha : VT X G C W a fa) : VW X G C W (.BoolOp .Or [a] pos) fa := pw_or1 ha
theorem vw_and {a b : Expr} {rest : List Expr} {pos : Pos} (ha : VT X G C W a fa) (hb : VW X G C W (.BoolOp .And (b :: rest) pos) fb) : VW X G C W (.BoolOp .And (a :: b :: rest) pos) (cAnd fa fb) :=
  PW.imp (pw_and ha hb) fun _ _ _ h => tVT_and h
theorem vw_or {a b : Expr} {rest : List Expr} {pos : Pos} (ha : VT X G C W a fa) (hb : VW X G C W (.BoolOp .Or (b :: rest) pos) fb) : VW X G C W (.BoolOp .Or (a :: b :: rest) pos) (cOr fa fb) :=
  PW.imp (pw_or ha hb) fun _ _ _ h => tVT_or h
theorem VW.pt {e : Expr} {f : Ev} (h : VW X G C W e f) : VT X G C W e f := L2.PW.pt h
theorem vt_not {a : Expr} {pos : Pos} (ha : VT X G C W a fa) : VT X G C W (.UnaryOp .Not a pos) (cNot fa) := by
  refine PT.imp (pt_not ha) fun s H Q h => ?_
  obtain ⟨r, T, S, g⟩ := h
  refine ⟨r, T, S, ?_⟩
  unfold cNot at g
  cases e : fa r with
  | ok x r1 =>
    rw [e] at g
    simp only [bd_ok] at g
    split at g
    · rename_i b r' e'
      split at e'
      · rename_i k
        cases e'
        exact g
      · cases e'
    · rename_i c r' e'
      split at e' <;> cases e'
    · exact g.elim
  | exc c r1 => rw [e] at g; exact g
  | bad => rw [e] at g; exact g
theorem ve_one {op : BoolOp} {a : Expr} {pos : Pos} (ha : VE X G C W a fa) : VE X G C W (.BoolOp op [a] pos) fa := pe_one ha
theorem ve_and {a b : Expr} {rest : List Expr} {pos : Pos} (ha : VE X G C W a fa) (hb : VE X G C W (.BoolOp .And (b :: rest) pos) fb) : VE X G C W (.BoolOp .And (a :: b :: rest) pos) (cAnd fa fb) := by
  refine PE.imp (pe_and ha hb) fun s H Q h => ?_
  obtain ⟨r, T, S, g⟩ := h
  refine one S g fun x v r1 H1 P g1 => ?_
  split at g1
  · obtain ⟨ow, S'⟩ := P.1
    have e := rep_bl S'.last
    subst e
    exact ⟨true, rfl, (if_pos rfl).mpr ⟨r1, T, P.any, g1⟩⟩
  · obtain ⟨ow, S'⟩ := P.1
    have e := rep_bl S'.last
    subst e
    exact ⟨false, rfl, (if_neg Bool.false_ne_true).mpr (g1 _ _ ⟨P.any.pushB false, trivial⟩)⟩
  · exact g1.elim
theorem ve_not {a : Expr} {pos : Pos} (ha : VE X G C W a fa) : VE X G C W (.UnaryOp .Not a pos) (cNot fa) := by
  refine PE.imp (pe_not ha) fun s H Q h => ?_
  obtain ⟨r, T, S, g⟩ := h
  refine one S g fun x v r1 H1 P g1 => ?_
  split at g1
  · rename_i b
    obtain ⟨ow, S'⟩ := P.1
    have e := rep_bl S'.last
    subst e
    exact ⟨b, rfl, g1 _ _ ⟨P.any.pushB _, trivial⟩⟩
  · exact g1.elim
def cNeg (fa : Ev) : Ev := fun r => (fa r).bd fun x r1 => match x with
  | .val (.int i) => .ok (.val (.int (-i))) r1
  | _ => .bad
theorem ve_neg {a : Expr} {pos : Pos} (ha : VE X G C W a fa) : VE X G C W (.UnaryOp .USub a pos) (cNeg fa) := by
  refine PE.imp (pe_un un_neg ha) fun s H Q h => ?_
  obtain ⟨r, T, S, g⟩ := h
  refine one S g fun x v r1 H1 P g1 => ?_
  split at g1
  · rename_i i
    obtain ⟨ow, S'⟩ := P.1
    have e := rep_int S'.last
    subst e
    exact ⟨i, rfl, g1 _ _ ⟨P.any.pushI _, trivial⟩⟩
  · exact g1.elim
end
end VL

namespace VL
open PySem PySem.Spec PyProof.Rows L2
section
variable {X : Cx} {G : GX} {C : Fc} {W : WX} {ow ow' : Ow} {r : Rho} {T T1 T2 : List (D × V)} {s : L2.St} {H H' : Hp} {fa fb fc : Ev}
theorem oneX {k : R → Rho → EO} {Q : VK} {K : V → Hp → Prop} (S : StOk G C r (T ++ T2) s H) (h : Goes G C W T s Q ((fa r).bd k))
    (hk : ∀ x v r1 H1, Post G C r1 (T ++ T2) s H1 x v → Goes G C W T s Q (k x r1) → K v H1) : tV G C W fa s H K := by
  refine ⟨r, T ++ T2, S, ?_⟩
  cases e : fa r with
  | ok x r1 =>
    rw [e] at h
    exact fun v H1 P => hk x v r1 H1 P h
  | exc c r1 => rw [e] at h; exact fun H' S' => h H' S'.drop
  | bad => rw [e] at h; exact h
def cSet (fa : Ev) : Ev := fun r => (fa r).bd fun x r1 => match x with
  | .val d => .ok (.val d) r1
  | .loc i => (match opd r1 (.loc i) with
    | some d => .ok (.val (frz d)) (settle r1 (.loc i))
    | none => .bad)
theorem ve_set {e : Expr} (h : VE X G C W e fa) : VE X G C W e (cSet fa) := by
  refine PE.imp h fun s H Q h => ?_
  obtain ⟨r, T, S, g⟩ := h
  refine ⟨r, T, S, ?_⟩
  unfold cSet at g
  cases e : fa r with
  | ok x r1 =>
    rw [e] at g
    simp only [bd_ok] at g
    intro v H' P
    cases x with
    | val d => exact g v H' P
    | loc i =>
      cases e1 : opd r1 (.loc i) with
      | none => simp only [e1] at g
      | some d =>
        simp only [e1] at g
        have q := opd_loc e1
        rw [settle_loc q] at g
        obtain ⟨⟨ow, S'⟩, l⟩ := P
        have S' : StW G C ow r1 T s H' := by simpa [pushR] using S'
        have hlt : i < r1.length := (List.getElem?_eq_some_iff.mp q).1
        have S2 := S'.frzSl q
        exact g v H' ⟨⟨_, S2.copy (j := i) (d := frz d) (by rw [List.getElem?_set_self hlt]) (frz_frz d) l⟩, trivial⟩
  | exc c r1 => rw [e] at g; exact g
  | bad => rw [e] at g; exact g

def pick (r : Rho) (x : R) (d : D) : EO := if atom d = true then .ok (.val d) r else .ok (.val (frz d)) (touch r x)
def gIx : G2 := fun x y r => match opd r x, opd r y with
  | some (.node .lst _ xs), some (.int i) => (match atI xs i with | some d => pick r x d | none => .bad)
  | some (.node .rd _ xs), some (.int i) => (match atI xs i with | some d => pick r x d | none => .bad)
  | some (.node .tup _ xs), some (.int i) => (match atI xs i with | some d => pick r x d | none => .bad)
  | some (.str z), some (.int i) => if z.length ≤ 16777216 then (match atI z.cps.toList i with | some c => .ok (.val (.str ⟨#[c]⟩)) r | none => .bad) else .bad
  | _, _ => .bad
theorem atI_len {α β : Type} {xs : List α} {ys : List β} {i : Int} {d : α} (hl : xs.length = ys.length) (h : atI xs i = some d) : ∃ j : Nat, xs[j]? = some d ∧ ∀ y, ys[j]? = some y → atI ys i = some y := by
  unfold atI at h ⊢
  rw [← hl]
  cases e : ixN xs.length i with
  | none => rw [e] at h; cases h
  | some j =>
    rw [e] at h
    exact ⟨j, h, fun y hy => hy⟩
theorem frzs_get {xs : List D} {j : Nat} {d : D} (h : xs[j]? = some d) : (frzs xs)[j]? = some (frz d) := by
  rw [frzs_map, List.getElem?_map, h]; rfl
theorem pick_ok {x y : R} {v u : V} {k : Kd} {o : Bool} {xs : List D} {i : Int} {d : D} {Q : VK} (S : StW G C ow r (T ++ (pushR x v ++ pushR y u)) s H) (lx : LocOk s v x) (e1 : opd r x = some (.node k o xs)) (ei : atI xs i = some d) (q : Goes G C W T s Q (pick r x d)) :
    ∃ a vs w, v = .ref a ∧ Holds G H a k vs ∧ atI vs i = some w ∧ Q w H := by
  by_cases a : atom d = true
  · obtain ⟨p, vs, ev, h1, h2, h3⟩ := opd_rep S lx e1
    obtain ⟨j, ej, hj⟩ := atI_len h3.length ei
    obtain ⟨w, ew, rw'⟩ := h3.get j d ej
    unfold pick at q
    rw [if_pos a] at q
    exact ⟨p, vs, w, ev, h1, hj w ew, goes_val q ⟨ow, S.drop⟩ a fun _ _ => rw'.of_atom a⟩
  · obtain ⟨ow', p, vs, S', ev, h1, rx, _⟩ := StW.parts (T := T) (StW.drop (T := T ++ pushR x v) (T2 := pushR y u) (by rw [List.append_assoc]; exact S)) lx e1
    have l1 := (rx ⟨.fo, []⟩).length
    rw [frzs_length] at l1
    obtain ⟨j, ej, hj⟩ := atI_len l1 ei
    obtain ⟨w, ew, rw'⟩ := (rx ⟨.fo, []⟩).get j (frz d) (frzs_get ej)
    unfold pick at q
    rw [if_neg a] at q
    exact ⟨p, vs, w, ev, h1, hj w ew, q w H ⟨⟨ow', S'.push (Rep.moveF _ (frz_frz d) (fun a o z q => ⟨z, q⟩) (fun _ _ z _ => z) rw')⟩, trivial⟩⟩
theorem ve_ix {a b : Expr} {pos : Pos} (hK : G.K = X.K) (ha : VE X G C W a fa) (hb : VE X G C W b fb) (hs : PlainIx b) : VE X G C W (.Subscript a b pos) (cBin gIx fa fb) := by
  refine PE.imp (pe_ix ix_seq ha hb hs) fun s H Q h => ?_
  obtain ⟨r, T, S, g⟩ := h
  refine two S g fun x y v u r2 H2 S2 lx ly q => ?_
  obtain ⟨ow, S2⟩ := S2
  have i2 : ∀ i, opd r2 y = some (.int i) → u = .int i := fun i e2 => opd_rep (T := T ++ pushR x v) (T2 := []) (by rw [List.append_nil, List.append_assoc]; exact S2) ly e2
  unfold gIx at q
  split at q
  · rename_i o xs i e1 e2
    split at q
    · rename_i d ei
      obtain ⟨p, vs, w, ev, h1, h2, h3⟩ := pick_ok S2 lx e1 ei q
      subst ev
      exact .inl ⟨p, vs, i, w, rfl, i2 i e2, SqL.of h1, h2, h3⟩
    · exact q.elim
  · rename_i o xs i e1 e2
    split at q
    · rename_i d ei
      obtain ⟨p, vs, w, ev, h1, h2, h3⟩ := pick_ok S2 lx e1 ei q
      subst ev
      exact .inl ⟨p, vs, i, w, rfl, i2 i e2, hK ▸ h1.seq, h2, h3⟩
    · exact q.elim
  · rename_i o xs i e1 e2
    split at q
    · rename_i d ei
      obtain ⟨p, vs, w, ev, h1, h2, h3⟩ := pick_ok S2 lx e1 ei q
      subst ev
      exact .inr (.inl ⟨p, vs, i, w, rfl, i2 i e2, SqT.of h1, h2, h3⟩)
    · exact q.elim
  · rename_i z i e1 e2
    split at q
    · rename_i hz
      split at q
      · rename_i c ec
        have a1 := opd_rep S2 lx e1
        exact .inr (.inr ⟨z, i, c, a1, i2 i e2, by rw [sizeLine_eq]; exact hz, ec, goes_val q ⟨ow, S2.drop⟩ rfl fun _ _ => rfl⟩)
      · exact q.elim
    · exact q.elim
  · exact q.elim

def part (f : Option Ev) (r : Rho) (k : Option Int → Rho → EO) : EO := match f with
  | none => k none r
  | some f => (f r).bd fun y r' => match y with
    | .val (.int i) => k (some i) r'
    | _ => .bad
abbrev VO (X : Cx) (G : GX) (C : Fc) (W : WX) (e : Option Expr) (f : Option Ev) : Prop := ∃ t, PO X e t ∧ ∀ (r : Rho) (T T2 : List (D × V)) (s : L2.St) (H : Hp) (Q : VK) (K : Option Int → Hp → Prop) (k : Option Int → Rho → EO),
  StOk G C r (T ++ T2) s H → Goes G C W T s Q (part f r k) → (∀ i r1 H1, StOk G C r1 (T ++ T2) s H1 → Goes G C W T s Q (k i r1) → K i H1) → t s H K
theorem vo_none : VO X G C W none none := ⟨_, po_none, fun r T T2 s H Q K k S g h => h none r H S g⟩
theorem vo_some {e : Expr} (h : VE X G C W e fa) : VO X G C W (some e) (some fa) := by
  refine ⟨_, po_some h, fun r T T2 s H Q K k S g hk => ?_⟩
  refine oneX (k := fun y r' => match y with | .val (.int i) => k (some i) r' | _ => .bad) S g fun x v r1 H1 P g1 => ?_
  cases x with
  | loc i => exact g1.elim
  | val d =>
    cases d with
    | int i =>
      obtain ⟨ow, S'⟩ := P.1
      exact ⟨i, rep_int S'.last, hk (some i) r1 H1 P.any g1⟩
    | _ => exact g1.elim
def cutD (xs : List D) (lo hi : Option Int) : List D := (xs.drop (HT.sIx xs.length 0 lo)).take (HT.sIx xs.length xs.length hi - HT.sIx xs.length 0 lo)
def gSl (x : R) (lo hi : Option Int) (r : Rho) : EO := match opd r x with
  | some (.node .lst _ xs) => .ok (.val (.node .lst true (cutD (frzs xs) lo hi))) (touch r x)
  | some (.node .rd _ xs) => .ok (.val (.node .lst true (cutD (frzs xs) lo hi))) (touch r x)
  | some (.node .tup _ xs) => .ok (.val (.node .tup false (cutD (frzs xs) lo hi))) (touch r x)
  | _ => .bad
def cSl (fa : Ev) (lo hi : Option Ev) : Ev := fun r => (fa r).bd fun x r1 => part lo r1 fun l r2 => part hi r2 fun h r3 => gSl x l h r3
theorem frzs_take (xs : List D) (n : Nat) : frzs (xs.take n) = (frzs xs).take n := by rw [frzs_map, frzs_map, List.map_take]
theorem frzs_drop (xs : List D) (n : Nat) : frzs (xs.drop n) = (frzs xs).drop n := by rw [frzs_map, frzs_map, List.map_drop]
theorem Reps.cut {ds : List D} {l : Loc} {vs : List V} (e : VL.frzs ds = ds) (h : Reps G ow H ds l 0 vs) (lo hi : Option Int) : Reps G ow H (cutD ds lo hi) l 0 (cutV vs lo hi) ∧ VL.frzs (cutD ds lo hi) = cutD ds lo hi := by
  have hl := h.length
  unfold cutD cutV
  rw [← hl]
  generalize HT.sIx ds.length 0 lo = a
  generalize HT.sIx ds.length ds.length hi - a = b
  refine ⟨Reps.of_get (by simp [hl]) fun j d v q1 q2 => ?_, by rw [frzs_take, frzs_drop, e]⟩
  have hj : j < b := by
    have := (List.getElem?_eq_some_iff.mp q1).1
    simp at this; omega
  rw [List.getElem?_take_of_lt hj, List.getElem?_drop] at q1 q2
  obtain ⟨v', z1, z2⟩ := h.get (a + j) d q1
  rw [q2] at z1
  cases z1
  have f : VL.frz d = d := by
    have := congrArg (·[a + j]?) e
    simp only [frzs_map, List.getElem?_map, q1, Option.map_some] at this
    exact Option.some.inj this
  exact Rep.moveF d f (fun a o z q => ⟨z, q⟩) (fun _ _ z _ => z) z2
theorem StW.madeT {ds : List D} {vs : List V} {l : Loc} {i : Nat} {Q : VK} (S : StW G C ow r T s H) (e : frzs ds = ds) (h : Reps G ow H ds l i vs) (hq : ∀ v H', Post G C r T s H' (.val (.node .tup false ds)) v → Q v H') :
    ∀ p, H p = none → Q (.ref p) (upd H p (.tup vs)) := fun p hp =>
  hq _ _ ⟨StOk.alloc false ⟨ow, S.pushFs e h⟩ h.length hp holds_tup (fun z => nomatch z), trivial⟩
theorem ve_slice {a : Expr} {lo hi : Option Expr} {flo fhi : Option Ev} {p2 pos : Pos} (hK : G.K = X.K) (ha : VE X G C W a fa) (hl : VO X G C W lo flo) (hh : VO X G C W hi fhi) : VE X G C W (.Subscript a (.Slice lo hi none p2) pos) (cSl fa flo fhi) := by
  obtain ⟨tl, l1, l2⟩ := hl
  obtain ⟨th, h1, h2⟩ := hh
  refine PE.imp (pe_slice (sl_list.or sl_tupA) ha l1 h1) fun s H Q h => ?_
  obtain ⟨r, T, S, g⟩ := h
  refine one S g fun x v r1 H1 P g1 => ?_
  refine l2 r1 T (pushR x v) s H1 _ _ _ P.1 g1 fun lo' r2 H2 S2 g2 => ?_
  refine h2 r2 T (pushR x v) s H2 _ _ _ S2 g2 fun hi' r3 H3 S3 g3 => ?_
  obtain ⟨ow, S3⟩ := S3
  unfold gSl at g3
  split at g3
  · rename_i o xs e1
    obtain ⟨ow', p, vs, S', ev, h1, rx, _⟩ := S3.parts P.2 e1
    subst ev
    obtain ⟨c1, c2⟩ := (rx ⟨.fo, []⟩).cut (frzs_frzs xs) lo' hi'
    exact .inl ⟨p, vs, rfl, SqL.of h1, S'.made c2 c1 g3⟩
  · rename_i o xs e1
    obtain ⟨ow', p, vs, S', ev, h1, rx, _⟩ := S3.parts P.2 e1
    subst ev
    obtain ⟨c1, c2⟩ := (rx ⟨.fo, []⟩).cut (frzs_frzs xs) lo' hi'
    exact .inl ⟨p, vs, rfl, hK ▸ h1.seq, S'.made c2 c1 g3⟩
  · rename_i o xs e1
    obtain ⟨ow', p, vs, S', ev, h1, rx, _⟩ := S3.parts P.2 e1
    subst ev
    obtain ⟨c1, c2⟩ := (rx ⟨.fo, []⟩).cut (frzs_frzs xs) lo' hi'
    have l1 := (rx ⟨.fo, []⟩).length
    refine .inr ⟨p, vs, rfl, SqT.of h1, fun hw => ?_, fun _ => S'.madeT c2 c1 g3⟩
    have ec : cutD (frzs xs) lo' hi' = frzs xs := by
      unfold cutD
      rw [l1, hw.1, hw.2, List.drop_zero, Nat.sub_zero, ← l1, List.take_length]
    rw [ec] at g3
    have n : ow' p = none := by
      cases e : ow' p with
      | none => rfl
      | some l =>
        have m := S'.mu p l e
        rw [show H3 p = some (.tup vs) from h1] at m
        exact m.elim
    exact g3 _ _ ⟨⟨ow', S'.push ⟨p, vs, rfl, h1, n, rx _⟩⟩, trivial⟩
  · exact g3.elim
end
end VL

namespace VL
open PySem PySem.Spec PyProof.Rows L2

inductive AO where
  | ok (xs : List R) (r : Rho) | exc (c : Nat) (r : Rho) | bad
abbrev Av := Rho → AO
def pushs : List R → List V → List (D × V)
  | x :: xs, v :: vs => pushR x v ++ pushs xs vs
  | _, _ => []
def LocsOk (s : L2.St) : List R → List V → Prop
  | [], [] => True
  | x :: xs, v :: vs => LocOk s v x ∧ LocsOk s xs vs
  | _, _ => False
def AO.bd (x : AO) (k : List R → Rho → EO) : EO := match x with
  | .ok y r => k y r
  | .exc c r => .exc c r
  | .bad => .bad
@[simp] theorem abd_ok (y : List R) (r : Rho) (k : List R → Rho → EO) : (AO.ok y r).bd k = k y r := rfl
@[simp] theorem abd_exc (c : Nat) (r : Rho) (k : List R → Rho → EO) : (AO.exc c r).bd k = .exc c r := rfl
@[simp] theorem abd_bad (k : List R → Rho → EO) : AO.bad.bd k = .bad := rfl
def cNil : Av := fun r => .ok [] r
def cCons (fa : Ev) (fs : Av) : Av := fun r => match fa r with
  | .ok x r1 => (match fs r1 with
    | .ok xs r2 => .ok (x :: xs) r2
    | .exc c r2 => .exc c r2
    | .bad => .bad)
  | .exc c r1 => .exc c r1
  | .bad => .bad
def opds (r : Rho) : List R → Option (List D)
  | [] => some []
  | x :: xs => match opd r x, opds r xs with
    | some d, some ds => some (d :: ds)
    | _, _ => none
def settles (r : Rho) : List R → Rho
  | [] => r
  | x :: xs => settles (settle r x) xs
section
variable {X : Cx} {G : GX} {C : Fc} {W : WX} {ow ow' : Ow} {r : Rho} {T T1 T2 : List (D × V)} {s : L2.St} {H H' : Hp} {fa fb fc : Ev} {fs : Av}
def tVA (G : GX) (C : Fc) (W : WX) (f : Av) : TA := fun s H Q => ∃ r T, StOk G C r T s H ∧ match f r with
  | .ok xs r' => ∀ vs H', StOk G C r' (T ++ pushs xs vs) s H' → LocsOk s xs vs → Q vs H'
  | .exc c r' => ∀ H', StOk G C r' T s H' → W (.ref (G c)) none s H'
  | .bad => False
abbrev VA (X : Cx) (G : GX) (C : Fc) (W : WX) (es : List Expr) (f : Av) : Prop := PA X es (tVA G C W f)
theorem PA.imp {es : List Expr} {t t' : TA} (h : PA X es t) (i : ∀ s H Q, t' s H Q → t s H Q) : PA X es t' := ⟨fun pos pins s σ H Q I w => h.run pos pins s σ H Q I (i _ _ _ w)⟩
theorem va_nil : VA X G C W [] cNil := by
  refine PA.imp pa_nil fun s H Q h => ?_
  obtain ⟨r, T, S, g⟩ := h
  exact g [] H (by simpa [pushs] using S) trivial
theorem va_cons {e : Expr} {es : List Expr} (he : VE X G C W e fa) (hr : VA X G C W es fs) (hs : starEach (e :: es) X.env = (false, eval e X.env) :: starEach es X.env := by rfl) : VA X G C W (e :: es) (cCons fa fs) := by
  refine PA.imp (pa_cons he hr hs) fun s H Q h => ?_
  obtain ⟨r, T, S, g⟩ := h
  refine ⟨r, T, S, ?_⟩
  unfold cCons at g
  cases e1 : fa r with
  | ok x r1 =>
    rw [e1] at g
    intro v H1 P
    refine ⟨r1, T ++ pushR x v, P.1, ?_⟩
    cases e2 : fs r1 with
    | ok xs r2 =>
      simp only [e2] at g
      intro vs H2 S2 l2
      exact g (v :: vs) H2 (by show StOk G C r2 (T ++ (pushR x v ++ pushs xs vs)) s H2; rw [← List.append_assoc]; exact S2) ⟨P.2, l2⟩
    | exc c r2 => simp only [e2] at g; exact fun H' S' => g H' S'.drop
    | bad => simp only [e2] at g
  | exc c r1 => rw [e1] at g; exact g
  | bad => rw [e1] at g; exact g
theorem many {k : List R → Rho → EO} {Q : VK} {K : List V → Hp → Prop} (S : StOk G C r (T ++ T2) s H) (h : Goes G C W T s Q ((fs r).bd k))
    (hk : ∀ xs vs r1 H1, StOk G C r1 (T ++ T2 ++ pushs xs vs) s H1 → LocsOk s xs vs → Goes G C W T s Q (k xs r1) → K vs H1) : tVA G C W fs s H K := by
  refine ⟨r, T ++ T2, S, ?_⟩
  cases e : fs r with
  | ok xs r1 =>
    rw [e] at h
    exact fun vs H1 S1 l1 => hk xs vs r1 H1 S1 l1 h
  | exc c r1 => rw [e] at h; exact fun H' S' => h H' S'.drop
  | bad => rw [e] at h; exact h

theorem frz_opd_settle {x y : R} {d : D} (e : opd r y = some d) : ∃ d', opd (settle r x) y = some d' ∧ frz d' = frz d := by
  cases y with
  | val z => exact ⟨d, e, rfl⟩
  | loc j =>
    have q := opd_loc e
    cases x with
    | val z => exact ⟨d, e, rfl⟩
    | loc i =>
      by_cases hij : i = j
      · subst hij
        rw [settle_loc q]
        refine ⟨frz d, ?_, frz_frz d⟩
        show (match (r.set i (some (frz d)))[i]? with | some (some d) => some d | _ => none) = _
        rw [List.getElem?_set_self (List.getElem?_eq_some_iff.mp q).1]
      · refine ⟨d, ?_, rfl⟩
        cases q' : r[i]? with
        | none =>
          have z : settle r (.loc i) = r := by show (match r[i]? with | some (some d) => r.set i (some (frz d)) | _ => r) = _; rw [q']
          rw [z]; exact e
        | some o' =>
          cases o' with
          | none =>
            have z : settle r (.loc i) = r := by show (match r[i]? with | some (some d) => r.set i (some (frz d)) | _ => r) = _; rw [q']
            rw [z]; exact e
          | some d' =>
            rw [settle_loc q']
            show (match (r.set i (some (frz d')))[j]? with | some (some d) => some d | _ => none) = _
            rw [List.getElem?_set_ne hij, q]
theorem frzs_opds_settle {x : R} : ∀ {ys : List R} {ds : List D}, opds r ys = some ds → ∃ ds', opds (settle r x) ys = some ds' ∧ frzs ds' = frzs ds
  | [], ds, e => ⟨ds, e, rfl⟩
  | y :: ys, ds, e => by
    unfold opds at e
    cases e1 : opd r y with
    | none => rw [e1] at e; cases e
    | some d =>
      cases e2 : opds r ys with
      | none => rw [e1, e2] at e; cases e
      | some ds' =>
        rw [e1, e2] at e
        cases e
        obtain ⟨d1, h1, h2⟩ := frz_opd_settle (x := x) e1
        obtain ⟨ds1, h3, h4⟩ := frzs_opds_settle (x := x) e2
        refine ⟨d1 :: ds1, by unfold opds; rw [h1, h3], ?_⟩
        show frz d1 :: frzs ds1 = frz d :: frzs ds'
        rw [h2, h4]
theorem StW.settles : ∀ {xs : List R} {vs : List V} {ow : Ow} {r : Rho} {T : List (D × V)} {ds : List D}, StW G C ow r (T ++ pushs xs vs) s H → LocsOk s xs vs → opds r xs = some ds →
    ∃ ow', StW G C ow' (VL.settles r xs) T s H ∧ (∀ l i, Reps G ow' H (frzs ds) l i vs) ∧ (∀ a, ow a = none → ow' a = none) ∧ ∀ a l, ow' a = some l → ow a = some l
  | [], [], ow, r, T, ds, S, _, e => by
    cases e
    exact ⟨ow, by have z : StW G C ow r T s H := by (simpa [pushs] using S)
                  exact z, fun l i => rfl, fun _ h => h, fun _ _ h => h⟩
  | [], _ :: _, _, _, _, _, _, l, _ => l.elim
  | _ :: _, [], _, _, _, _, _, l, _ => l.elim
  | x :: xs, v :: vs, ow, r, T, ds, S, l, e => by
    unfold opds at e
    cases e1 : opd r x with
    | none => rw [e1] at e; cases e
    | some d =>
      cases e2 : opds r xs with
      | none => rw [e1, e2] at e; cases e
      | some ds' =>
        rw [e1, e2] at e
        cases e
        cases x with
        | val d0 =>
          cases e1
          have S1 := StW.frzTm (T1 := T) (T2 := pushs xs vs) (d := d) (v := v) S
          have S2 : StW G C (VL.free ow (.tm T.length)) r ((T ++ [(frz d, v)]) ++ pushs xs vs) s H := by simpa using S1
          obtain ⟨ow', S3, h1, h2, h3⟩ := StW.settles S2 l.2 e2
          refine ⟨ow', S3.drop, fun l' i => ⟨v, vs, rfl, ?_, h1 _ _⟩, fun a q => h2 a (free_none q), fun a m q => (of_free (h3 a m q)).1⟩
          have z := S3.tm T.length (frz d) v (by simp)
          exact Rep.moveF _ (frz_frz d) (fun a o z q => ⟨z, q⟩) (fun _ _ z _ => z) z
        | loc i =>
          have q := opd_loc e1
          have S1 : StW G C ow r (T ++ pushs xs vs) s H := by simpa [pushs, pushR] using S
          have S2 := S1.frzSl q
          have hs : settle r (.loc i) = r.set i (some (frz d)) := settle_loc q
          obtain ⟨ds1, g1, g2⟩ := frzs_opds_settle (x := .loc i) e2
          rw [hs] at g1
          obtain ⟨ow', S3, h1, h2, h3⟩ := StW.settles S2 l.2 g1
          refine ⟨ow', by show StW G C ow' (VL.settles (settle r (.loc i)) xs) T s H; rw [hs]; exact S3, fun l' j => ⟨v, vs, rfl, ?_, ?_⟩, fun a q => h2 a (free_none q), fun a m q => (of_free (h3 a m q)).1⟩
          · obtain ⟨v', z1, z2⟩ := S2.sl i (frz d) (by rw [List.getElem?_set_self (List.getElem?_eq_some_iff.mp q).1])
            have h' : s[i]? = some (some v) := l.1
            rw [h'] at z1
            cases z1
            exact Rep.moveF _ (frz_frz d) (fun a o z q => ⟨z, h2 a q⟩) (fun _ _ z _ => z) z2
          · rw [g2] at h1
            exact h1 _ _
theorem LocsOk.length {s : L2.St} : ∀ {xs : List R} {vs : List V}, LocsOk s xs vs → xs.length = vs.length
  | [], [], _ => rfl
  | [], _ :: _, l => l.elim
  | _ :: _, [], l => l.elim
  | _ :: xs, _ :: vs, l => by simp [LocsOk.length l.2]

def valsR : List R → Option (List D)
  | [] => some []
  | .val d :: xs => (match valsR xs with
    | some ds => some (d :: ds)
    | none => none)
  | .loc _ :: _ => none
theorem pushs_vals : ∀ {xs : List R} {vs : List V} {ds : List D}, LocsOk s xs vs → valsR xs = some ds → pushs xs vs = ds.zip vs ∧ ds.length = vs.length
  | [], [], _, _, e => by cases e; exact ⟨rfl, rfl⟩
  | [], _ :: _, _, l, _ => l.elim
  | _ :: _, [], _, l, _ => l.elim
  | .val d :: xs, v :: vs, ds, l, e => by
    unfold valsR at e
    cases e2 : valsR xs with
    | none => rw [e2] at e; cases e
    | some ds' =>
      rw [e2] at e
      cases e
      obtain ⟨h1, h2⟩ := pushs_vals l.2 e2
      refine ⟨?_, by simp [h2]⟩
      show [(d, v)] ++ pushs xs vs = _
      rw [h1]
      rfl
  | .loc _ :: _, _ :: _, _, _, e => by cases e
def cLst (fs : Av) : Ev := fun r => (fs r).bd fun xs r1 => match valsR xs with
  | some ds => if ds.length ≤ 16777216 then .ok (.val (.node .lst true ds)) r1 else .bad
  | none => .bad
def cTup (fs : Av) : Ev := fun r => (fs r).bd fun xs r1 => match valsR xs with
  | some ds => if ds.length ≤ 16777216 then .ok (.val (.node .tup false ds)) r1 else .bad
  | none => .bad
theorem ve_lst {es : List Expr} {pos : Pos} (h : VA X G C W es fs) : VE X G C W (.List es pos) (cLst fs) := by
  refine PE.imp (pe_lst h) fun s H Q h => ?_
  obtain ⟨r, T, S, g⟩ := h
  refine many (T2 := []) (by simpa using S) g fun xs vs r1 H1 S1 l1 g1 => ?_
  cases e : valsR xs with
  | none => simp only [e] at g1; exact g1.elim
  | some ds =>
    simp only [e] at g1
    split at g1
    · rename_i hz
      obtain ⟨p1, p2⟩ := pushs_vals l1 e
      rw [p1, List.append_nil] at S1
      exact ⟨by rw [← p2, sizeLine_eq]; exact hz, fun p hp => g1 _ _ ⟨StOk.alloc true S1 p2 hp holds_lst (fun _ => trivial), trivial⟩⟩
    · exact g1.elim
theorem ve_tup {es : List Expr} {k : Nat} {pos : Pos} (h : VA X G C W es fs) : VE X G C W (.Tuple es k pos) (cTup fs) := by
  refine PE.imp (pe_tup h) fun s H Q h => ?_
  obtain ⟨r, T, S, g⟩ := h
  refine many (T2 := []) (by simpa using S) g fun xs vs r1 H1 S1 l1 g1 => ?_
  cases e : valsR xs with
  | none => simp only [e] at g1; exact g1.elim
  | some ds =>
    simp only [e] at g1
    split at g1
    · rename_i hz
      obtain ⟨p1, p2⟩ := pushs_vals l1 e
      rw [p1, List.append_nil] at S1
      exact ⟨by rw [← p2, sizeLine_eq]; exact hz, fun p hp => g1 _ _ ⟨StOk.alloc false S1 p2 hp holds_tup (fun z => nomatch z), trivial⟩⟩
    · exact g1.elim

def CallS (X : Cx) (f : Value) (g : List R → Rho → EO) : Prop := ∃ rr, CallR X f rr ∧ ∀ (G : GX) (hG : G.K = X.K) (C : Fc) (W : WX) (r : Rho) (T : List (D × V)) (s : L2.St) (H : Hp) (xs : List R) (vs : List V) (Q : VK),
  StOk G C r (T ++ pushs xs vs) s H → LocsOk s xs vs → Goes G C W T s Q (g xs r) → rr vs H Q
def cB (g : List R → Rho → EO) (fs : Av) : Ev := fun r => (fs r).bd g
section
variable {x : Str} {p pos : Pos} {e : Expr} {es : List Expr} {id TT : String}
theorem ve_callB {g : List R → Rho → EO} (hK : G.K = X.K) (hc : CallS X (.builtin id) g) (hg : Gl X x) (hm : X.mg x = none) (hv : bootBuiltins x = some (.builtin id)) (ha : VA X G C W (e :: es) fs) (hn : x ≠ "__name__" := by decide) (hdb : (x == ("__debug__" : Str)) = false := by decide)
    (he : starEach (e :: es) X.env = (false, eval e X.env) :: starEach es X.env := by rfl) (hpl : (backTo pos (starEach es X.env)).any (·.1) = false := by rfl) : VE X G C W (.Call (.Name x p) (e :: es) [] pos) (cB g fs) := by
  obtain ⟨rr, h1, h2⟩ := hc
  refine PE.imp (pe_callB h1 hg hm hv ha hn hdb he hpl) fun s H Q h => ?_
  obtain ⟨r, T, S, g⟩ := h
  exact many (T2 := []) (by simpa using S) g fun xs vs r1 H1 S1 l1 g1 => h2 G hK C W r1 T s H1 xs vs Q (by simpa using S1) l1 g1
theorem ve_callTy {g : List R → Rho → EO} (hK : G.K = X.K) (hc : CallS X (.type TT) g) (hg : Gl X x) (hm : X.mg x = none) (hv : bootBuiltins x = some (.type TT)) (ha : VA X G C W (e :: es) fs) (hn : x ≠ "__name__" := by decide) (hdb : (x == ("__debug__" : Str)) = false := by decide)
    (he : starEach (e :: es) X.env = (false, eval e X.env) :: starEach es X.env := by rfl) (hpl : (backTo pos (starEach es X.env)).any (·.1) = false := by rfl) : VE X G C W (.Call (.Name x p) (e :: es) [] pos) (cB g fs) := by
  obtain ⟨rr, h1, h2⟩ := hc
  refine PE.imp (pe_callTy h1 hg hm hv ha hn hdb he hpl) fun s H Q h => ?_
  obtain ⟨r, T, S, g⟩ := h
  exact many (T2 := []) (by simpa using S) g fun xs vs r1 H1 S1 l1 g1 => h2 G hK C W r1 T s H1 xs vs Q (by simpa using S1) l1 g1
end
def b1 (f : D → Option D) : List R → Rho → EO := fun xs r => match xs with
  | [x] => (match opd r x with
    | some d => (match f d with
      | some z => if atom z = true then .ok (.val z) r else .bad
      | none => .bad)
    | none => .bad)
  | _ => .bad
theorem one_arg {x : R} {vs : List V} (l : LocsOk s [x] vs) : ∃ v, vs = [v] ∧ LocOk s v x ∧ pushs [x] vs = pushR x v := by
  cases vs with
  | nil => exact l.elim
  | cons v vs =>
    cases vs with
    | nil => exact ⟨v, rfl, l.1, by simp [pushs]⟩
    | cons _ _ => exact l.2.elim
theorem CallS.scal {f : Value} {rr : List V → Hp → VK → Prop} {g : D → Option D} (h : CallR X f rr)
    (hr : ∀ (G : GX) (hG : G.K = X.K) (ow : Ow) (H : Hp) (d z : D) (l : Loc) (v : V) (Q : VK), Rep G ow H d l v → g d = some z → (∀ w, (∀ ow l, Rep G ow H z l w) → Q w H) → rr [v] H Q) : CallS X f (b1 g) := by
  refine ⟨rr, h, fun G hG C W r T s H xs vs Q S l q => ?_⟩
  unfold b1 at q
  split at q
  · rename_i x
    obtain ⟨v, ev, lx, ep⟩ := one_arg l
    rw [ep] at S
    subst ev
    obtain ⟨ow, S⟩ := S
    cases e1 : opd r x with
    | none => simp only [e1] at q; exact q.elim
    | some d =>
      simp only [e1] at q
      cases e2 : g d with
      | none => simp only [e2] at q; exact q.elim
      | some z =>
        simp only [e2] at q
        split at q
        · rename_i a
          refine hr G hG ow H d z _ v Q (opd_rep (T2 := []) (by rw [List.append_nil]; exact S) lx e1) e2 fun w hw => ?_
          exact q w H ⟨StOk.pushA ⟨ow, S.drop⟩ a hw, trivial⟩
        · exact q.elim
  · exact q.elim
def lenD : D → Option D
  | .node .lst _ xs => some (.int xs.length)
  | .node .rd _ xs => some (.int xs.length)
  | .node .tup _ xs => some (.int xs.length)
  | .str z => if z.length ≤ 16777216 then some (.int z.length) else none
  | _ => none
theorem cs_len : CallS X (.builtin "len") (b1 lenD) := by
  refine CallS.scal call_len fun G hG ow H d z l v Q h e q => ?_
  cases d with
  | node k o xs =>
    obtain ⟨a, vs, ev, h1, h2, h3⟩ := h
    subst ev
    have hl := h3.length
    cases k with
    | lst => cases e; exact ⟨_, vs.length, rfl, .inl ⟨vs, SqL.of h1, rfl⟩, by rw [← hl]; exact q _ fun _ _ => rfl⟩
    | rd => cases e; exact ⟨_, vs.length, rfl, .inl ⟨vs, hG ▸ h1.seq, rfl⟩, by rw [← hl]; exact q _ fun _ _ => rfl⟩
    | tup => cases e; exact ⟨_, vs.length, rfl, .inr ⟨vs, SqT.of h1, rfl⟩, by rw [← hl]; exact q _ fun _ _ => rfl⟩
    | _ => cases e
  | str x =>
    have ev := rep_str h
    subst ev
    simp only [lenD] at e
    split at e
    · cases e; exact ⟨_, x.length, rfl, ⟨by rw [sizeLine_eq]; assumption, rfl⟩, q _ fun _ _ => rfl⟩
    · cases e
  | _ => cases e
def gListOf : List R → Rho → EO := fun xs r => match xs with
  | [x] => (match opd r x with
    | some (.node .lst _ xs) => .ok (.val (.node .lst true (frzs xs))) (touch r x)
    | some (.node .rd _ xs) => .ok (.val (.node .lst true (frzs xs))) (touch r x)
    | some (.node .tup _ xs) => .ok (.val (.node .lst true (frzs xs))) (touch r x)
    | _ => .bad)
  | _ => .bad
theorem cs_list : CallS X (.type "list") gListOf := by
  refine ⟨_, call_list_of, fun G hG C W r T s H xs vs Q S l q => ?_⟩
  unfold gListOf at q
  split at q
  · rename_i x
    obtain ⟨v, ev, lx, ep⟩ := one_arg l
    rw [ep] at S
    subst ev
    obtain ⟨ow, S⟩ := S
    split at q
    · rename_i o xs e1
      obtain ⟨ow', p, vs, S', ev, h1, rx, _⟩ := S.parts lx e1
      subst ev
      exact ⟨p, vs, rfl, .inl (SqL.of h1), S'.made (frzs_frzs xs) (rx ⟨.fo, []⟩) q⟩
    · rename_i o xs e1
      obtain ⟨ow', p, vs, S', ev, h1, rx, _⟩ := S.parts lx e1
      subst ev
      exact ⟨p, vs, rfl, .inl (hG ▸ h1.seq), S'.made (frzs_frzs xs) (rx ⟨.fo, []⟩) q⟩
    · rename_i o xs e1
      obtain ⟨ow', p, vs, S', ev, h1, rx, _⟩ := S.parts lx e1
      subst ev
      exact ⟨p, vs, rfl, .inr (SqT.of h1), S'.made (frzs_frzs xs) (rx ⟨.fo, []⟩) q⟩
    · exact q.elim
  · exact q.elim
def b2 (f : Int → Int → Int) : List R → Rho → EO := fun xs r => match xs with
  | [x, y] => (match opd r x, opd r y with
    | some (.int i), some (.int j) => .ok (.val (.int (f i j))) r
    | _, _ => .bad)
  | _ => .bad
theorem cs_int2 {f : Value} {g : Int → Int → Int} (h : CallR X f (fun xs H Q => ∃ i j, xs = [.int i, .int j] ∧ Q (.int (g i j)) H)) : CallS X f (b2 g) := by
  refine ⟨_, h, fun G hG C W r T s H xs vs Q S l q => ?_⟩
  unfold b2 at q
  split at q
  · rename_i x y
    cases vs with
    | nil => exact l.elim
    | cons v vs =>
      cases vs with
      | nil => exact l.2.elim
      | cons u vs =>
        cases vs with
        | cons _ _ => exact l.2.2.elim
        | nil =>
          obtain ⟨ow, S⟩ := S
          have S' : StW G C ow r (T ++ (pushR x v ++ pushR y u)) s H := by simpa [pushs] using S
          split at q
          · rename_i i j e1 e2
            have a1 := opd_rep S' l.1 e1
            have a2 := opd_rep (T := T ++ pushR x v) (T2 := []) (by rw [List.append_nil, List.append_assoc]; exact S') l.2.1 e2
            exact ⟨i, j, by rw [show v = .int i from a1, show u = .int j from a2], goes_val q ⟨ow, S.drop⟩ rfl fun _ _ => rfl⟩
          · exact q.elim
  · exact q.elim
def gMax2 := b2 fun i j => if j > i then j else i
def gMin2 := b2 fun i j => if j < i then j else i
theorem cs_max2 (hc : X.calm = true) : CallS X (.builtin "max") gMax2 := cs_int2 (call_max2 hc)
theorem cs_min2 (hc : X.calm = true) : CallS X (.builtin "min") gMin2 := cs_int2 (call_min2 hc)
def intD : D → Option D
  | .int i => some (.int i)
  | .bl k => some (.int (if k then 1 else 0))
  | _ => none
def intsOf : List D → Option (List Int)
  | [] => some []
  | .int i :: ds => (match intsOf ds with
    | some ns => some (i :: ns)
    | none => none)
  | _ :: _ => none
theorem ints_rep : ∀ {ds : List D} {ns : List Int} {l : Loc} {i : Nat} {vs : List V}, intsOf ds = some ns → Reps G ow H ds l i vs → vs = ns.map V.int
  | [], _, _, _, vs, e, h => by
    cases e
    exact h
  | d :: ds, ns, l, i, vs, e, h => by
    obtain ⟨v, ws, ev, h1, h2⟩ := h
    cases d with
    | int n =>
      unfold intsOf at e
      cases e2 : intsOf ds with
      | none => rw [e2] at e; cases e
      | some ns' =>
        rw [e2] at e
        cases e
        rw [ev, rep_int h1, ints_rep e2 h2]
        rfl
    | _ => cases e
theorem intsOf_map (ns : List Int) : intsOf (ns.map D.int) = some ns := by
  induction ns with
  | nil => rfl
  | cons n ns ih => show (match intsOf (ns.map D.int) with | some ms => some (n :: ms) | none => none) = _; rw [ih]
def sumD : D → Option D
  | .node .lst _ xs => (intsOf xs).map fun ns => .int ns.sum
  | .node .rd _ xs => (intsOf xs).map fun ns => .int ns.sum
  | _ => none
theorem cs_sum (hc : X.calm = true) : CallS X (.builtin "sum") (b1 sumD) := by
  refine CallS.scal (cr_sum hc) fun G hG ow H d z l v Q h e q => ?_
  cases d with
  | node k o xs =>
    obtain ⟨a, vs, ev, h1, h2, h3⟩ := h
    cases k with
    | lst =>
      simp only [sumD] at e
      cases e2 : intsOf xs with
      | none => rw [e2] at e; cases e
      | some ns =>
        rw [e2] at e
        cases e
        exact ⟨a, ns, by rw [ev], by rw [← ints_rep e2 h3]; exact SqL.of h1, q _ fun _ _ => rfl⟩
    | rd =>
      simp only [sumD] at e
      cases e2 : intsOf xs with
      | none => rw [e2] at e; cases e
      | some ns =>
        rw [e2] at e
        cases e
        exact ⟨a, ns, by rw [ev], by rw [← ints_rep e2 h3]; exact hG ▸ h1.seq, q _ fun _ _ => rfl⟩
    | _ => cases e
  | _ => cases e
end
end VL

namespace VL
open PySem PySem.Spec PyProof.Rows L2

inductive SO where
  | nx (r : Rho) | rt (x : R) (r : Rho) | bk (r : Rho) | ct (r : Rho) | exc (c : Nat) (r : Rho) | bad
abbrev Sv := Rho → SO
def EO.st (x : EO) (k : R → Rho → SO) : SO := match x with
  | .ok y r => k y r
  | .exc c r => .exc c r
  | .bad => .bad
@[simp] theorem st_ok (y : R) (r : Rho) (k : R → Rho → SO) : (EO.ok y r).st k = k y r := rfl
@[simp] theorem st_exc (c : Nat) (r : Rho) (k : R → Rho → SO) : (EO.exc c r).st k = .exc c r := rfl
@[simp] theorem st_bad (k : R → Rho → SO) : EO.bad.st k = .bad := rfl
def GoesS (G : GX) (C : Fc) (W : WX) (T : List (D × V)) (D : Ends) (o : SO) : Prop := match o with
  | .nx r' => ∀ s' H', StOk G C r' T s' H' → D.nx s' H'
  | .rt x r' => ∀ s' v H', Post G C r' T s' H' x v → D.rt v H'
  | .bk r' => ∀ s' H', StOk G C r' T s' H' → D.bk s' H'
  | .ct r' => ∀ s' H', StOk G C r' T s' H' → D.ct s' H'
  | .exc c r' => ∀ s' H', StOk G C r' T s' H' → W (.ref (G c)) none s' H'
  | .bad => False
def tVS (G : GX) (C : Fc) (W : WX) (f : Sv) : TS := fun D s H => ∃ r T, StOk G C r T s H ∧ GoesS G C W T D (f r)
abbrev VS (X : Cx) (G : GX) (C : Fc) (W : WX) (st : Stmt) (f : Sv) : Prop := PS X st (tVS G C W f)
abbrev VSs (X : Cx) (G : GX) (C : Fc) (W : WX) (st : List Stmt) (f : Sv) : Prop := PSs X st (tVS G C W f)
section
variable {X : Cx} {G : GX} {C : Fc} {W : WX} {ow ow' : Ow} {r : Rho} {T T1 T2 : List (D × V)} {s : L2.St} {H H' : Hp} {fa fb fc : Ev} {f g : Sv}
theorem PS.imp {st : Stmt} {t t' : TS} (h : PS X st t) (i : ∀ D s H, t' D s H → t D s H) : PS X st t' := ⟨fun pins s σ H D I w => h.run pins s σ H D I (i _ _ _ w)⟩
theorem PSs.imp {st : List Stmt} {t t' : TS} (h : PSs X st t) (i : ∀ D s H, t' D s H → t D s H) : PSs X st t' := ⟨fun pins s σ H D I w => h.run pins s σ H D I (i _ _ _ w)⟩
theorem oneS {k : R → Rho → SO} {D : Ends} {K : V → Hp → Prop} (S : StOk G C r T s H) (h : GoesS G C W T D ((fa r).st k))
    (hk : ∀ x v r1 H1, Post G C r1 T s H1 x v → GoesS G C W T D (k x r1) → K v H1) : tV G C W fa s H K := by
  refine ⟨r, T, S, ?_⟩
  cases e : fa r with
  | ok x r1 => rw [e] at h; exact fun v H1 P => hk x v r1 H1 P h
  | exc c r1 => rw [e] at h; exact fun H' S' => h s H' S'
  | bad => rw [e] at h; exact h

def cSkip : Sv := fun r => .nx r
def SO.sq (x : SO) (g : Sv) : SO := match x with
  | .nx r => g r
  | o => o
@[simp] theorem sq_nx (r : Rho) (g : Sv) : (SO.nx r).sq g = g r := rfl
@[simp] theorem sq_rt (x : R) (r : Rho) (g : Sv) : (SO.rt x r).sq g = .rt x r := rfl
@[simp] theorem sq_bk (r : Rho) (g : Sv) : (SO.bk r).sq g = .bk r := rfl
@[simp] theorem sq_ct (r : Rho) (g : Sv) : (SO.ct r).sq g = .ct r := rfl
@[simp] theorem sq_exc (c : Nat) (r : Rho) (g : Sv) : (SO.exc c r).sq g = .exc c r := rfl
@[simp] theorem sq_bad (g : Sv) : SO.bad.sq g = .bad := rfl
def cSeq (f g : Sv) : Sv := fun r => (f r).sq g
theorem vss_nil : VSs X G C W [] cSkip := PSs.imp pss_nil fun D s H ⟨r, T, S, h⟩ => h s H S
theorem vss_cons {st : Stmt} {rest : List Stmt} (h1 : VS X G C W st f) (h2 : VSs X G C W rest g) : VSs X G C W (st :: rest) (cSeq f g) := by
  refine PSs.imp (pss_cons h1 h2) fun D s H h => ?_
  obtain ⟨r, T, S, h⟩ := h
  refine ⟨r, T, S, ?_⟩
  unfold cSeq at h
  cases e : f r with
  | nx r1 => rw [e] at h; exact fun s' H' S' => ⟨r1, T, S', h⟩
  | rt x r1 => rw [e] at h; exact h
  | bk r1 => rw [e] at h; exact h
  | ct r1 => rw [e] at h; exact h
  | exc c r1 => rw [e] at h; exact h
  | bad => rw [e] at h; exact h
theorem vss_one {st : Stmt} (h1 : VS X G C W st f) : VSs X G C W [st] f := pss_one h1
def cBrk : Sv := fun r => .bk r
def cCnt : Sv := fun r => .ct r
def cExpr (fa : Ev) : Sv := fun r => (fa r).st fun _ r1 => .nx r1
theorem vs_expr {e : Expr} {pos : Pos} (he : VE X G C W e fa) (hs : swapsWith e none pos.line X.env = pure false := by rfl) : VS X G C W (.Expr e pos) (cExpr fa) := by
  refine PS.imp (ps_expr he hs) fun D s H h => ?_
  obtain ⟨r, T, S, h⟩ := h
  exact oneS S h fun x v r1 H1 P h1 => h1 s H1 P.any
def cRet (fa : Ev) : Sv := fun r => (fa r).st fun x r1 => .rt x r1
theorem vs_ret {e : Expr} {pos : Pos} (he : VE X G C W e fa) : VS X G C W (.Return (some e) pos) (cRet fa) := by
  refine PS.imp (ps_ret he) fun D s H h => ?_
  obtain ⟨r, T, S, h⟩ := h
  exact oneS S h fun x v r1 H1 P h1 => h1 s v H1 P
def cIfS (ft : Ev) (f g : Sv) : Sv := fun r => (ft r).st fun x r1 => match x with
  | .val (.bl true) => f r1
  | .val (.bl false) => g r1
  | _ => .bad
theorem vs_if {c : Expr} {a b : List Stmt} {pos : Pos} (hc : VT X G C W c fc) (ha : VSs X G C W a f) (hb : VSs X G C W b g) : VS X G C W (.If c a b pos) (cIfS fc f g) := by
  refine PS.imp (ps_if hc ha hb) fun D s H h => ?_
  obtain ⟨r, T, S, h⟩ := h
  refine ⟨r, T, S, ?_⟩
  unfold cIfS at h
  cases e : fc r with
  | ok x r1 =>
    rw [e] at h
    simp only [st_ok] at h
    cases x with
    | loc i => exact h.elim
    | val d =>
      cases d with
      | bl b =>
        cases b with
        | true => exact fun H' S' => (if_pos rfl).mpr ⟨r1, T, S', h⟩
        | false => exact fun H' S' => (if_neg Bool.false_ne_true).mpr ⟨r1, T, S', h⟩
      | _ => exact h.elim
  | exc c r1 => rw [e] at h; exact fun H' S' => h s H' S'
  | bad => rw [e] at h; exact h

def movedM (ow : Ow) (n i : Nat) : Ow := fun a => match ow a with
  | some ⟨.tm j, p⟩ => if j = n then some ⟨.sl i, p⟩ else if n < j then some ⟨.tm (j - 1), p⟩ else some ⟨.tm j, p⟩
  | some ⟨.sl j, p⟩ => if j = i then none else some ⟨.sl j, p⟩
  | x => x
theorem StW.setM {i : Nat} {d : D} {v : V} (S : StW G C ow r (T ++ (d, v) :: T2) s H) (hp : ∀ p ∈ C.pin, p.1 ≠ i) : StW G C (movedM ow T.length i) (r.set i (some d)) (T ++ T2) (s.set i (some v)) H where
  len := by simpa using S.len
  sl := fun j d' q => by
    by_cases hj : j = i
    · subst hj
      have hlt : j < r.length := by
        have := (List.getElem?_eq_some_iff.mp q).1
        simpa using this
      rw [List.getElem?_set_self hlt] at q
      cases q
      refine ⟨v, by rw [List.getElem?_set_self (by rw [← S.len]; exact hlt)], ?_⟩
      have z := S.tm T.length d v (by simp)
      refine Rep.mono (l := ⟨.tm T.length, []⟩) d (fun _ _ z _ => z) (fun _ _ z _ => z) (fun a o _ n => by unfold movedM; rw [n]) (fun a o q _ n => ?_) z
      have n' : ow a = some ⟨.tm T.length, [] ++ q⟩ := n
      unfold movedM
      rw [n']
      simp [Loc.app]
    · rw [List.getElem?_set_ne (Ne.symm hj)] at q
      obtain ⟨v', h1, h2⟩ := S.sl j d' q
      refine ⟨v', by rw [List.getElem?_set_ne (Ne.symm hj)]; exact h1, ?_⟩
      refine Rep.mono (l := ⟨.sl j, []⟩) d' (fun _ _ z _ => z) (fun _ _ z _ => z) (fun a o _ n => by unfold movedM; rw [n]) (fun a o q _ n => ?_) h2
      have n' : ow a = some ⟨.sl j, [] ++ q⟩ := n
      unfold movedM
      rw [n']
      simp [Loc.app, hj]
  tm := fun k d' v' q => by
    by_cases hk : k < T.length
    · rw [List.getElem?_append_left hk] at q
      have z := S.tm k d' v' (by rw [List.getElem?_append_left hk]; exact q)
      refine Rep.mono (l := ⟨.tm k, []⟩) d' (fun _ _ z _ => z) (fun _ _ z _ => z) (fun a o _ n => by unfold movedM; rw [n]) (fun a o q _ n => ?_) z
      have n' : ow a = some ⟨.tm k, [] ++ q⟩ := n
      unfold movedM
      rw [n']
      have h1 : ¬ k = T.length := by omega
      have h2 : ¬ T.length < k := by omega
      simp [Loc.app, h1, h2]
    · rw [List.getElem?_append_right (by omega)] at q
      have z := S.tm (k + 1) d' v' (by
        rw [List.getElem?_append_right (by omega), show k + 1 - T.length = (k - T.length) + 1 by omega]
        simpa using q)
      refine Rep.mono (l := ⟨.tm (k + 1), []⟩) d' (fun _ _ z _ => z) (fun _ _ z _ => z) (fun a o _ n => by unfold movedM; rw [n]) (fun a o q _ n => ?_) z
      have n' : ow a = some ⟨.tm (k + 1), [] ++ q⟩ := n
      unfold movedM
      rw [n']
      have h1 : ¬ k + 1 = T.length := by omega
      have h2 : T.length < k + 1 := by omega
      simp [Loc.app, h1, h2]
  old := S.old
  own := fun a l q => by
    cases e : ow a with
    | none => unfold movedM at q; rw [e] at q; cases q
    | some m =>
      obtain ⟨mb, mp⟩ := m
      cases mb with
      | fo =>
        unfold movedM at q; rw [e] at q; cases q
        exact .inl rfl
      | sl j => exact (S.own a _ e).elim (fun z => nomatch z) .inr
      | tm j => exact (S.own a _ e).elim (fun z => nomatch z) .inr
  fo := fun a q => by
    have z := S.fo a q
    unfold movedM; rw [z]
  mu := fun a l q => by
    cases e : ow a with
    | none => unfold movedM at q; rw [e] at q; cases q
    | some m => exact S.mu a m e
  pin := fun p hm => by
    rw [List.getElem?_set_ne (Ne.symm (hp p hm))]
    exact S.pin p hm
  tabs := S.tabs
def spread (ow : Ow) (n : Nat) : Ow := fun a => match ow a with
  | some ⟨.tm j, p⟩ => if j < n then some ⟨.tm j, p⟩ else if j = n then (match p with
    | k :: p' => some ⟨.tm (n + k), p'⟩
    | [] => none) else none
  | x => x
theorem StW.spread {k : Kd} {o : Bool} {ds : List D} {v : V} (S : StW G C ow r (T ++ [(.node k o ds, v)]) s H) : ∃ a vs, v = .ref a ∧ Holds G H a k vs ∧ ds.length = vs.length ∧ StW G C (VL.spread ow T.length) r (T ++ ds.zip vs) s H := by
  obtain ⟨a, vs, ev, h1, h2, h3⟩ := S.last
  refine ⟨a, vs, ev, h1, h3.length, S.len, fun i d q => ?_, fun j d v q => ?_, S.old, fun b l q => ?_, fun b q => ?_, fun b l q => ?_, S.pin, S.tabs⟩
  · obtain ⟨v', z1, z2⟩ := S.sl i d q
    refine ⟨v', z1, Rep.mono (l := ⟨.sl i, []⟩) d (fun _ _ z _ => z) (fun _ _ z _ => z) (fun a o _ n => by unfold VL.spread; rw [n]) (fun a o q _ n => ?_) z2⟩
    have n' : ow a = some ⟨.sl i, [] ++ q⟩ := n
    unfold VL.spread
    rw [n']
    rfl
  · by_cases hj : j < T.length
    · rw [List.getElem?_append_left hj] at q
      have z := S.tm j d v (by rw [List.getElem?_append_left hj]; exact q)
      refine Rep.mono (l := ⟨.tm j, []⟩) d (fun _ _ z _ => z) (fun _ _ z _ => z) (fun a o _ n => by unfold VL.spread; rw [n]) (fun a o q _ n => ?_) z
      have n' : ow a = some ⟨.tm j, [] ++ q⟩ := n
      unfold VL.spread
      rw [n']
      simp [Loc.app, hj]
    · rw [List.getElem?_append_right (by omega)] at q
      obtain ⟨q1, q2⟩ := List.getElem?_zip_eq_some.mp q
      obtain ⟨v', z1, z2⟩ := h3.get (j - T.length) d q1
      rw [q2] at z1
      cases z1
      refine Rep.mono (l := Loc.sub ⟨.tm T.length, []⟩ (0 + (j - T.length))) d (fun _ _ z _ => z) (fun _ _ z _ => z) (fun a o _ n => by unfold VL.spread; rw [n]) (fun a o q _ n => ?_) z2
      have n' : ow a = some ⟨.tm T.length, (j - T.length) :: q⟩ := by
        rw [n]; simp [Loc.sub, Loc.app]
      unfold VL.spread
      rw [n']
      simp [Loc.app]
      omega
  · cases e : ow b with
    | none => unfold VL.spread at q; rw [e] at q; cases q
    | some m =>
      obtain ⟨mb, mp⟩ := m
      cases mb with
      | fo =>
        unfold VL.spread at q; rw [e] at q; cases q
        exact .inl rfl
      | sl j => exact (S.own b _ e).elim (fun z => nomatch z) .inr
      | tm j => exact (S.own b _ e).elim (fun z => nomatch z) .inr
  · have z := S.fo b q
    unfold VL.spread; rw [z]
  · cases e : ow b with
    | none => unfold VL.spread at q; rw [e] at q; cases q
    | some m => exact S.mu b m e

inductive Tg where
  | nm (i : Nat) | tp (is : List Nat) | tl (is : List Nat) | tn (i : Nat) (js : List Nat)
def setAll (r : Rho) : List Nat → List D → Rho
  | i :: is, d :: ds => setAll (r.set i (some d)) is ds
  | _, _ => r
def tgt : Tg → D → Rho → Option Rho
  | .nm i, d, r => some (r.set i (some d))
  | .tp is, .node .tup _ ds, r => if is.length = ds.length then some (setAll r is ds) else none
  | .tl is, .node .lst _ ds, r => if is.length = ds.length then some (setAll r is ds) else none
  | .tn i js, .node .tup _ [d, .node .tup _ ds], r => if js.length = ds.length then some (setAll (r.set i (some d)) js ds) else none
  | _, _, _ => none
def Tg.slots : Tg → List Nat
  | .nm i => [i]
  | .tp is => is
  | .tl is => is
  | .tn i js => i :: js
def But (is : List Nat) (s s' : L2.St) : Prop := s'.length = s.length ∧ ∀ j, j ∉ is → s'[j]? = s[j]?
theorem But.refl {is : List Nat} {s : L2.St} : But is s s := ⟨rfl, fun _ _ => rfl⟩
theorem But.set {i : Nat} {x : Option V} {s : L2.St} : But [i] s (s.set i x) := ⟨by simp, fun j h => List.getElem?_set_ne (fun e => h (by simp [e]))⟩
theorem But.cons {i : Nat} {is : List Nat} {x : Option V} {s s' : L2.St} (h : But is (s.set i x) s') : But (i :: is) s s' :=
  ⟨h.1.trans (by simp), fun j n => (h.2 j (fun z => n (List.mem_cons_of_mem _ z))).trans (List.getElem?_set_ne (fun e => n (by simp [e])))⟩
def tVG (G : GX) (C : Fc) (t : Tg) : TG := fun v s H Q => ∃ r T d, StOk G C r (T ++ [(d, v)]) s H ∧ match tgt t d r with
  | some r' => ∀ s' H', StOk G C r' T s' H' → But t.slots s s' → Q s' H'
  | none => False
abbrev VG (X : Cx) (G : GX) (C : Fc) (e : Expr) (t : Tg) : Prop := PG X e (tVG G C t)
theorem PG.imp {e : Expr} {t t' : TG} (h : PG X e t) (i : ∀ v s H Q, t' v s H Q → t v s H Q) : PG X e t' := ⟨fun pins s σ H v u Q I rr w => h.run pins s σ H v u Q I rr (i _ _ _ _ w)⟩
theorem vg_name {i : Nat} {x : Str} {pos : Pos} (hN : X.N.Nodup) (hi : X.N[i]? = some x) (hx : L2.Loc X.env.scope x) (hp : ∀ p ∈ C.pin, p.1 ≠ i) (hf : X.fn x = true ∨ X.env.scope.names.lookup x = some .local := by first | exact .inl rfl | exact .inr rfl | assumption) : VG X G C (.Name x pos) (.nm i) := by
  refine PG.imp (pg_name hN hi hx hf) fun v s H Q h => ?_
  obtain ⟨r, T, d, S, h⟩ := h
  exact h _ _ (S.set hp) But.set
def tVGs (G : GX) (C : Fc) (is : List Nat) : TGs := fun vs s H Q => ∃ r T ds, ds.length = vs.length ∧ is.length = ds.length ∧ StOk G C r (T ++ ds.zip vs) s H ∧ ∀ s' H', StOk G C (setAll r is ds) T s' H' → But is s s' → Q s' H'
abbrev VGs (X : Cx) (G : GX) (C : Fc) (es : List Expr) (is : List Nat) : Prop := PGs X es (tVGs G C is)
theorem vgs_nil : VGs X G C [] [] := by
  refine ⟨fun pins s σ H vs us Q I rr h => pgs_nil.run pins s σ H vs us Q I rr ?_⟩
  obtain ⟨r, T, ds, h1, h2, S, h⟩ := h
  have e1 : ds = [] := List.eq_nil_of_length_eq_zero h2.symm
  subst e1
  have e2 : vs = [] := List.eq_nil_of_length_eq_zero h1.symm
  subst e2
  have S' : StOk G C r T σ H := by simpa using S
  exact ⟨rfl, h _ _ S' But.refl⟩
theorem vgs_cons {i : Nat} {x : Str} {pos : Pos} {es : List Expr} {is : List Nat} (hN : X.N.Nodup) (hi : X.N[i]? = some x) (hx : L2.Loc X.env.scope x) (hp : ∀ p ∈ C.pin, p.1 ≠ i) (h2 : VGs X G C es is)
    (hf : X.fn x = true ∨ X.env.scope.names.lookup x = some .local := by first | exact .inl rfl | exact .inr rfl | assumption)
    (hs : (assignEach (.Name x pos :: es) X.env).map (·.2) = assign (.Name x pos) X.env :: (assignEach es X.env).map (·.2) := by rfl) : VGs X G C (.Name x pos :: es) (i :: is) := by
  refine ⟨fun pins s σ H vs us Q I rr h => (pgs_cons (pg_name hN hi hx hf) h2 hs).run pins s σ H vs us Q I rr ?_⟩
  obtain ⟨r, T, ds, h1, h2, S, h⟩ := h
  cases ds with
  | nil => cases h2
  | cons d ds =>
    cases vs with
    | nil => cases h1
    | cons v vs =>
      refine ⟨v, vs, rfl, r.set i (some d), T, ds, by simpa using h1, by simpa using h2, ?_, fun s' H' S' b => h s' H' S' b.cons⟩
      obtain ⟨ow, S⟩ := S
      exact ⟨_, StW.setM (T := T) (T2 := ds.zip vs) S hp⟩
theorem vg_tup {es : List Expr} {is : List Nat} {k : Nat} {pos : Pos} (hc : X.calm = true) (h : VGs X G C es is)
    (hn : (assignEach es X.env).length = is.length := by rfl) (hst : (assignEach es X.env).findIdx? (·.1) = none := by rfl) : VG X G C (.Tuple es k pos) (.tp is) := by
  refine PG.imp (pg_tup hc h hn hst) fun v s H Q h => ?_
  obtain ⟨r, T, d, S, h⟩ := h
  obtain ⟨ow, S⟩ := S
  cases d with
  | node k o ds =>
    cases k with
    | tup =>
      obtain ⟨a, vs, ev, h1, h2, S'⟩ := S.spread
      by_cases hl : is.length = ds.length
      · have e : tgt (.tp is) (.node .tup o ds) r = some (setAll r is ds) := if_pos hl
        rw [e] at h
        exact ⟨a, vs, ev, SqT.of h1, by rw [← h2]; exact hl.symm, r, T, ds, h2, hl, ⟨_, S'⟩, h⟩
      · have e : tgt (.tp is) (.node .tup o ds) r = none := if_neg hl
        rw [e] at h
        exact h.elim
    | _ => exact h.elim
  | _ => exact h.elim
theorem tgt_tn {i : Nat} {js : List Nat} {d : D} {r r' : Rho} (h : tgt (.tn i js) d r = some r') : ∃ o d1 o2 ds, d = .node .tup o [d1, .node .tup o2 ds] ∧ js.length = ds.length ∧ r' = setAll (r.set i (some d1)) js ds := by
  cases d with
  | node k o xs =>
    cases k with
    | tup =>
      match xs, h with
      | [], h => cases h
      | [_], h => cases h
      | [d1, d2], h =>
        cases d2 with
        | node k2 o2 ds =>
          cases k2 with
          | tup =>
            have h : (if js.length = ds.length then some (setAll (r.set i (some d1)) js ds) else none) = some r' := h
            by_cases hl : js.length = ds.length
            · rw [if_pos hl] at h
              cases h
              exact ⟨o, d1, o2, ds, rfl, hl, rfl⟩
            · rw [if_neg hl] at h
              cases h
          | _ => cases h
        | _ => cases h
      | _ :: _ :: _ :: _, h => simp [tgt] at h
    | _ => cases h
  | _ => cases h
def tVGN (G : GX) (C : Fc) (i : Nat) (js : List Nat) : TGs := fun vs s H Q => ∃ r T d o ds v w, vs = [v, w] ∧ js.length = ds.length ∧ StOk G C r (T ++ [(d, v), (.node .tup o ds, w)]) s H ∧ ∀ s' H', StOk G C (setAll (r.set i (some d)) js ds) T s' H' → But (i :: js) s s' → Q s' H'
theorem vg_nest {i : Nat} {x : Str} {px p2 pos : Pos} {es : List Expr} {js : List Nat} {k k2 : Nat} (hc : X.calm = true) (hN : X.N.Nodup) (hi : X.N[i]? = some x) (hx : L2.Loc X.env.scope x) (hp : ∀ p ∈ C.pin, p.1 ≠ i) (h : VG X G C (.Tuple es k2 p2) (.tp js))
    (hf : X.fn x = true ∨ X.env.scope.names.lookup x = some .local := by first | exact .inl rfl | exact .inr rfl | assumption)
    (hs : (assignEach [.Name x px, .Tuple es k2 p2] X.env).map (·.2) = assign (.Name x px) X.env :: (assignEach [.Tuple es k2 p2] X.env).map (·.2) := by rfl)
    (hs2 : (assignEach [.Tuple es k2 p2] X.env).map (·.2) = assign (.Tuple es k2 p2) X.env :: (assignEach [] X.env).map (·.2) := by rfl)
    (hn : (assignEach [.Name x px, .Tuple es k2 p2] X.env).length = 2 := by rfl) (hst : (assignEach [.Name x px, .Tuple es k2 p2] X.env).findIdx? (·.1) = none := by rfl) : VG X G C (.Tuple [.Name x px, .Tuple es k2 p2] k pos) (.tn i js) := by
  have two : PGs X [.Name x px, .Tuple es k2 p2] (tVGN G C i js) := ⟨fun pins s σ H vs us Q I rr h0 => (pgs_cons (pg_name hN hi hx hf) (pgs_cons h pgs_nil hs2) hs).run pins s σ H vs us Q I rr (by
    obtain ⟨r, T, d, o, ds, v, w, ev, hl, S, h0⟩ := h0
    refine ⟨v, [w], ev, w, [], rfl, r.set i (some d), T, .node .tup o ds, ?_, ?_⟩
    · obtain ⟨ow, S⟩ := S
      exact ⟨_, StW.setM (T := T) (T2 := [(.node .tup o ds, w)]) S hp⟩
    · have e : tgt (.tp js) (.node .tup o ds) (r.set i (some d)) = some (setAll (r.set i (some d)) js ds) := if_pos hl
      rw [e]
      exact fun s' H' S' b => ⟨rfl, h0 s' H' S' b.cons⟩)⟩
  refine PG.imp (pg_tup hc two hn hst) fun v s H Q h => ?_
  obtain ⟨r, T, d, S, h⟩ := h
  obtain ⟨ow, S⟩ := S
  cases e : tgt (.tn i js) d r with
  | none => rw [e] at h; exact h.elim
  | some r' =>
    rw [e] at h
    obtain ⟨o, d1, o2, ds, ed, hl, er⟩ := tgt_tn e
    subst ed er
    obtain ⟨a, vs, ev, h1, h2, S'⟩ := S.spread
    match vs, h1, h2, S' with
    | [w1, w2], h1, _, S' =>
      exact ⟨a, [w1, w2], ev, SqT.of h1, rfl, r, T, d1, o2, ds, w1, w2, rfl, hl, ⟨_, S'⟩, h⟩
def asgK (t : Tg) (x : R) (r1 : Rho) : SO := match x with
  | .val d => (match tgt t d r1 with
    | some r2 => .nx r2
    | none => .bad)
  | .loc _ => .bad
@[simp] theorem asgK_nm (i : Nat) (d : D) (r : Rho) : asgK (.nm i) (.val d) r = .nx (r.set i (some d)) := rfl
def cAsg (t : Tg) (fa : Ev) : Sv := fun r => (cSet fa r).st (asgK t)
theorem vs_set {i : Nat} {x : Str} {e : Expr} {pos pos' : Pos} (hN : X.N.Nodup) (hi : X.N[i]? = some x) (hx : L2.Loc X.env.scope x) (hp : ∀ p ∈ C.pin, p.1 ≠ i) (he : VE X G C W e fa) (hs : swapsWith e (some (.Name x pos')) pos.line X.env = pure false := by rfl)
    (hf : X.fn x = true ∨ X.env.scope.names.lookup x = some .local := by first | exact .inl rfl | exact .inr rfl | assumption) : VS X G C W (.Assign [.Name x pos'] e pos) (cAsg (.nm i) fa) := by
  refine PS.imp (ps_set hN hi hx (ve_set he) hs hf) fun D s H h => ?_
  obtain ⟨r, T, S, h⟩ := h
  refine oneS (fa := cSet fa) S h fun x v r1 H1 P g => ?_
  cases x with
  | loc i => exact g.elim
  | val d => exact g _ _ (P.1.set hp)

def cAug (i : Nat) (g : G2) (fb : Ev) : Sv := fun r => match r[i]? with
  | some (some d) => if atom d = true then (fb r).st fun y r1 => (g (.val d) y r1).st fun z r2 => match z with
    | .val d' => .nx (r2.set i (some d'))
    | .loc _ => .bad else .bad
  | _ => .bad
theorem vs_aug {i : Nat} {x : Str} {e : Expr} {op : Operator} {g : G2} {pos' pos : Pos} (hN : X.N.Nodup) (hi : X.N[i]? = some x) (hx : L2.Loc X.env.scope x) (hp : ∀ p ∈ C.pin, p.1 ≠ i) (ho : OpS X (inplaceOp op) g) (he : VE X G C W e fb)
    (hf : X.fn x = true ∨ X.env.scope.names.lookup x = some .local := by first | exact .inl rfl | exact .inr rfl | assumption) : VS X G C W (.AugAssign (.Name x pos') op e pos) (cAug i g fb) := by
  obtain ⟨rr, h1, h2⟩ := ho
  refine PS.imp (ps_aug (ti := rr) hN hi hx he h1 hf) fun D s H h => ?_
  obtain ⟨r, T, S, h⟩ := h
  unfold cAug at h
  cases q : r[i]? with
  | none => rw [q] at h; exact h.elim
  | some o =>
    cases o with
    | none => rw [q] at h; exact h.elim
    | some d =>
      rw [q] at h
      simp only at h
      split at h
      · rename_i a
        obtain ⟨ow, S⟩ := S
        obtain ⟨v, q1, q2⟩ := S.sl i d q
        refine ⟨v, q1, ?_⟩
        have S1 : StOk G C r (T ++ [(d, v)]) s H := ⟨ow, S.push (q2.of_atom a)⟩
        refine ⟨r, T ++ [(d, v)], S1, ?_⟩
        cases e : fb r with
        | ok y r1 =>
          rw [e] at h
          simp only [st_ok] at h
          intro u H1 P
          refine h2 G C W r1 T s H1 (.val d) y v u _ (by show StOk G C r1 (T ++ ([(d, v)] ++ pushR y u)) s H1; rw [← List.append_assoc]; exact P.1) trivial P.2 ?_
          cases e2 : g (.val d) y r1 with
          | ok z r2 =>
            rw [e2] at h
            simp only [st_ok] at h
            cases z with
            | loc j => exact h.elim
            | val d' => exact fun w H2 P2 => h _ _ (P2.1.set hp)
          | exc c r2 => rw [e2] at h; exact fun H2 S2 => h s H2 S2
          | bad => rw [e2] at h; exact h.elim
        | exc c r1 => rw [e] at h; exact fun H' S' => h s H' S'.drop
        | bad => rw [e] at h; exact h.elim
      · exact h.elim
def iAdd (d e : D) : Option D := match d, e with
  | .int i, .int j => some (.int (i + j))
  | .str a, .str b => if a.length + b.length ≤ 16777216 then some (.str (a ++ b)) else none
  | _, _ => none
theorem os_iadd : OpS X (inplaceOp .Add) (g2 iAdd) := by
  refine OpS.scal (iop_add.or iop_add_str) fun G ow H d e z l m v u Q h1 h2 e3 q => ?_
  unfold iAdd at e3
  split at e3
  · cases e3
    exact .inl ⟨_, _, h1, h2, q _ fun _ _ => rfl⟩
  · split at e3
    · cases e3
      exact .inr ⟨_, _, h1, h2, by rw [sizeLine_eq]; assumption, q _ fun _ _ => rfl⟩
    · cases e3
  · cases e3

def cRaise (c : Nat) : Sv := fun r => .exc c r
theorem vs_raise {c : Nat} {x m : Str} {j : Nat} {p p2 pos pos' : Pos} (hcm : X.calm = true) (tk : Takes X W) (q : PySem.W.excIn X.K (G c) [.type "ValueError", .type "Exception", .type "BaseException", .type "object"] "ValueError.__new__" = true) (gC : X.mg x = some (.ref (G c))) (kC : PySem.W.keepIn X.K (.ref (G c)) = true)
    (rs : Raises X (.ref (G c))) (hg : Gl X x) (hdb : (x == ("__debug__" : Str)) = false := by decide) : VS X G C W (.Raise (some (.Call (.Name x p) [.Constant (.str m) j p2] [] pos)) none pos') (cRaise c) := by
  refine PS.imp (ps_raise hcm tk (pmk_own PySem.F.excBase_ValueError q gC kC rs hg hdb)) fun D s H h => ?_
  obtain ⟨r, T, S, h⟩ := h
  exact h s H S
end
end VL

namespace VL
open PySem PySem.Spec PyProof.Rows L2
section
variable {X : Cx} {G : GX} {C : Fc} {W : WX} {ow ow' : Ow} {r : Rho} {T T1 T2 : List (D × V)} {s : L2.St} {H H' : Hp} {fa fb fc : Ev} {f g : Sv}

def slid (ow : Ow) (n m : Nat) : Ow := fun a => match ow a with
  | some ⟨.tm j, p⟩ => if j < n then some ⟨.tm j, p⟩ else if j = m then some ⟨.tm n, p⟩ else none
  | x => x
theorem StW.slide {d : D} {v : V} (S : StW G C ow r (T ++ T2 ++ [(d, v)]) s H) : StW G C (slid ow T.length (T.length + T2.length)) r (T ++ [(d, v)]) s H where
  len := S.len
  sl := fun i d q => by
    obtain ⟨v', z1, z2⟩ := S.sl i d q
    refine ⟨v', z1, Rep.mono (l := ⟨.sl i, []⟩) d (fun _ _ z _ => z) (fun _ _ z _ => z) (fun a o _ n => by unfold slid; rw [n]) (fun a o q _ n => ?_) z2⟩
    have n' : ow a = some ⟨.sl i, [] ++ q⟩ := n
    unfold slid
    rw [n']
    rfl
  tm := fun j d' v' q => by
    by_cases hj : j < T.length
    · rw [List.getElem?_append_left hj] at q
      have z := S.tm j d' v' (by rw [List.append_assoc, List.getElem?_append_left hj]; exact q)
      refine Rep.mono (l := ⟨.tm j, []⟩) d' (fun _ _ z _ => z) (fun _ _ z _ => z) (fun a o _ n => by unfold slid; rw [n]) (fun a o q _ n => ?_) z
      have n' : ow a = some ⟨.tm j, [] ++ q⟩ := n
      unfold slid
      rw [n']
      simp [Loc.app, hj]
    · rw [List.getElem?_append_right (by omega)] at q
      have e : j = T.length := by
        have := (List.getElem?_eq_some_iff.mp q).1
        simp at this; omega
      subst e
      simp at q
      obtain ⟨e1, e2⟩ := q
      subst e1; subst e2
      have z := S.tm (T.length + T2.length) d v (by
        rw [List.getElem?_append_right (by simp)]
        simp)
      refine Rep.mono (l := ⟨.tm (T.length + T2.length), []⟩) d (fun _ _ z _ => z) (fun _ _ z _ => z) (fun a o _ n => by unfold slid; rw [n]) (fun a o q _ n => ?_) z
      have n' : ow a = some ⟨.tm (T.length + T2.length), [] ++ q⟩ := n
      have h : ¬ T.length + T2.length < T.length := by omega
      unfold slid
      rw [n']
      simp [Loc.app, h]
  old := S.old
  own := fun a l q => by
    cases e : ow a with
    | none => unfold slid at q; rw [e] at q; cases q
    | some m =>
      obtain ⟨mb, mp⟩ := m
      cases mb with
      | fo =>
        unfold slid at q; rw [e] at q; cases q
        exact .inl rfl
      | sl j => exact (S.own a _ e).elim (fun z => nomatch z) .inr
      | tm j => exact (S.own a _ e).elim (fun z => nomatch z) .inr
  fo := fun a q => by
    have z := S.fo a q
    unfold slid; rw [z]
  mu := fun a l q => by
    cases e : ow a with
    | none => unfold slid at q; rw [e] at q; cases q
    | some m => exact S.mu a m e
  pin := S.pin
  tabs := S.tabs
theorem Post.slide {x : R} {v : V} (P : Post G C r (T ++ T2) s H x v) : Post G C r T s H x v := by
  obtain ⟨⟨ow, S⟩, l⟩ := P
  cases x with
  | val d => exact ⟨⟨_, StW.slide S⟩, l⟩
  | loc i =>
    have S' : StW G C ow r (T ++ T2) s H := by simpa [pushR] using S
    refine ⟨⟨ow, ?_⟩, l⟩
    have z : StW G C ow r T s H := S'.drop
    simpa [pushR] using z

def CurOk (G : GX) (C : Fc) (J : It) (items : List D) (tk : Nat → List (D × V)) : Prop :=
  (∀ (i : Nat) d r T s H, items[i]? = some d → StOk G C r (T ++ tk i) s H → J.go i H ∧ ∀ x H', J.yld i H x H' → StOk G C r (T ++ tk (i + 1) ++ [(d, x)]) s H') ∧
    ∀ r T s H, StOk G C r (T ++ tk items.length) s H → J.stop items.length H
inductive IO where
  | ok (ds : List D) (r : Rho) | exc (c : Nat) (r : Rho) | bad
abbrev Iv := Rho → IO
def tVI (G : GX) (C : Fc) (W : WX) (f : Iv) : TI := fun s H R => ∃ r T, StOk G C r T s H ∧ match f r with
  | .ok ds r' => ∀ J H' tk, CurOk G C J ds tk → StOk G C r' (T ++ tk 0) s H' → R J H'
  | .exc c r' => ∀ H', StOk G C r' T s H' → W (.ref (G c)) none s H'
  | .bad => False
abbrev VI (X : Cx) (G : GX) (C : Fc) (W : WX) (tg e : Expr) (f : Iv) : Prop := PI X tg e (tVI G C W f)
theorem PI.imp {tg e : Expr} {t t' : TI} (h : PI X tg e t) (i : ∀ s H Q, t' s H Q → t s H Q) : PI X tg e t' := ⟨fun pins s σ H R I w => h.run pins s σ H R I (i _ _ _ w)⟩

def forL (t : Tg) (f : Sv) : List D → Rho → SO
  | [], r => .nx r
  | d :: ds, r => match tgt t d r with
    | none => .bad
    | some r1 => (match f r1 with
      | .nx r2 => forL t f ds r2
      | .ct r2 => forL t f ds r2
      | .bk r2 => .nx r2
      | o => o)
def cFor (t : Tg) (fi : Iv) (f : Sv) : Sv := fun r => match fi r with
  | .ok ds r1 => forL t f ds r1
  | .exc c r1 => .exc c r1
  | .bad => .bad
theorem vs_for {tg iter : Expr} {body : List Stmt} {fi : Iv} {t : Tg} {pos : Pos} (hp : PassesOwn (model X.prog X.w) X.A X.env X.xe) (hc : X.calm = true) (hi : VI X G C W tg iter fi) (hg : VG X G C tg t) (hb : VSs X G C W body f)
    (hs : ∀ x, foldedSetIterable iter X.env x = pure x := by intro _; rfl) : VS X G C W (.For tg iter body [] pos) (cFor t fi f) := by
  refine PS.imp (ps_for hp hc hi hg hb hs) fun D s H h => ?_
  obtain ⟨r, T, S, h⟩ := h
  refine ⟨r, T, S, ?_⟩
  unfold cFor at h
  cases e : fi r with
  | exc c r1 => rw [e] at h; exact fun H' S' => h s H' S'
  | bad => rw [e] at h; exact h.elim
  | ok ds r1 =>
    rw [e] at h
    simp only at h
    intro J H1 tk hk S1
    refine ⟨fun i m s' H' => m = ds.length - i ∧ i ≤ ds.length ∧ ∃ r', StOk G C r' (T ++ tk i) s' H' ∧ GoesS G C W T D (forL t f (ds.drop i) r'), ⟨ds.length, by simp, Nat.zero_le _, r1, S1, by simpa using h⟩, ?_⟩
    rintro i m s' H' ⟨rfl, hi', r', S', h'⟩
    by_cases hlt : i < ds.length
    · have ed : ds[i]? = some ds[i] := List.getElem?_eq_getElem hlt
      obtain ⟨k1, k2⟩ := hk.1 i ds[i] r' T s' H' ed S'
      rw [List.drop_eq_getElem_cons hlt] at h'
      refine .inr ⟨k1, fun s2 H2 => ∃ r2, StOk G C r2 (T ++ tk (i + 1)) s2 H2 ∧ GoesS G C W T D (forL t f (ds.drop (i + 1)) r2), fun s2 H2 n2 => ⟨ds.length - (i + 1), by omega, rfl, hlt, n2⟩, fun x H2 y => ?_⟩
      have S2 := k2 x H2 y
      refine ⟨r', T ++ tk (i + 1), ds[i], S2, ?_⟩
      unfold forL at h'
      cases e1 : tgt t ds[i] r' with
      | none => simp only [e1] at h'; exact h'.elim
      | some r2 =>
        simp only [e1] at h' ⊢
        intro s3 H3 S3 _
        refine ⟨r2, T ++ tk (i + 1), S3, ?_⟩
        cases e2 : f r2 with
        | nx r3 => simp only [e2] at h'; exact fun s4 H4 S4 => ⟨r3, S4, h'⟩
        | ct r3 => simp only [e2] at h'; exact fun s4 H4 S4 => ⟨r3, S4, h'⟩
        | bk r3 => simp only [e2] at h'; exact fun s4 H4 S4 => h' s4 H4 S4.drop
        | rt x r3 => simp only [e2] at h'; exact fun s4 v H4 P4 => h' s4 v H4 P4.slide
        | exc c r3 => simp only [e2] at h'; exact fun s4 H4 S4 => h' s4 H4 S4.drop
        | bad => simp only [e2] at h'; exact h'.elim
    · have ei : i = ds.length := by omega
      subst ei
      rw [List.drop_length] at h'
      exact .inl ⟨hk.2 r' T s' H' S', h' s' H' S'.drop⟩

def whileL (ft : Ev) (f : Sv) : Nat → Rho → SO
  | 0, _ => .bad
  | n + 1, r => (ft r).st fun x r1 => match x with
    | .val (.bl true) => (match f r1 with
      | .nx r2 => whileL ft f n r2
      | .ct r2 => whileL ft f n r2
      | .bk r2 => .nx r2
      | o => o)
    | .val (.bl false) => .nx r1
    | _ => .bad
theorem vs_while {c : Expr} {body : List Stmt} {pos : Pos} (n : Nat) (hp : PassesOwn (model X.prog X.w) X.A X.env X.xe) (hc : VT X G C W c fc) (hb : VSs X G C W body f) : VS X G C W (.While c body [] pos) (whileL fc f n) := by
  refine PS.imp (ps_while hp hc hb) fun D s H h => ?_
  obtain ⟨r, T, S, h⟩ := h
  refine ⟨fun m s' H' => ∃ r', StOk G C r' T s' H' ∧ GoesS G C W T D (whileL fc f m r'), ⟨n, r, S, h⟩, ?_⟩
  rintro m s' H' ⟨r', S', h'⟩
  cases m with
  | zero => exact h'.elim
  | succ m =>
    unfold whileL at h'
    refine ⟨r', T, S', ?_⟩
    cases e : fc r' with
    | exc c r1 => rw [e] at h'; exact fun H2 S2 => h' s' H2 S2
    | bad => rw [e] at h'; exact h'.elim
    | ok x r1 =>
      rw [e] at h'
      simp only [st_ok] at h'
      cases x with
      | loc i => exact h'.elim
      | val d =>
        cases d with
        | bl b =>
          cases b with
          | false => exact fun H2 S2 => (if_neg Bool.false_ne_true).mpr (h' s' H2 S2)
          | true =>
            refine fun H2 S2 => (if_pos rfl).mpr ⟨fun s3 H3 => ∃ r3, StOk G C r3 T s3 H3 ∧ GoesS G C W T D (whileL fc f m r3), fun s3 H3 n3 => ⟨m, Nat.lt_succ_self m, n3⟩, r1, T, S2, ?_⟩
            simp only at h'
            cases e2 : f r1 with
            | nx r3 => simp only [e2] at h'; exact fun s4 H4 S4 => ⟨r3, S4, h'⟩
            | ct r3 => simp only [e2] at h'; exact fun s4 H4 S4 => ⟨r3, S4, h'⟩
            | bk r3 => simp only [e2] at h'; exact fun s4 H4 S4 => h' s4 H4 S4
            | rt x r3 => simp only [e2] at h'; exact fun s4 v H4 P4 => h' s4 v H4 P4
            | exc c r3 => simp only [e2] at h'; exact fun s4 H4 S4 => h' s4 H4 S4
            | bad => simp only [e2] at h'; exact h'.elim
        | _ => exact h'.elim

def takenAt (ow : Ow) (n i : Nat) : Ow := fun a => match ow a with
  | some ⟨.tm j, p⟩ => if j = n then (match p with
    | k :: p' => if k = i then some ⟨.tm (n + 1), p'⟩ else some ⟨.tm j, p⟩
    | [] => some ⟨.tm j, p⟩) else some ⟨.tm j, p⟩
  | x => x
def leftAt (ds : List D) (i : Nat) : List D := List.replicate i .any ++ ds.drop i
theorem leftAt_get {ds : List D} {i j : Nat} (hi : i ≤ ds.length) : (leftAt ds i)[j]? = if j < i then some .any else ds[j]? := by
  unfold leftAt
  by_cases h : j < i
  · rw [if_pos h, List.getElem?_append_left (by simpa using h)]
    simp [h]
  · rw [if_neg h, List.getElem?_append_right (by simp; omega), List.length_replicate, List.getElem?_drop]
    congr 1; omega
theorem leftAt_length {ds : List D} {i : Nat} (hi : i ≤ ds.length) : (leftAt ds i).length = ds.length := by
  unfold leftAt; simp; omega
theorem StW.take1 {k : Kd} {o : Bool} {ds : List D} {i : Nat} {d : D} {v : V} (S : StW G C ow r (T ++ [(.node k o (leftAt ds i), v)]) s H) (hd : ds[i]? = some d) :
    ∃ a vs x, v = .ref a ∧ Holds G H a k vs ∧ vs[i]? = some x ∧ StW G C (takenAt ow T.length i) r (T ++ [(.node k o (leftAt ds (i + 1)), v)] ++ [(d, x)]) s H := by
  have hi : i < ds.length := (List.getElem?_eq_some_iff.mp hd).1
  obtain ⟨a, vs, ev, h1, h2, h3⟩ := S.last
  have hl := h3.length
  rw [leftAt_length (by omega)] at hl
  obtain ⟨x, x1, x2⟩ := h3.get i d (by rw [leftAt_get (by omega), if_neg (by omega)]; exact hd)
  refine ⟨a, vs, x, ev, h1, x1, S.len, fun i' d q => ?_, fun j d' v' q => ?_, S.old, fun b l q => ?_, fun b q => ?_, fun b l q => ?_, S.pin, S.tabs⟩
  · obtain ⟨v', z1, z2⟩ := S.sl i' d q
    refine ⟨v', z1, Rep.mono (l := ⟨.sl i', []⟩) d (fun _ _ z _ => z) (fun _ _ z _ => z) (fun a o _ n => by unfold takenAt; rw [n]) (fun a o q _ n => ?_) z2⟩
    have n' : ow a = some ⟨.sl i', [] ++ q⟩ := n
    unfold takenAt
    rw [n']
    rfl
  · by_cases hj : j < T.length
    · rw [List.append_assoc, List.getElem?_append_left hj] at q
      have z := S.tm j d' v' (by rw [List.getElem?_append_left hj]; exact q)
      refine Rep.mono (l := ⟨.tm j, []⟩) d' (fun _ _ z _ => z) (fun _ _ z _ => z) (fun a o _ n => by unfold takenAt; rw [n]) (fun a o q _ n => ?_) z
      have n' : ow a = some ⟨.tm j, [] ++ q⟩ := n
      unfold takenAt
      rw [n']
      have : ¬ j = T.length := by omega
      simp [Loc.app, this]
    · rw [List.append_assoc, List.getElem?_append_right (by omega)] at q
      rcases (show j - T.length = 0 ∨ j - T.length = 1 by
        have := (List.getElem?_eq_some_iff.mp q).1
        simp at this; omega) with e | e
      · rw [e] at q
        simp at q
        obtain ⟨e1, e2⟩ := q
        subst e1; subst e2
        have ej : j = T.length := by omega
        subst ej
        refine ⟨a, vs, ev, h1, ?_, Reps.of_get (by rw [leftAt_length (by omega)]; exact hl) fun m dm vm q1 q2 => ?_⟩
        · rcases h2.cases with hk | h2
          · exact .ofR hk
          refine .mk ?_
          cases o with
          | true =>
            have n' : ow a = some ⟨.tm T.length, []⟩ := by simpa using h2
            unfold takenAt; rw [n']; simp
          | false =>
            have n' : ow a = none := by simpa using h2
            unfold takenAt; rw [n']; simp
        · rw [leftAt_get (by omega)] at q1
          by_cases hm : m < i + 1
          · rw [if_pos hm] at q1
            cases q1
            trivial
          · rw [if_neg hm] at q1
            obtain ⟨vm', z1, z2⟩ := h3.get m dm (by rw [leftAt_get (by omega), if_neg (by omega)]; exact q1)
            rw [q2] at z1
            cases z1
            refine Rep.mono (l := Loc.sub ⟨.tm T.length, []⟩ (0 + m)) dm (fun _ _ z _ => z) (fun _ _ z _ => z) (fun a o _ n => by unfold takenAt; rw [n]) (fun a o q _ n => ?_) z2
            have n' : ow a = some ⟨.tm T.length, m :: q⟩ := by rw [n]; simp [Loc.sub, Loc.app]
            unfold takenAt
            rw [n']
            have : ¬ m = i := by omega
            simp [Loc.app, Loc.sub, this]
      · rw [e] at q
        simp at q
        obtain ⟨e1, e2⟩ := q
        subst e1; subst e2
        have ej : j = T.length + 1 := by omega
        subst ej
        refine Rep.mono (l := Loc.sub ⟨.tm T.length, []⟩ (0 + i)) d (fun _ _ z _ => z) (fun _ _ z _ => z) (fun a o _ n => by unfold takenAt; rw [n]) (fun a o q _ n => ?_) x2
        have n' : ow a = some ⟨.tm T.length, i :: q⟩ := by rw [n]; simp [Loc.sub, Loc.app]
        unfold takenAt
        rw [n']
        simp [Loc.app]
  · cases e : ow b with
    | none => unfold takenAt at q; rw [e] at q; cases q
    | some m =>
      obtain ⟨mb, mp⟩ := m
      cases mb with
      | fo =>
        unfold takenAt at q; rw [e] at q; cases q
        exact .inl rfl
      | sl j => exact (S.own b _ e).elim (fun z => nomatch z) .inr
      | tm j => exact (S.own b _ e).elim (fun z => nomatch z) .inr
  · have z := S.fo b q
    unfold takenAt; rw [z]
  · cases e : ow b with
    | none => unfold takenAt at q; rw [e] at q; cases q
    | some m => exact S.mu b m e
theorem leftAt_zero (ds : List D) : leftAt ds 0 = ds := by unfold leftAt; simp
theorem cur_seq {K : PySem.W.Frag} {k : Kd} {o : Bool} {ds : List D} {a : Addr} (hk : ∀ H vs, Holds G H a k vs → SqL K H a vs) : CurOk G C (Itl K a) ds fun i => [(.node k o (leftAt ds i), .ref a)] := by
  refine ⟨fun i d r T s H hd S => ?_, fun r T s H S => ?_⟩
  · obtain ⟨ow, S⟩ := S
    obtain ⟨a', vs, x, ev, h1, hx, S'⟩ := S.take1 hd
    cases ev
    refine ⟨⟨vs, x, hk H vs h1, hx⟩, fun x' H' y => ?_⟩
    obtain ⟨e, y⟩ := y
    subst e
    have e2 := y vs (hk _ vs h1)
    rw [hx] at e2
    cases e2
    exact ⟨_, S'⟩
  · obtain ⟨ow, S⟩ := S
    obtain ⟨a', vs, ev, h1, h2, h3⟩ := S.last
    cases ev
    refine ⟨vs, hk H vs h1, ?_⟩
    rw [← h3.length, leftAt_length (Nat.le_refl _)]
    exact Nat.le_refl _
theorem cur_tup {K : PySem.W.Frag} {k : Kd} {o : Bool} {ds : List D} {a : Addr} (hk : ∀ H vs, Holds G H a k vs → SqT K H a vs) : CurOk G C (Itt K a) ds fun i => [(.node k o (leftAt ds i), .ref a)] := by
  refine ⟨fun i d r T s H hd S => ?_, fun r T s H S => ?_⟩
  · obtain ⟨ow, S⟩ := S
    obtain ⟨a', vs, x, ev, h1, hx, S'⟩ := S.take1 hd
    cases ev
    refine ⟨⟨vs, x, hk H vs h1, hx⟩, fun x' H' y => ?_⟩
    obtain ⟨e, y⟩ := y
    subst e
    have e2 := y vs (hk _ vs h1)
    rw [hx] at e2
    cases e2
    exact ⟨_, S'⟩
  · obtain ⟨ow, S⟩ := S
    obtain ⟨a', vs, ev, h1, h2, h3⟩ := S.last
    cases ev
    refine ⟨vs, hk H vs h1, ?_⟩
    rw [← h3.length, leftAt_length (Nat.le_refl _)]
    exact Nat.le_refl _
def iLst (fa : Ev) : Iv := fun r => match cSet fa r with
  | .ok (.val (.node .lst _ ds)) r1 => .ok ds r1
  | .ok (.val (.node .rd _ ds)) r1 => .ok ds r1
  | .exc c r1 => .exc c r1
  | _ => .bad
theorem vi_list {tg e : Expr} (hK : G.K = X.K) (he : VE X G C W e fa) : VI X G C W tg e (iLst fa) := by
  refine PI.imp (pi_list (ve_set he)) fun s H R h => ?_
  obtain ⟨r, T, S, h⟩ := h
  refine ⟨r, T, S, ?_⟩
  unfold iLst at h
  cases e1 : cSet fa r with
  | exc c r1 => rw [e1] at h; exact h
  | bad => rw [e1] at h; exact h
  | ok x r1 =>
    rw [e1] at h
    intro v H' P
    split at h
    · rename_i ds r' e'
      split at e'
      · rename_i o ds' r'' e''
        cases e'; cases e''
        obtain ⟨ow, S'⟩ := P.1
        obtain ⟨a, vs, ev, h1, h2, h3⟩ := S'.last
        subst ev
        refine ⟨a, rfl, ⟨vs, SqL.of h1⟩, h _ _ _ (cur_seq (k := .lst) (o := o) fun _ _ z => SqL.of z) ?_⟩
        rw [leftAt_zero]
        exact ⟨ow, S'⟩
      · rename_i o ds' r'' e''
        cases e'; cases e''
        obtain ⟨ow, S'⟩ := P.1
        obtain ⟨a, vs, ev, h1, h2, h3⟩ := S'.last
        subst ev
        refine ⟨a, rfl, ⟨vs, hK ▸ h1.seq⟩, h _ _ _ (cur_seq (k := .rd) (o := o) fun _ _ z => hK ▸ z.seq) ?_⟩
        rw [leftAt_zero]
        exact ⟨ow, S'⟩
      · rename_i e''; cases e''
      · cases e'
    · rename_i c r' e'
      split at e'
      · cases e'
      · cases e'
      · rename_i e''; cases e''
      · cases e'
    · exact h.elim
def iTpl (fa : Ev) : Iv := fun r => match cSet fa r with
  | .ok (.val (.node .tup _ ds)) r1 => .ok ds r1
  | .exc c r1 => .exc c r1
  | _ => .bad
theorem vi_tup {tg e : Expr} (he : VE X G C W e fa) : VI X G C W tg e (iTpl fa) := by
  refine PI.imp (pi_tup (ve_set he)) fun s H R h => ?_
  obtain ⟨r, T, S, h⟩ := h
  refine ⟨r, T, S, ?_⟩
  unfold iTpl at h
  cases e1 : cSet fa r with
  | exc c r1 => rw [e1] at h; exact h
  | bad => rw [e1] at h; exact h
  | ok x r1 =>
    rw [e1] at h
    intro v H' P
    split at h
    · rename_i ds r' e'
      split at e'
      · rename_i o ds' r'' e''
        cases e'; cases e''
        obtain ⟨ow, S'⟩ := P.1
        obtain ⟨a, vs, ev, h1, h2, h3⟩ := S'.last
        subst ev
        refine ⟨a, rfl, ⟨vs, SqT.of h1⟩, h _ _ _ (cur_tup (k := .tup) (o := o) fun _ _ z => SqT.of z) ?_⟩
        rw [leftAt_zero]
        exact ⟨ow, S'⟩
      · rename_i e''; cases e''
      · cases e'
    · rename_i c r' e'
      split at e'
      · cases e'
      · rename_i e''; cases e''
      · cases e'
    · exact h.elim
end
end VL

namespace VL
open PySem PySem.Spec PyProof.Rows L2
section
variable {X : Cx} {G : GX} {C : Fc} {W : WX} {ow ow' : Ow} {r : Rho} {T T1 T2 : List (D × V)} {s : L2.St} {H H' : Hp} {fa fb fc : Ev} {f g : Sv} {fs : Av}

def rngD (lo c : Int) (n : Nat) : List D := (List.range n).map fun i => .int (lo + (i : Nat) * c)
theorem rngD_get {lo c : Int} {n i : Nat} {d : D} (h : (rngD lo c n)[i]? = some d) : i < n ∧ d = .int (lo + (i : Nat) * c) := by
  unfold rngD at h
  rw [List.getElem?_map] at h
  cases e : (List.range n)[i]? with
  | none => rw [e] at h; cases h
  | some j =>
    rw [e] at h
    cases h
    obtain ⟨h1, h2⟩ := List.getElem?_eq_some_iff.mp e
    simp at h1 h2
    subst h2
    exact ⟨h1, rfl⟩
theorem rngD_length (lo c : Int) (n : Nat) : (rngD lo c n).length = n := by simp [rngD]
theorem cur_rng {lo : Int} {n : Nat} : CurOk G C (Itr lo n) (rngD lo 1 n) fun _ => [] := by
  refine ⟨fun i d r T s H hd S => ?_, fun r T s H S => by rw [rngD_length]; exact Nat.le_refl n⟩
  obtain ⟨h1, h2⟩ := rngD_get hd
  subst h2
  refine ⟨h1, fun x H' y => ?_⟩
  obtain ⟨e, y⟩ := y
  subst e; subst y
  rw [Int.mul_one]
  exact S.pushI _
theorem cur_rngC {lo c : Int} {n : Nat} : CurOk G C (Itc lo c n) (rngD lo c n) fun _ => [] := by
  refine ⟨fun i d r T s H hd S => ?_, fun r T s H S => by rw [rngD_length]; exact Nat.le_refl n⟩
  obtain ⟨h1, h2⟩ := rngD_get hd
  subst h2
  refine ⟨h1, fun x H' y => ?_⟩
  obtain ⟨e, y⟩ := y
  subst e; subst y
  exact S.pushI _
def within (i : Int) : Bool := decide (i.natAbs < 2 ^ 62)
theorem within_of {i : Int} (h : within i = true) : -(2 ^ 62) ≤ i ∧ i < 2 ^ 62 := by
  have h : i.natAbs < 2 ^ 62 := of_decide_eq_true h
  omega
def turns (i j c : Int) : Nat := (Builtin.Range.rangeSize i j c).toNat
def rngI1 (r : Rho) (xs : List R) : IO := match opds r xs with
  | some [.int j] => if within j = true then .ok (rngD 0 1 j.toNat) r else .bad
  | _ => .bad
def rngI2 (r : Rho) (xs : List R) : IO := match opds r xs with
  | some [.int i, .int j] => if (within i && within j) = true then .ok (rngD i 1 (j - i).toNat) r else .bad
  | _ => .bad
def rngI3 (r : Rho) (xs : List R) : IO := match opds r xs with
  | some [.int i, .int j, .int c] => if (decide (c ≠ 0) && decide (c.natAbs < 1073741824) && Builtin.Range.small i j c) = true then .ok (rngD i c (turns i j c)) r else .bad
  | _ => .bad
def iRng (g : Rho → List R → IO) (fs : Av) : Iv := fun r => match fs r with
  | .ok xs r1 => g r1 xs
  | .exc c r1 => .exc c r1
  | .bad => .bad
theorem opds_reps : ∀ {xs : List R} {vs : List V} {T : List (D × V)} {ds : List D}, StW G C ow r (T ++ pushs xs vs) s H → LocsOk s xs vs → opds r xs = some ds → ds.all atom = true → ∀ l i, Reps G ow H ds l i vs
  | [], [], _, ds, _, _, e, _, l, i => by cases e; exact rfl
  | [], _ :: _, _, _, _, l, _, _, _, _ => l.elim
  | _ :: _, [], _, _, _, l, _, _, _, _ => l.elim
  | x :: xs, v :: vs, T, ds, S, l, e, a, l', i => by
    unfold opds at e
    cases e1 : opd r x with
    | none => rw [e1] at e; cases e
    | some d =>
      cases e2 : opds r xs with
      | none => rw [e1, e2] at e; cases e
      | some ds' =>
        rw [e1, e2] at e
        cases e
        rw [List.all_cons, Bool.and_eq_true] at a
        have S' : StW G C ow r (T ++ (pushR x v ++ pushs xs vs)) s H := S
        exact ⟨v, vs, rfl, (opd_rep S' l.1 e1).of_atom a.1, opds_reps (T := T ++ pushR x v) (by rw [List.append_assoc]; exact S') l.2 e2 a.2 l' (i + 1)⟩
def GoesI (G : GX) (C : Fc) (W : WX) (T : List (D × V)) (s : L2.St) (R : It → Hp → Prop) (o : IO) : Prop := match o with
  | .ok ds r' => ∀ J H' tk, CurOk G C J ds tk → StOk G C r' (T ++ tk 0) s H' → R J H'
  | .exc c r' => ∀ H', StOk G C r' T s H' → W (.ref (G c)) none s H'
  | .bad => False
theorem tV_rng {gg : Rho → List R → IO} {R : It → Hp → Prop} {K : List V → Hp → Prop} (S : StOk G C r T s H) (h : GoesI G C W T s R (iRng gg fs r)) (hk : ∀ xs vs r1 H1, StOk G C r1 (T ++ pushs xs vs) s H1 → LocsOk s xs vs → GoesI G C W T s R (gg r1 xs) → K vs H1) : tVA G C W fs s H K := by
  refine ⟨r, T, S, ?_⟩
  unfold iRng at h
  cases e : fs r with
  | ok xs r1 => rw [e] at h; exact fun vs H1 S1 l1 => hk xs vs r1 H1 S1 l1 h
  | exc c r1 => rw [e] at h; exact h
  | bad => rw [e] at h; exact h
theorem vi_range1 {tg a : Expr} {p pos : Pos} (hg : Gl X "range") (hm : X.mg "range" = none) (ha : VA X G C W [a] fs) (hs : starEach [a] X.env = [(false, eval a X.env)] := by rfl) : VI X G C W tg (.Call (.Name "range" p) [a] [] pos) (iRng rngI1 fs) := by
  refine PI.imp (pi_range1 hg hm ha hs) fun s H R h => ?_
  obtain ⟨r, T, S, h⟩ := h
  refine tV_rng S h fun xs vs r1 H1 S1 l1 g => ?_
  obtain ⟨ow, S1⟩ := S1
  unfold rngI1 at g
  split at g
  · rename_i j e1
    split at g
    · rename_i hw
      obtain ⟨v, ws, ev, h1, h2⟩ := opds_reps S1 l1 e1 rfl ⟨.fo, []⟩ 0
      have e2 : ws = [] := h2
      subst e2
      obtain ⟨w1, w2⟩ := within_of hw
      exact ⟨j, by rw [ev, rep_int h1], w1, w2, g _ _ _ cur_rng ⟨ow, by simpa using S1.drop⟩⟩
    · exact g.elim
  · exact g.elim
theorem vi_range2 {tg a b : Expr} {p pos : Pos} (hg : Gl X "range") (hm : X.mg "range" = none) (ha : VA X G C W [a, b] fs) (hs : starEach [a, b] X.env = [(false, eval a X.env), (false, eval b X.env)] := by rfl) (hs2 : starEach [b] X.env = [(false, eval b X.env)] := by rfl) : VI X G C W tg (.Call (.Name "range" p) [a, b] [] pos) (iRng rngI2 fs) := by
  refine PI.imp (pi_range2 hg hm ha hs hs2) fun s H R h => ?_
  obtain ⟨r, T, S, h⟩ := h
  refine tV_rng S h fun xs vs r1 H1 S1 l1 g => ?_
  obtain ⟨ow, S1⟩ := S1
  unfold rngI2 at g
  split at g
  · rename_i i j e1
    split at g
    · rename_i hw
      obtain ⟨v, ws, ev, h1, v2, ws2, ev2, h2, h3⟩ := opds_reps S1 l1 e1 rfl ⟨.fo, []⟩ 0
      have e2 : ws2 = [] := h3
      subst e2
      rw [Bool.and_eq_true] at hw
      obtain ⟨w1, w2⟩ := within_of hw.1
      obtain ⟨w3, w4⟩ := within_of hw.2
      exact ⟨i, j, by rw [ev, ev2, rep_int h1, rep_int h2], ⟨w1, w2, w3, w4⟩, g _ _ _ cur_rng ⟨ow, by simpa using S1.drop⟩⟩
    · exact g.elim
  · exact g.elim
theorem rangeSize_nonneg (i j c : Int) : 0 ≤ Builtin.Range.rangeSize i j c ∨ c = 0 := by
  by_cases h0 : c = 0
  · exact .inr h0
  · refine .inl ?_
    unfold Builtin.Range.rangeSize
    split
    · split
      · have := Int.ediv_nonneg (show (0 : Int) ≤ j - i - 1 by omega) (show (0 : Int) ≤ c by omega)
        omega
      · omega
    · split
      · have := Int.ediv_nonneg (show (0 : Int) ≤ i - j - 1 by omega) (show (0 : Int) ≤ -c by omega)
        omega
      · omega
theorem vi_range3 {tg a b c : Expr} {p pos : Pos} (hg : Gl X "range") (hm : X.mg "range" = none) (ha : VA X G C W [a, b, c] fs)
    (hs : starEach [a, b, c] X.env = (false, eval a X.env) :: starEach [b, c] X.env := by rfl) (hpl : (backTo pos (starEach [b, c] X.env)).any (·.1) = false := by rfl) : VI X G C W tg (.Call (.Name "range" p) [a, b, c] [] pos) (iRng rngI3 fs) := by
  refine PI.imp (pi_range3 hg hm ha hs hpl) fun s H R h => ?_
  obtain ⟨r, T, S, h⟩ := h
  refine tV_rng S h fun xs vs r1 H1 S1 l1 g => ?_
  obtain ⟨ow, S1⟩ := S1
  unfold rngI3 at g
  split at g
  · rename_i i j c e1
    split at g
    · rename_i hw
      obtain ⟨v, ws, ev, h1, v2, ws2, ev2, h2, v3, ws3, ev3, h3, h4⟩ := opds_reps S1 l1 e1 rfl ⟨.fo, []⟩ 0
      have e2 : ws3 = [] := h4
      subst e2
      simp only [Bool.and_eq_true, decide_eq_true_eq] at hw
      obtain ⟨⟨c0, c1⟩, c2⟩ := hw
      have nn : 0 ≤ Builtin.Range.rangeSize i j c := (rangeSize_nonneg i j c).elim id fun z => absurd z c0
      exact ⟨i, j, c, turns i j c, by rw [ev, ev2, ev3, rep_int h1, rep_int h2, rep_int h3], ⟨c0, c1, c2, by unfold turns; omega⟩, g _ _ _ cur_rngC ⟨ow, by simpa using S1.drop⟩⟩
    · exact g.elim
  · exact g.elim

def W0 : WX := fun _ _ _ _ => False
def wipeR (r : Rho) : List Nat → Rho
  | [] => r
  | v :: vs => (wipeR r vs).set v none
inductive LO where
  | ok (acc : List D) (r : Rho) | bad
def tstR (fc : Option Ev) : Ev := fun r => match fc with
  | none => .ok (.val (.bl true)) r
  | some f => f r
def lcL (t : Tg) (fc : Option Ev) (fe : Ev) (vs : List Nat) : List D → List D → Rho → LO
  | [], acc, r => .ok acc r
  | d :: ds, acc, r => match tgt t d r with
    | none => .bad
    | some r1 => (match tstR fc r1 with
      | .ok (.val (.bl true)) r2 => (match cSet fe r2 with
        | .ok (.val e) r3 => if acc.length < 16777216 then lcL t fc fe vs ds (acc ++ [e]) (wipeR r3 vs) else .bad
        | _ => .bad)
      | .ok (.val (.bl false)) r2 => lcL t fc fe vs ds acc (wipeR r2 vs)
      | _ => .bad)
def backR (r0 r : Rho) : List Nat → Rho
  | [] => r
  | v :: vs => (backR r0 r vs).set v (match r0[v]? with
    | some (some d) => if atom d = true then (match d with
      | .exc _ => none
      | .any => none
      | d => some d) else none
    | _ => none)
def cLc (vs : List Nat) (t : Tg) (fi : Iv) (fc : Option Ev) (fe : Ev) : Ev := fun r => match fi r with
  | .ok ds r1 => (match lcL t fc fe vs ds [] (wipeR r1 vs) with
    | .ok acc r2 => .ok (.val (.node .lst true acc)) (backR r1 r2 vs)
    | .bad => .bad)
  | .exc c r1 => .exc c r1
  | .bad => .bad
theorem StW.wipes (S : StW G C ow r T s H) : ∀ {vs : List Nat}, (∀ p ∈ C.pin, p.1 ∉ vs) → StW G C ow (wipeR r vs) T (wipe s vs) H
  | [], _ => S
  | v :: vs, hp => by
    have S' := S.wipes (vs := vs) fun p hm z => hp p hm (List.mem_cons_of_mem _ z)
    have hv : ∀ p ∈ C.pin, p.1 ≠ v := fun p hm e => hp p hm (by rw [e]; exact List.mem_cons_self)
    show StW G C ow ((wipeR r vs).set v none) T ((wipe s vs).set v none) H
    refine ⟨by simpa using S'.len, fun j d q => ?_, S'.tm, S'.old, S'.own, S'.fo, S'.mu, fun p hm => ?_, S'.tabs⟩
    · by_cases hj : j = v
      · subst hj
        by_cases hlt : j < (wipeR r vs).length
        · rw [List.getElem?_set_self hlt] at q; cases q
        · rw [List.getElem?_eq_none (by simpa using hlt)] at q; cases q
      · rw [List.getElem?_set_ne (Ne.symm hj)] at q
        obtain ⟨v', h1, h2⟩ := S'.sl j d q
        exact ⟨v', by rw [List.getElem?_set_ne (Ne.symm hj)]; exact h1, h2⟩
    · rw [List.getElem?_set_ne (Ne.symm (hv p hm))]
      exact S'.pin p hm
theorem wipe_out' {s : L2.St} {i : Nat} : ∀ {vs : List Nat}, i ∉ vs → (wipe s vs)[i]? = s[i]?
  | [], _ => rfl
  | v :: vs, h => by
    have h1 : v ≠ i := fun e => h (by rw [e]; exact List.mem_cons_self)
    have h2 : i ∉ vs := fun m => h (List.mem_cons_of_mem _ m)
    unfold wipe
    rw [List.getElem?_set_ne h1]
    exact wipe_out' h2
theorem wipe_in {s : L2.St} {i : Nat} (hi : i < s.length) : ∀ {vs : List Nat}, i ∈ vs → (wipe s vs)[i]? = some none
  | v :: vs, h => by
    unfold wipe
    by_cases hv : v = i
    · subst hv
      rw [List.getElem?_set_self (by rw [wipe_length]; exact hi)]
    · rw [List.getElem?_set_ne hv]
      exact wipe_in hi ((List.mem_cons.mp h).resolve_left (fun e => hv e.symm))
theorem wipe_but {is vs : List Nat} {s s' : L2.St} (b : But is (wipe s vs) s') (h : ∀ i ∈ is, i ∈ vs) : wipe s' vs = wipe s vs := by
  apply List.ext_getElem?
  intro j
  by_cases hj : j ∈ vs
  · by_cases hlt : j < s.length
    · rw [wipe_in hlt hj, wipe_in (by rw [b.1, wipe_length]; exact hlt) hj]
    · rw [List.getElem?_eq_none (by rw [wipe_length, b.1, wipe_length]; omega), List.getElem?_eq_none (by rw [wipe_length]; omega)]
  · rw [wipe_out' hj, b.2 j (fun z => hj (h j z))]
theorem StW.back {r0 : Rho} {T0 : List (D × V)} {ow0 : Ow} {H0 : Hp} {vs : List Nat} (S0 : StW G C ow0 r0 T0 s H0) (S : StW G C ow (wipeR r vs) T (wipe s vs) H) : StW G C ow (backR r0 (wipeR r vs) vs) T s H := by
  have blen : ∀ ws : List Nat, (backR r0 (wipeR r vs) ws).length = (wipeR r vs).length := by
    intro ws
    induction ws with
    | nil => rfl
    | cons w ws ih => unfold backR; rw [List.length_set, ih]
  have bget : ∀ (ws : List Nat) (j : Nat) (d : D), (backR r0 (wipeR r vs) ws)[j]? = some (some d) → (wipeR r vs)[j]? = some (some d) ∨ (r0[j]? = some (some d) ∧ atom d = true ∧ (∀ c, d ≠ .exc c) ∧ d ≠ .any) := by
    intro ws
    induction ws with
    | nil => exact fun j d q => .inl q
    | cons w ws ih =>
      intro j d q
      unfold backR at q
      by_cases hj : w = j
      · subst hj
        by_cases hlt : w < (backR r0 (wipeR r vs) ws).length
        · rw [List.getElem?_set_self hlt] at q
          have q := Option.some.inj q
          split at q
          · rename_i d' e
            split at q
            · rename_i a
              split at q
              · cases q
              · cases q
              · rename_i n1 n2
                cases q
                exact .inr ⟨e, a, fun c z => n1 c z, fun z => n2 z⟩
            · cases q
          · cases q
        · rw [List.getElem?_eq_none (by simpa using hlt)] at q; cases q
      · rw [List.getElem?_set_ne hj] at q
        exact ih j d q
  refine ⟨by rw [blen, S.len, wipe_length], fun j d q => ?_, S.tm, S.old, S.own, S.fo, S.mu, fun p hm => ?_, S.tabs⟩
  · rcases bget vs j d q with q | ⟨q, a, n1, n2⟩
    · obtain ⟨v, h1, h2⟩ := S.sl j d q
      exact ⟨v, (wipe_some h1).1, h2⟩
    · obtain ⟨v, h1, h2⟩ := S0.sl j d q
      refine ⟨v, h1, ?_⟩
      cases d with
      | any => exact absurd rfl n2
      | exc c => exact absurd rfl (n1 c)
      | node k o xs => cases a
      | _ => exact h2
  · exact (wipe_some (S.pin p hm)).1
def appAt (ow : Ow) (n k : Nat) : Ow := fun a => match ow a with
  | some ⟨.tm j, p⟩ => if j = n + 1 then some ⟨.tm n, k :: p⟩ else some ⟨.tm j, p⟩
  | x => x
theorem StW.appT {acc : List D} {d : D} {a : Addr} {v : V} (S : StW G C ow r (T ++ [(.node .lst true acc, .ref a), (d, v)]) s H) : ∃ vs, H a = some (.lst vs) ∧ vs.length = acc.length ∧ StW G C (appAt ow T.length acc.length) r (T ++ [(.node .lst true (acc ++ [d]), .ref a)]) s (upd H a (.lst (vs ++ [v]))) := by
  have z0 := S.tm T.length (.node .lst true acc) (.ref a) (by simp)
  obtain ⟨a', vs, ev, h1, h2, h3⟩ := z0
  cases ev
  have h1 : H a = some (.lst vs) := h1
  have h2 : ow a = some ⟨.tm T.length, []⟩ := by simpa [OwnAt] using h2
  have zd := S.tm (T.length + 1) d v (by rw [List.getElem?_append_right (by omega)]; simp)
  have ne : ∀ (b : Addr) (l : Loc) (q : List Nat), ow b = none ∨ (∃ q, ow b = some (l.app q)) → l.b ≠ .tm T.length ∨ l.p ≠ [] → b ≠ a := fun b l _ hb hl e => by
    subst e
    rw [h2] at hb
    rcases hb with hb | ⟨q, hb⟩
    · cases hb
    · have hb := Option.some.inj hb
      unfold Loc.app at hb
      injection hb with e1 e2
      rcases hl with hl | hl
      · exact hl e1.symm
      · exact hl (List.append_eq_nil_iff.mp e2.symm).1
  have exn : ∀ (b : Addr) (o : HO), H b = some o → ¬ OwnO (some o) → upd H a (.lst (vs ++ [v])) b = some o := fun b o z n => by
    rw [upd_ne (fun e => by rw [e, h1] at z; cases z; exact n trivial)]; exact z
  refine ⟨vs, h1, h3.length.symm, S.len, fun i d' q => ?_, fun j d' v' q => ?_, fun b o n q => ?_, fun b l q => ?_, fun b q => ?_, fun b l q => ?_, S.pin, tabs_own S.tabs h1 trivial⟩
  · obtain ⟨v', z1, z2⟩ := S.sl i d' q
    refine ⟨v', z1, Rep.mono (l := ⟨.sl i, []⟩) d' (fun b o z y => by rw [upd_ne (ne b ⟨.sl i, []⟩ [] y (.inl (fun z => nomatch z)))]; exact .inl z) (fun b o z n => exn b o z n) (fun a o _ n => by unfold appAt; rw [n]) (fun a o q _ n => ?_) z2⟩
    have n' : ow a = some ⟨.sl i, [] ++ q⟩ := n
    unfold appAt
    rw [n']
    rfl
  · by_cases hj : j < T.length
    · rw [List.getElem?_append_left hj] at q
      have z := S.tm j d' v' (by rw [List.getElem?_append_left hj]; exact q)
      refine Rep.mono (l := ⟨.tm j, []⟩) d' (fun b o z y => by rw [upd_ne (ne b ⟨.tm j, []⟩ [] y (.inl (fun z => by injection z with z; omega)))]; exact .inl z) (fun b o z n => exn b o z n) (fun a o _ n => by unfold appAt; rw [n]) (fun a o q _ n => ?_) z
      have n' : ow a = some ⟨.tm j, [] ++ q⟩ := n
      unfold appAt
      rw [n']
      have : ¬ j = T.length + 1 := by omega
      simp [Loc.app, this]
    · rw [List.getElem?_append_right (by omega)] at q
      have e : j = T.length := by
        have := (List.getElem?_eq_some_iff.mp q).1
        simp at this; omega
      subst e
      simp at q
      obtain ⟨e1, e2⟩ := q
      subst e1; subst e2
      refine ⟨a, vs ++ [v], rfl, upd_same, .mk ?_, Reps.of_get (by simp [h3.length]) fun m dm vm q1 q2 => ?_⟩
      · unfold appAt; rw [h2]; simp
      · by_cases hm : m < acc.length
        · rw [List.getElem?_append_left hm] at q1
          rw [List.getElem?_append_left (by rw [← h3.length]; exact hm)] at q2
          obtain ⟨vm', y1, y2⟩ := h3.get m dm q1
          rw [q2] at y1
          cases y1
          refine Rep.mono (l := Loc.sub ⟨.tm T.length, []⟩ (0 + m)) dm (fun b o z y => by rw [upd_ne (ne b (Loc.sub ⟨.tm T.length, []⟩ (0 + m)) [] y (.inr (by simp [Loc.sub])))]; exact .inl z) (fun b o z n => exn b o z n) (fun a o _ n => by unfold appAt; rw [n]) (fun a o q _ n => ?_) y2
          have n' : ow a = some ⟨.tm T.length, m :: q⟩ := by rw [n]; simp [Loc.sub, Loc.app]
          unfold appAt
          rw [n']
          simp [Loc.app, Loc.sub]
        · rw [List.getElem?_append_right (by omega)] at q1
          rw [List.getElem?_append_right (by rw [← h3.length]; omega), ← h3.length] at q2
          have em : m = acc.length := by
            have := (List.getElem?_eq_some_iff.mp q1).1
            simp at this; omega
          subst em
          simp at q1 q2
          subst q1; subst q2
          refine Rep.mono (l := ⟨.tm (T.length + 1), []⟩) d (fun b o z y => by rw [upd_ne (ne b ⟨.tm (T.length + 1), []⟩ [] y (.inl (fun z => by injection z with z; omega)))]; exact .inl z) (fun b o z n => exn b o z n) (fun a o _ n => by unfold appAt; rw [n]) (fun a o q _ n => ?_) zd
          have n' : ow a = some ⟨.tm (T.length + 1), [] ++ q⟩ := n
          unfold appAt
          rw [n']
          simp [Loc.app, Loc.sub]
  · by_cases hb : b = a
    · subst hb
      have z := S.old b o n q
      rcases S.own b _ h2 with z2 | z2 | z2
      · cases z2
      · rw [z2] at q; cases q
      · exact absurd z2 n
    · rw [upd_ne hb]; exact S.old b o n q
  · cases e : ow b with
    | none => unfold appAt at q; rw [e] at q; cases q
    | some m =>
      obtain ⟨mb, mp⟩ := m
      cases mb with
      | fo =>
        unfold appAt at q; rw [e] at q; cases q
        exact .inl rfl
      | sl j => exact (S.own b _ e).elim (fun z => nomatch z) .inr
      | tm j => exact (S.own b _ e).elim (fun z => nomatch z) .inr
  · have z := S.fo b q
    unfold appAt; rw [z]
  · by_cases hb : b = a
    · subst hb; rw [upd_same]; trivial
    · rw [upd_ne hb]
      cases e : ow b with
      | none => unfold appAt at q; rw [e] at q; cases q
      | some m => exact S.mu b m e
def permT (ow : Ow) (f : Nat → Nat) : Ow := fun a => match ow a with
  | some ⟨.tm j, p⟩ => some ⟨.tm (f j), p⟩
  | x => x
theorem StW.perm {f : Nat → Nat} (S : StW G C ow r T1 s H) (hf : ∀ (j : Nat) (p : D × V), T2[j]? = some p → ∃ i, T1[i]? = some p ∧ f i = j) : StW G C (permT ow f) r T2 s H where
  len := S.len
  sl := fun i d q => by
    obtain ⟨v', z1, z2⟩ := S.sl i d q
    refine ⟨v', z1, Rep.mono (l := ⟨.sl i, []⟩) d (fun _ _ z _ => z) (fun _ _ z _ => z) (fun a o _ n => by unfold permT; rw [n]) (fun a o q _ n => ?_) z2⟩
    have n' : ow a = some ⟨.sl i, [] ++ q⟩ := n
    unfold permT
    rw [n']
    rfl
  tm := fun j d v q => by
    obtain ⟨i, h1, h2⟩ := hf j (d, v) q
    refine Rep.mono (l := ⟨.tm i, []⟩) d (fun _ _ z _ => z) (fun _ _ z _ => z) (fun a o _ n => by unfold permT; rw [n]) (fun a o q _ n => ?_) (S.tm i d v h1)
    have n' : ow a = some ⟨.tm i, [] ++ q⟩ := n
    unfold permT
    rw [n']
    simp [Loc.app, h2]
  old := S.old
  own := fun a l q => by
    cases e : ow a with
    | none => unfold permT at q; rw [e] at q; cases q
    | some m =>
      obtain ⟨mb, mp⟩ := m
      cases mb with
      | fo =>
        unfold permT at q; rw [e] at q; cases q
        exact .inl rfl
      | sl j => exact (S.own a _ e).elim (fun z => nomatch z) .inr
      | tm j => exact (S.own a _ e).elim (fun z => nomatch z) .inr
  fo := fun a q => by
    have z := S.fo a q
    unfold permT; rw [z]
  mu := fun a l q => by
    cases e : ow a with
    | none => unfold permT at q; rw [e] at q; cases q
    | some m => exact S.mu a m e
  pin := S.pin
  tabs := S.tabs
theorem StOk.swap {A B : List (D × V)} (S : StOk G C r (T ++ (A ++ B)) s H) : StOk G C r (T ++ (B ++ A)) s H := by
  obtain ⟨ow, S⟩ := S
  refine ⟨_, S.perm (f := fun i => if i < T.length then i else if i < T.length + A.length then i + B.length else i - A.length) fun j p q => ?_⟩
  by_cases h1 : j < T.length
  · refine ⟨j, ?_, if_pos h1⟩
    rw [List.getElem?_append_left h1] at q ⊢
    exact q
  · rw [List.getElem?_append_right (by omega)] at q
    by_cases h2 : j < T.length + B.length
    · rw [List.getElem?_append_left (by omega)] at q
      refine ⟨j + A.length, ?_, ?_⟩
      · rw [List.getElem?_append_right (by omega), List.getElem?_append_right (by omega), show j + A.length - T.length - A.length = j - T.length by omega]
        exact q
      · rw [if_neg (by omega), if_neg (by omega)]
        omega
    · rw [List.getElem?_append_right (by omega)] at q
      have hlt := (List.getElem?_eq_some_iff.mp q).1
      refine ⟨j - B.length, ?_, ?_⟩
      · rw [List.getElem?_append_right (by omega), List.getElem?_append_left (by omega), show j - B.length - T.length = j - T.length - B.length by omega]
        exact q
      · show (if j - B.length < T.length then j - B.length else if j - B.length < T.length + A.length then j - B.length + B.length else j - B.length - A.length) = j
        rw [if_neg (by omega), if_pos (by omega)]
        omega
abbrev VTs (X : Cx) (G : GX) (C : Fc) (W : WX) (ifs : List Expr) (fc : Option Ev) : Prop := PTs X ifs (tVT G C W (tstR fc))
theorem vts_nil : VTs X G C W [] none := by
  refine ⟨fun pins s σ H Q I h => pts_nil.run pins s σ H Q I ?_⟩
  obtain ⟨r, T, S, h⟩ := h
  exact h _ S
theorem vts_one {c : Expr} (h : VT X G C W c fc) : VTs X G C W [c] (some fc) := pts_one h
theorem lc_go {vs : List Nat} {t : Tg} {fi : Iv} {fc : Option Ev} {fe : Ev} {Q : VK} (hpin : ∀ p ∈ C.pin, p.1 ∉ vs) (ht : ∀ i ∈ t.slots, i ∈ vs) (h : tV G C W (cLc vs t fi fc fe) s H Q) :
    tLc (tVI G C W fi) (tVG G C t) (tVT G C W0 (tstR fc)) (tV G C W0 (cSet fe)) vs s H Q := by
  obtain ⟨r, T, S, h⟩ := h
  refine ⟨r, T, S, ?_⟩
  have h : Goes G C W T s Q (cLc vs t fi fc fe r) := h
  unfold cLc at h
  cases e : fi r with
  | exc c r1 => simp only [e] at h; exact h
  | bad => simp only [e] at h; exact h.elim
  | ok ds r1 =>
    simp only [e] at h
    intro J H1 tk hk S1 da hD
    have pins : ∀ {r' : Rho} {T' : List (D × V)} {s' : L2.St} {H' : Hp}, StOk G C r' T' s' H' → StOk G C (wipeR r' vs) T' (wipe s' vs) H' := fun {r' T' s' H'} ⟨ow', S'⟩ => ⟨ow', S'.wipes hpin⟩
    cases eL : lcL t fc fe vs ds [] (wipeR r1 vs) with
    | bad => rw [eL] at h; exact h.elim
    | ok acc r2 =>
      simp only [eL] at h
      -- the list is laid ahead of what is walked
      have S2 : StOk G C (wipeR r1 vs) (T ++ ([(.node .lst true [], .ref da)] ++ tk 0)) (wipe s vs) (upd H1 da (.lst [])) := by
        have z : StOk G C r1 ((T ++ tk 0) ++ [(.node .lst true [], .ref da)]) s (upd H1 da (.lst [])) := StOk.alloc (ds := []) (vs := []) true (by simpa using S1) rfl hD holds_lst (fun _ => trivial)
        rw [List.append_assoc] at z
        exact pins z.swap
      refine ⟨fun i m H' => m = ds.length - i ∧ i ≤ ds.length ∧ ∃ ac r', StOk G C (wipeR r' vs) (T ++ ([(.node .lst true ac, .ref da)] ++ tk i)) (wipe s vs) H' ∧ lcL t fc fe vs (ds.drop i) ac (wipeR r' vs) = .ok acc r2,
        ⟨ds.length, by simp, Nat.zero_le _, [], r1, S2, by simpa using eL⟩, ?_⟩
      rintro i m H' ⟨rfl, hi', ac, r', S', h'⟩
      rw [← List.append_assoc] at S'
      by_cases hlt : i < ds.length
      · have ed : ds[i]? = some ds[i] := List.getElem?_eq_getElem hlt
        obtain ⟨k1, k2⟩ := hk.1 i ds[i] _ _ _ H' ed S'
        rw [List.drop_eq_getElem_cons hlt] at h'
        refine .inr ⟨k1, fun H' => i + 1 ≤ ds.length ∧ ∃ ac r', StOk G C (wipeR r' vs) (T ++ ([(.node .lst true ac, .ref da)] ++ tk (i + 1))) (wipe s vs) H' ∧ lcL t fc fe vs (ds.drop (i + 1)) ac (wipeR r' vs) = .ok acc r2,
          fun H2 n2 => ⟨ds.length - (i + 1), by omega, rfl, n2.1, n2.2⟩, fun x H2 y => ?_⟩
        have S3 := k2 x H2 y
        refine ⟨_, _, ds[i], S3, ?_⟩
        unfold lcL at h'
        cases e1 : tgt t ds[i] (wipeR r' vs) with
        | none => simp only [e1] at h'; cases h'
        | some r3 =>
          simp only [e1] at h' ⊢
          intro s4 H4 S4 b4
          have hw : wipe s4 vs = wipe s vs := wipe_but b4 ht
          refine ⟨hw, _, _, S4, ?_⟩
          cases e2 : tstR fc r3 with
          | exc c r4 => simp only [e2] at h'; cases h'
          | bad => simp only [e2] at h'; cases h'
          | ok xb r4 =>
            simp only [e2] at h' ⊢
            cases xb with
            | loc _ => cases h'
            | val db =>
              cases db with
              | bl b =>
                cases b with
                | false =>
                  intro H5 S5
                  rw [if_neg Bool.false_ne_true]
                  have S6 := pins S5
                  rw [hw] at S6
                  rw [List.append_assoc] at S6
                  exact ⟨hlt, ac, r4, S6, h'⟩
                | true =>
                  intro H5 S5
                  rw [if_pos rfl]
                  refine ⟨_, _, S5, ?_⟩
                  simp only at h'
                  cases e3 : cSet fe r4 with
                  | exc c r5 => simp only [e3] at h'; cases h'
                  | bad => simp only [e3] at h'; cases h'
                  | ok xe r5 =>
                    cases xe with
                    | loc _ => simp only [e3] at h'; cases h'
                    | val d =>
                      simp only [e3] at h'
                      split at h'
                      · rename_i hz
                        intro yv H6 P6
                        have S6 : StOk G C r5 (T ++ [(.node .lst true ac, .ref da)] ++ tk (i + 1) ++ [(d, yv)]) s4 H6 := P6.1
                        have S7 : StOk G C r5 (T ++ (([(.node .lst true ac, .ref da)] ++ tk (i + 1)) ++ [(d, yv)])) s4 H6 := by simpa [List.append_assoc] using S6
                        have S8 : StOk G C r5 ((T ++ tk (i + 1)) ++ [(.node .lst true ac, .ref da), (d, yv)]) s4 H6 := by
                          have z : StOk G C r5 (T ++ ([(.node .lst true ac, .ref da)] ++ (tk (i + 1) ++ [(d, yv)]))) s4 H6 := by simpa [List.append_assoc] using S6
                          have z2 : StOk G C r5 ((T ++ tk (i + 1)) ++ ([(d, yv)] ++ [(.node .lst true ac, .ref da)])) s4 H6 := by simpa [List.append_assoc] using z.swap
                          exact z2.swap
                        obtain ⟨ow8, S8⟩ := S8
                        obtain ⟨vs', q1, q2, S9⟩ := S8.appT
                        refine ⟨vs', q1, by rw [q2, sizeLine_eq]; exact hz, hlt, ac ++ [d], r5, ?_, h'⟩
                        have S10 : StOk G C r5 (T ++ (tk (i + 1) ++ [(.node .lst true (ac ++ [d]), .ref da)])) s4 (upd H6 da (.lst (vs' ++ [yv]))) := ⟨_, by rw [← List.append_assoc]; exact S9⟩
                        have S11 := pins S10.swap
                        rw [hw] at S11
                        exact S11
                      · cases h'
              | _ => cases h'
      · have ei : i = ds.length := by omega
        subst ei
        rw [List.drop_length] at h'
        unfold lcL at h'
        injection h' with e1 e2
        subst e1
        subst e2
        refine .inl ⟨hk.2 _ _ _ H' S', ?_⟩
        have S3 : StOk G C (wipeR r' vs) (T ++ [(.node .lst true ac, .ref da)]) (wipe s vs) H' := S'.drop
        obtain ⟨ow0, S0⟩ := S1
        obtain ⟨ow3, S3⟩ := S3
        exact h _ _ ⟨⟨ow3, S0.back S3⟩, trivial⟩
end
end VL

namespace VL
open PySem PySem.Spec PyProof.Rows L2
section
variable {X : Cx} {G : GX} {C : Fc} {W : WX} {ow ow' : Ow} {r : Rho} {T T1 T2 : List (D × V)} {s : L2.St} {H H' : Hp} {fa fb fc : Ev} {f g : Sv} {fs : Av}
theorem ve_lc {elt tg iter : Expr} {ifs : List Expr} {scope : Scope} {own : List (Str × Nat)} {pos : Pos} {fi : Iv} {t : Tg} {ft : Option Ev} {fe : Ev} (hc : X.calm = true) (hN : X.N.Nodup) (hi : VI X G C W tg iter fi) (ok : BlkOk X.N X.env.scope scope own)
    (hpin : ∀ p ∈ C.pin, p.1 ∉ own.map (·.2)) (hts : ∀ i ∈ t.slots, i ∈ own.map (·.2))
    (hg : ∀ (s : Shared) (H : Hp) (ca : Addr) (cl : List (Str × Addr)) (fp : List Addr), VG (X.blk s H scope (compEnvC scope cl ca X.env) fp) G C tg t) (ht : ∀ (s : Shared) (H : Hp) (ca : Addr) (cl : List (Str × Addr)) (fp : List Addr), VTs (X.blk s H scope (compEnvC scope cl ca X.env) fp) G C W0 ifs ft)
    (he : ∀ (s : Shared) (H : Hp) (ca : Addr) (cl : List (Str × Addr)) (fp : List Addr), VE (X.blk s H scope (compEnvC scope cl ca X.env) fp) G C W0 elt fe) (hs : ∀ x, foldedSetIterable iter X.env x = pure x := by intro _; rfl) :
    VE X G C W (.ListComp elt [⟨tg, iter, ifs, 0⟩] scope pos) (cLc (own.map (·.2)) t fi ft fe) :=
  PE.imp (pe_lc hc hN hi ok hg ht (fun s H ca cl fp => ve_set (he s H ca cl fp)) hs) fun s H Q h => lc_go hpin hts h
inductive FO where
  | ok (d : D) | exc (c : Nat) | bad
def Behind (G : GX) (ow0 : Ow) (H H' : Hp) (d : D) (v : V) : Prop :=
  ∃ (ow1 : Ow) (b : Bs), b ≠ .fo ∧ Rep G ow1 H' d ⟨b, []⟩ v ∧ (∀ a l, ow1 a = some l → l.b ≠ .fo → H a = none) ∧ (∀ a, ow0 a ≠ none → ow1 a = some ⟨.fo, []⟩) ∧ ∀ a l, ow1 a = some l → OwnO (H' a)
def spV (G : GX) (n : Nat) (F : List D → FO) : Sp := fun vs H Q E => ∃ (ds : List D) (ow0 : Ow), ds.length = n ∧ frzs ds = ds ∧ (∀ a l, ow0 a = some l → OwnO (H a)) ∧ Reps G ow0 H ds ⟨.fo, []⟩ 0 vs ∧ LamX.Tabs G.T H ∧ match F ds with
  | .ok d => ∀ v H', Ext H H' → LamX.Tabs G.T H' → Behind G ow0 H H' d v → Q v H'
  | .exc c => ∀ H', Ext H H' → LamX.Tabs G.T H' → E (.ref (G c)) none H'
  | .bad => False
theorem spV_len {n : Nat} {F : List D → FO} {vs : List V} {Q : VK} {E : XK} (h : spV G n F vs H Q E) : vs.length = n := by
  obtain ⟨ds, ow0, h1, _, _, h4, _⟩ := h
  rw [← h4.length, h1]
def startR (n : Nat) (ds : List D) : Rho := ds.map some ++ List.replicate (n - ds.length) none
def runF (n : Nat) (f : Sv) (ds : List D) : FO := match f (startR n ds) with
  | .rt x r => (match opd r x with
    | some d => .ok d
    | none => .bad)
  | .nx _ => .ok .non
  | .exc c _ => .exc c
  | _ => .bad
def fcOf (H : Hp) (ow0 : Ow) : Fc := ⟨H, fun _ => False, fun a => ow0 a ≠ none, []⟩
def owOf (ow0 : Ow) : Ow := fun a => match ow0 a with
  | some _ => some ⟨.fo, []⟩
  | none => none
theorem start_get {N : List Str} {vs : List V} {i : Nat} {v : V} (h : vs[i]? = some v) : (L2.start N vs)[i]? = some (some v) := by
  unfold L2.start
  rw [List.getElem?_append_left (by simpa using (List.getElem?_eq_some_iff.mp h).1), List.getElem?_map, h]; rfl
theorem startR_get {n : Nat} {ds : List D} {i : Nat} {d : D} (h : (startR n ds)[i]? = some (some d)) : ds[i]? = some d := by
  unfold startR at h
  by_cases hi : i < ds.length
  · rw [List.getElem?_append_left (by simpa using hi), List.getElem?_map] at h
    cases e : ds[i]? with
    | none => rw [e] at h; cases h
    | some a => rw [e] at h; cases h; rfl
  · rw [List.getElem?_append_right (by simpa using hi), List.getElem?_replicate] at h
    split at h <;> cases h
theorem start_ok {N : List Str} {ds : List D} {vs : List V} {ow0 : Ow} (ht : LamX.Tabs G.T H) (hm : ∀ a l, ow0 a = some l → OwnO (H a)) (e : frzs ds = ds) (h : Reps G ow0 H ds ⟨.fo, []⟩ 0 vs) : StW G (fcOf H ow0) (owOf ow0) (startR N.length ds) [] (L2.start N vs) H where
  len := by
    unfold startR L2.start
    simp [h.length]
  sl := fun i d q => by
    obtain ⟨v, h1, h2⟩ := h.get i d (startR_get q)
    have f : frz d = d := by
      have := congrArg (·[i]?) e
      simp only [frzs_map, List.getElem?_map, startR_get q, Option.map_some] at this
      exact Option.some.inj this
    exact ⟨v, start_get h1, Rep.moveF d f (fun a o z q => ⟨z, by unfold owOf; rw [q]⟩) (fun _ _ z _ => z) h2⟩
  tm := fun j d v q => by simp at q
  old := fun a o _ z => .inl z
  own := fun a l q => by
    unfold owOf at q
    split at q
    · cases q; exact .inl rfl
    · cases q
  fo := fun a q => by
    unfold owOf
    cases e : ow0 a with
    | none => exact absurd e q
    | some l => rfl
  mu := fun a l q => by
    unfold owOf at q
    split at q
    · rename_i m e; exact hm a m e
    · cases q
  pin := fun p hp => by simp [fcOf] at hp
  tabs := ht
theorem behind_of {ow0 : Ow} {d : D} {v : V} {b : Bs} (hb : b ≠ .fo) {r : Rho} {T : List (D × V)} {s : L2.St} (S : StW G (fcOf H ow0) ow r T s H') (h : Rep G ow H' d ⟨b, []⟩ v) : Behind G ow0 H H' d v :=
  ⟨ow, b, hb, h, fun a l q n => (S.own a l q).elim (fun z => absurd z n) fun z => z.elim id False.elim, fun a q => S.fo a q, S.mu⟩
theorem ext_of {ow0 : Ow} {r : Rho} {T : List (D × V)} {s : L2.St} (S : StW G (fcOf H ow0) ow r T s H') : Ext H H' := fun a o q => S.old a o (fun z => z) q
end
section
variable {P : Program} {w : World} {K : PySem.W.Frag} {mg : Str → Option Value} {base : Heap} {G : GX}
end

def isTup : Kd → Bool
  | .tup => true
  | _ => false
mutual
/-- no list, dict or instance in it is shared -/
def noL : D → Bool
  | .node k o xs => (o || isTup k) && noLs xs
  | .any => false
  | _ => true
def noLs : List D → Bool
  | [] => true
  | d :: ds => noL d && noLs ds
end
def callK (F : List D → FO) (xs : List R) (r : Rho) : EO := match opds r xs with
  | some ds => (match F (frzs ds) with
    | .ok d => if noL d = true then .ok (.val d) r else .ok (.val d) (settles r xs)
    | .exc c => .exc c r
    | .bad => .bad)
  | none => .bad
def cCall (n : Nat) (F : List D → FO) (fs : Av) : Ev := fun r => (fs r).bd fun xs r1 => if xs.length = n then callK F xs r1 else .bad
section
variable {X : Cx} {G : GX} {C : Fc} {W : WX} {ow ow' : Ow} {r : Rho} {T T1 T2 : List (D × V)} {s : L2.St} {H H' : Hp} {fs : Av}
def aft (H : Hp) (ow ow1 : Ow) (n : Nat) : Ow := fun a => match H a with
  | none => (match ow1 a with
    | some l => some ⟨.tm n, l.p⟩
    | none => none)
  | some _ => ow a
mutual
theorem Rep.aft : ∀ (d : D) {l l' : Loc} {v : V} {ow1 : Ow} {n : Nat}, (∀ a k vs, isR k ≠ true → Holds G H' a k vs → (isTup k = true ∨ VL.noL d = false) → ow1 a = none → H a ≠ none → ow a = none) → (∀ a m, ow1 a = some m → m.b ≠ .fo → H a = none) → l.b ≠ .fo → l'.b = .tm n → l'.p = l.p → Rep G ow1 H' d l v → Rep G (VL.aft H ow ow1 n) H' d l' v
  | .any, _, _, _, _, _, _, _, _, _, _, _ => trivial
  | .non, _, _, _, _, _, _, _, _, _, _, h => h
  | .bl _, _, _, _, _, _, _, _, _, _, _, h => h
  | .int _, _, _, _, _, _, _, _, _, _, _, h => h
  | .str _, _, _, _, _, _, _, _, _, _, _, h => h
  | .exc _, _, _, _, _, _, _, _, _, _, _, h => h
  | .ty _, _, _, _, _, _, _, _, _, _, _, h => h
  | .cls _, _, _, _, _, _, _, _, _, _, _, h => h
  | .node k o xs, l, l', v, ow1, n, hz, hn, hb, hb', hp, h => by
    obtain ⟨a, vs, ev, h1, h2, h3⟩ := h
    have un : VL.noLs xs = false → VL.noL (.node k o xs) = false := fun z => by
      show ((o || isTup k) && VL.noLs xs) = false
      rw [z, Bool.and_false]
    refine ⟨a, vs, ev, h1, ?_, Reps.aft xs (fun a k' vs' nr z y => hz a k' vs' nr z (y.imp id un)) hn hb hb' hp h3⟩
    by_cases hrd : isR k = true
    · exact .ofR hrd
    have h2 := h2.cases.resolve_left hrd
    refine .mk ?_
    cases o with
    | true =>
      have q : ow1 a = some l := by simpa using h2
      have z := hn a l q hb
      unfold VL.aft
      rw [z, q]
      obtain ⟨lb, lp⟩ := l'
      cases hb'
      cases hp
      rfl
    | false =>
      have q : ow1 a = none := by simpa using h2
      have hk : isTup k = true ∨ VL.noL (.node k false xs) = false := by
        cases e : isTup k with
        | true => exact .inl rfl
        | false =>
          refine .inr ?_
          show ((false || isTup k) && VL.noLs xs) = false
          rw [e]; rfl
      unfold VL.aft
      cases z : H a with
      | none => simp only [q]; rfl
      | some u => exact hz a k vs hrd h1 hk q (by rw [z]; exact fun y => nomatch y)
theorem Reps.aft : ∀ (ds : List D) {l l' : Loc} {i : Nat} {vs : List V} {ow1 : Ow} {n : Nat}, (∀ a k vs, isR k ≠ true → Holds G H' a k vs → (isTup k = true ∨ VL.noLs ds = false) → ow1 a = none → H a ≠ none → ow a = none) → (∀ a m, ow1 a = some m → m.b ≠ .fo → H a = none) → l.b ≠ .fo → l'.b = .tm n → l'.p = l.p → Reps G ow1 H' ds l i vs → Reps G (VL.aft H ow ow1 n) H' ds l' i vs
  | [], _, _, _, _, _, _, _, _, _, _, _, h => h
  | d :: ds, l, l', i, vs, ow1, n, hz, hn, hb, hb', hp, h => by
    obtain ⟨v, ws, ev, h1, h2⟩ := h
    have u1 : VL.noL d = false → VL.noLs (d :: ds) = false := fun z => by show (VL.noL d && VL.noLs ds) = false; rw [z]; rfl
    have u2 : VL.noLs ds = false → VL.noLs (d :: ds) = false := fun z => by show (VL.noL d && VL.noLs ds) = false; rw [z, Bool.and_false]
    exact ⟨v, ws, ev, Rep.aft (l := l.sub i) (l' := l'.sub i) d (fun a k vs nr z y => hz a k vs nr z (y.imp id u1)) hn hb hb' (by show l'.p ++ [i] = l.p ++ [i]; rw [hp]) h1, Reps.aft ds (fun a k vs nr z y => hz a k vs nr z (y.imp id u2)) hn hb hb' hp h2⟩
end
theorem StW.aft {d : D} {v : V} {ow1 : Ow} (S : StW G C ow r T s H) (hx : Ext H H') (et : LamX.Tabs G.T H') (hm : ∀ a m, ow1 a = some m → OwnO (H' a)) (hr : Rep G (VL.aft H ow ow1 T.length) H' d ⟨.tm T.length, []⟩ v) : StW G C (VL.aft H ow ow1 T.length) r (T ++ [(d, v)]) s H' := by
  have keep : ∀ a o, H a = some o → VL.aft H ow ow1 T.length a = ow a := fun a o z => by unfold VL.aft; rw [z]
  have S' : StW G C (VL.aft H ow ow1 T.length) r T s H' := by
    refine ⟨S.len, fun i d q => ?_, fun j d v q => ?_, fun a o n q => (S.old a o n q).bind fun u q => hx a u q, fun a l q => ?_, fun a q => ?_, fun a l q => ?_, S.pin, et⟩
    · obtain ⟨v', z1, z2⟩ := S.sl i d q
      exact ⟨v', z1, Rep.mono (l := ⟨.sl i, []⟩) d (fun a o z _ => hx a o z) (fun a o z _ => hx a o z) (fun a o z n => by rw [keep a o z, n]) (fun a o q z n => by rw [keep a o z, n]) z2⟩
    · exact Rep.mono (l := ⟨.tm j, []⟩) d (fun a o z _ => hx a o z) (fun a o z _ => hx a o z) (fun a o z n => by rw [keep a o z, n]) (fun a o q z n => by rw [keep a o z, n]) (S.tm j d v q)
    · cases z : H a with
      | some o => rw [keep a o z] at q; exact S.own a l q
      | none =>
        refine .inr ?_
        cases e : C.H0 a with
        | none => exact .inl rfl
        | some u =>
          by_cases hi : C.io a
          · exact .inr hi
          · exact ((S.old a u hi e).on z).elim
    · have z := S.fo a q
      have m := S.mu a _ z
      cases y : H a with
      | none => rw [y] at m; exact m.elim
      | some o => rw [keep a o y]; exact z
    · cases z : H a with
      | some o =>
        rw [keep a o z] at q
        have m := S.mu a l q
        rw [z] at m
        rw [(hx a o z).get m.nt]
        exact m
      | none =>
        unfold VL.aft at q
        rw [z] at q
        cases y : ow1 a with
        | none => rw [y] at q; cases q
        | some m => exact hm a m y
  exact S'.push hr
theorem call_go {n : Nat} {F : List D → FO} {Q : VK} {xs : List R} {vs : List V} (S : StOk G C r (T ++ pushs xs vs) s H) (l : LocsOk s xs vs) (h : Goes G C W T s Q (if xs.length = n then callK F xs r else .bad)) : spV G n F vs H Q (WE W s) := by
  split at h
  · rename_i hn
    unfold callK at h
    cases e : opds r xs with
    | none => rw [e] at h; exact h.elim
    | some ds =>
      simp only [e] at h
      obtain ⟨ow, S⟩ := S
      obtain ⟨ow0, S0, h1, h2, h3⟩ := S.settles l e
      refine ⟨frzs ds, ow0, ?_, frzs_frzs ds, S0.mu, h1 _ _, S0.tabs, ?_⟩
      · rw [(h1 ⟨.fo, []⟩ 0).length, ← l.length, hn]
      cases e2 : F (frzs ds) with
      | bad => rw [e2] at h; exact h.elim
      | exc c =>
        simp only [e2] at h
        exact fun H' hx et => h H' ⟨ow, S.drop.ext hx et⟩
      | ok d =>
        simp only [e2] at h
        intro v H' hx et hb
        obtain ⟨ow1, b, b1, b2, b3, b4, b5⟩ := hb
        split at h
        · rename_i hno
          have hr : Rep G (VL.aft H ow ow1 T.length) H' d ⟨.tm T.length, []⟩ v := Rep.aft (l := ⟨b, []⟩) d (fun a k vs _ z y q nz => by
            rcases y with y | y
            · cases k with
              | tup =>
                cases y2 : ow a with
                | none => rfl
                | some m =>
                  have mu := S.mu a m y2
                  cases z2 : H a with
                  | none => exact absurd z2 nz
                  | some u =>
                    rw [z2] at mu
                    have z3 := (hx a u z2).get mu.nt
                    rw [show H' a = some (.tup vs) from z] at z3
                    cases z3
                    exact mu.elim
              | _ => cases y
            · rw [hno] at y; cases y) b3 b1 rfl rfl b2
          exact h v H' ⟨⟨_, StW.aft S.drop hx et b5 hr⟩, trivial⟩
        · have hr : Rep G (VL.aft H ow0 ow1 T.length) H' d ⟨.tm T.length, []⟩ v := Rep.aft (l := ⟨b, []⟩) d (fun a k vs _ z y q nz => by
            cases y2 : ow0 a with
            | none => rfl
            | some m =>
              have := b4 a (by rw [y2]; exact fun z => nomatch z)
              rw [q] at this
              cases this) b3 b1 rfl rfl b2
          exact h v H' ⟨⟨_, StW.aft S0 hx et b5 hr⟩, trivial⟩
  · exact h.elim
theorem ve_call {n k : Nat} {F : List D → FO} {f : Addr} {fd : FuncData} {ps : List Str} {x : Str} {p pos : Pos} {e : Expr} {es : List Expr} (tk : Takes X W) (Fk : FnOk X.prog X.w X.K X.mg X.base (L2.CX X.prog X.w) k f fd ps (spV G n F)) (hr : Room k X.A) (hg : Gl X x) (hm : X.mg x = some (.ref f))
    (hk : PySem.W.keepIn X.K (.ref f) = true) (hb : Binds X.K fd ps []) (ha : VA X G C W (e :: es) fs) (hdb : (x == ("__debug__" : Str)) = false := by decide) (he : starEach (e :: es) X.env = (false, eval e X.env) :: starEach es X.env := by rfl) (hpl : (backTo pos (starEach es X.env)).any (·.1) = false := by rfl) :
    VE X G C W (.Call (.Name x p) (e :: es) [] pos) (cCall n F fs) := by
  refine PE.imp (pe_callS Fk hr hg hm hk hb (fun σ => passAt tk σ) ha hdb he hpl) fun s H Q h => ?_
  obtain ⟨r, T, S, g⟩ := h
  exact many (T2 := []) (by simpa using S) g fun xs vs r1 H1 S1 l1 g1 => call_go (by simpa using S1) l1 g1
end
end VL

namespace VL
open PySem PySem.Spec PyProof.Rows L2
section
variable {X : Cx} {G : GX} {C : Fc} {W : WX} {ow ow' : Ow} {r : Rho} {T T1 T2 : List (D × V)} {s : L2.St} {H H' : Hp} {fa fb fc : Ev} {fs : Av}
theorem apart {i : Nat} {a b : Addr} {l : Loc} (ha : ow a = some ⟨.sl i, []⟩) (hb : ow b = none ∨ ∃ q, ow b = some (l.app q)) (hl : l.b ≠ .sl i ∨ l.p ≠ []) : b ≠ a := fun e => by
  subst e
  rw [ha] at hb
  rcases hb with hb | ⟨q, hb⟩
  · cases hb
  · have hb := Option.some.inj hb
    unfold Loc.app at hb
    injection hb with e1 e2
    rcases hl with hl | hl
    · exact hl e1.symm
    · exact hl (List.append_eq_nil_iff.mp e2.symm).1
theorem StW.write {i : Nat} {k k' : Kd} (hk : isR k ≠ true) {ds ds' : List D} {a : Addr} {vs' : List V} {ho : HO} {T' : List (D × V)} (S : StW G C ow r T s H) (q : r[i]? = some (some (.node k true ds))) (ha : s[i]? = some (some (.ref a)))
    (hm : OwnO (some ho)) (hh : Holds G (upd H a ho) a k' vs')
    (h1 : ∀ b, ow b = none → ow' b = none) (h2 : ∀ b j p, ow b = some ⟨.sl j, p⟩ → j ≠ i → ow' b = some ⟨.sl j, p⟩) (h4 : ∀ b p, ow b = some ⟨.fo, p⟩ → ow' b = some ⟨.fo, p⟩)
    (h5 : ∀ b l, ow' b = some l → ∃ l', ow b = some l' ∧ (l.b = .fo → l'.b = .fo)) (h5' : ∀ b l, ow' b = some l → l.b ≠ .fo → ∀ l', ow b = some l' → l'.b ≠ .fo) (h6 : ow' a = some ⟨.sl i, []⟩)
    (h7 : Reps G ow' (upd H a ho) ds' ⟨.sl i, []⟩ 0 vs') (h8 : ∀ (j : Nat) d v, T'[j]? = some (d, v) → Rep G ow' (upd H a ho) d ⟨.tm j, []⟩ v) :
    StW G C ow' (r.set i (some (.node k' true ds'))) T' s (upd H a ho) := by
  obtain ⟨v, z1, a', vs, ev, z2, z3, z4⟩ := S.sl i _ q
  rw [ha] at z1
  cases z1
  cases ev
  have oa : ow a = some ⟨.sl i, []⟩ := by simpa using z3.cases.resolve_left hk
  have exn : ∀ (b : Addr) (o : HO), H b = some o → ¬ OwnO (some o) → upd H a ho b = some o := fun b o z n => by
    rw [upd_ne (fun e => by have m := S.mu a _ oa; rw [e] at z; rw [z] at m; exact n m)]; exact z
  refine ⟨by simpa using S.len, fun j d' y => ?_, h8, fun b o n y => ?_, fun b l y => ?_, fun b y => h4 b _ (S.fo b y), fun b l y => ?_, S.pin, tabs_upd S.tabs (.inr (S.mu a _ oa))⟩
  · by_cases hj : j = i
    · subst hj
      have hlt : j < r.length := (List.getElem?_eq_some_iff.mp q).1
      rw [List.getElem?_set_self hlt] at y
      cases y
      exact ⟨_, ha, a, vs', rfl, hh, .mk (by simpa using h6), h7⟩
    · rw [List.getElem?_set_ne (Ne.symm hj)] at y
      obtain ⟨v', y1, y2⟩ := S.sl j d' y
      refine ⟨v', y1, Rep.mono (l := ⟨.sl j, []⟩) d' (fun b o z w => by rw [upd_ne (apart oa w (.inl (fun z => hj (by injection z))))]; exact .inl z) (fun b o z n => exn b o z n) (fun b o _ n => h1 b n) (fun b o p _ n => ?_) y2⟩
      exact h2 b j ([] ++ p) n hj
  · by_cases hb : b = a
    · subst hb
      rcases S.own b _ oa with z | z | z
      · cases z
      · rw [z] at y; cases y
      · exact absurd z n
    · rw [upd_ne hb]; exact S.old b o n y
  · obtain ⟨l', y1, y2⟩ := h5 b l y
    by_cases hf : l.b = .fo
    · exact .inl hf
    · rcases S.own b l' y1 with z | z
      · exact absurd z (h5' b l y hf l' y1)
      · exact .inr z
  · by_cases hb : b = a
    · subst hb; rw [upd_same]; exact hm
    · rw [upd_ne hb]
      obtain ⟨l', y1, _⟩ := h5 b l y
      exact S.mu b l' y1
def intoSl (ow : Ow) (n i k : Nat) : Ow := fun a => match ow a with
  | some ⟨.tm j, p⟩ => if j = n then some ⟨.sl i, k :: p⟩ else some ⟨.tm j, p⟩
  | some ⟨.sl j, p⟩ => if j = i ∧ p.head? = some k then none else some ⟨.sl j, p⟩
  | x => x
theorem into_fo {n i k : Nat} {b : Addr} {l : Loc} (h : intoSl ow n i k b = some l) : ∃ l', ow b = some l' ∧ (l.b = .fo ↔ l'.b = .fo) := by
  unfold intoSl at h
  cases e : ow b with
  | none => rw [e] at h; cases h
  | some m =>
    rw [e] at h
    obtain ⟨mb, mp⟩ := m
    refine ⟨_, rfl, ?_⟩
    cases mb with
    | tm j =>
      simp only at h
      split at h <;> (cases h; exact ⟨(fun z => nomatch z), (fun z => nomatch z)⟩)
    | sl j =>
      simp only at h
      split at h
      · cases h
      · cases h; exact ⟨(fun z => nomatch z), (fun z => nomatch z)⟩
    | fo => cases h; exact Iff.rfl
theorem StW.into {i k : Nat} {ds ds' : List D} {d : D} {a : Addr} {v : V} (S : StW G C ow r (T ++ [(d, v)]) s H) (q : r[i]? = some (some (.node .lst true ds))) (ha : s[i]? = some (some (.ref a)))
    (hds : (ds' = ds.set k d ∧ k < ds.length) ∨ (ds' = ds ++ [d] ∧ k = ds.length)) : ∃ vs, H a = some (.lst vs) ∧ vs.length = ds.length ∧
    StW G C (intoSl ow T.length i k) (r.set i (some (.node .lst true ds'))) T s (upd H a (.lst (if k < ds.length then vs.set k v else vs ++ [v]))) := by
  obtain ⟨v', z1, a', vs, ev, z2, z3, z4⟩ := S.sl i _ q
  rw [ha] at z1
  cases z1
  cases ev
  have oa : ow a = some ⟨.sl i, []⟩ := by simpa [OwnAt] using z3
  have hl := z4.length
  have exn : ∀ (b : Addr) (o ho : HO), H b = some o → ¬ OwnO (some o) → upd H a ho b = some o := fun b o ho z n => by
    rw [upd_ne (fun e => by rw [e, show H a = some (.lst vs) from z2] at z; cases z; exact n trivial)]; exact z
  refine ⟨vs, z2, hl.symm, StW.write (k := .lst) (ow' := intoSl ow T.length i k) (fun z => nomatch z) S q ha trivial (vs' := if k < ds.length then vs.set k v else vs ++ [v]) upd_same (fun b n => by unfold intoSl; rw [n]) (fun b j p n hj => ?_) (fun b p n => by unfold intoSl; rw [n]) (fun b l y => ?_) (fun b l y n l' y2 => ?_) ?_ ?_ (fun j d' w y => ?_)⟩
  · unfold intoSl; rw [n]; exact if_neg (fun z => hj z.1)
  · obtain ⟨l', y1, y2⟩ := into_fo y
    exact ⟨l', y1, y2.mp⟩
  · obtain ⟨l2, y1, y3⟩ := into_fo y
    rw [y2] at y1
    cases y1
    exact fun z => n (y3.mpr z)
  · unfold intoSl; rw [oa]; simp
  · -- the parts
    have old : ∀ (m : Nat) dm vm, m ≠ k → ds[m]? = some dm → vs[m]? = some vm → Rep G (intoSl ow T.length i k) (upd H a (.lst (if k < ds.length then vs.set k v else vs ++ [v]))) dm (Loc.sub ⟨.sl i, []⟩ (0 + m)) vm := fun m dm vm hm q1 q2 => by
      obtain ⟨vm', y1, y2⟩ := z4.get m dm q1
      rw [q2] at y1
      cases y1
      refine Rep.mono (l := Loc.sub ⟨.sl i, []⟩ (0 + m)) dm (fun b o z w => by rw [upd_ne (apart oa w (.inr (by simp [Loc.sub])))]; exact .inl z) (fun b o z n => .inl (exn b o _ z n)) (fun b o _ n => by unfold intoSl; rw [n]) (fun b o p _ n => ?_) y2
      have n' : ow b = some ⟨.sl i, m :: p⟩ := by rw [n]; simp [Loc.sub, Loc.app]
      unfold intoSl
      rw [n']
      have : ¬ (i = i ∧ (m :: p).head? = some k) := by simp [hm]
      simp [Loc.sub, Loc.app, hm]
    have new : Rep G (intoSl ow T.length i k) (upd H a (.lst (if k < ds.length then vs.set k v else vs ++ [v]))) d (Loc.sub ⟨.sl i, []⟩ (0 + k)) v := by
      refine Rep.mono (l := ⟨.tm T.length, []⟩) d (fun b o z w => by rw [upd_ne (apart oa w (.inl (fun z => nomatch z)))]; exact .inl z) (fun b o z n => .inl (exn b o _ z n)) (fun b o _ n => by unfold intoSl; rw [n]) (fun b o p _ n => ?_) S.last
      have n' : ow b = some ⟨.tm T.length, [] ++ p⟩ := n
      unfold intoSl
      rw [n']
      simp [Loc.sub, Loc.app]
    rcases hds with ⟨e, hk⟩ | ⟨e, hk⟩
    · subst e
      refine Reps.of_get (by rw [if_pos hk]; simp [hl]) fun m dm vm q1 q2 => ?_
      rw [if_pos hk] at q2
      by_cases hm : m = k
      · subst hm
        rw [List.getElem?_set_self hk] at q1
        rw [List.getElem?_set_self (by omega)] at q2
        cases q1; cases q2
        exact new
      · rw [List.getElem?_set_ne (Ne.symm hm)] at q1 q2
        exact old m dm vm hm q1 q2
    · subst e
      subst hk
      refine Reps.of_get (by rw [if_neg (by omega)]; simp [hl]) fun m dm vm q1 q2 => ?_
      rw [if_neg (by omega)] at q2
      by_cases hm : m < ds.length
      · rw [List.getElem?_append_left hm] at q1
        rw [List.getElem?_append_left (by omega)] at q2
        exact old m dm vm (by omega) q1 q2
      · rw [List.getElem?_append_right (by omega)] at q1
        rw [List.getElem?_append_right (by omega), ← hl] at q2
        have em : m = ds.length := by
          have := (List.getElem?_eq_some_iff.mp q1).1
          simp at this; omega
        subst em
        simp at q1 q2
        subst q1; subst q2
        exact new
  · have hj : j < T.length := (List.getElem?_eq_some_iff.mp y).1
    have z := S.tm j d' w (by rw [List.getElem?_append_left hj]; exact y)
    refine Rep.mono (l := ⟨.tm j, []⟩) d' (fun b o z w => by rw [upd_ne (apart oa w (.inl (fun z => nomatch z)))]; exact .inl z) (fun b o z n => .inl (exn b o _ z n)) (fun b o _ n => by unfold intoSl; rw [n]) (fun b o p _ n => ?_) z
    have n' : ow b = some ⟨.tm j, [] ++ p⟩ := n
    unfold intoSl
    rw [n']
    have : ¬ j = T.length := by omega
    simp [Loc.app, this]

def isLst (r : Rho) (i : Nat) : Bool := match r[i]? with
  | some (some (.node .lst _ _)) => true
  | _ => false
def appK (i : Nat) (x : R) (r1 : Rho) : EO := match x, r1[i]? with
  | .val d, some (some (.node .lst true ds)) => if ds.length < 16777216 then .ok (.val .non) (r1.set i (some (.node .lst true (ds ++ [d])))) else .bad
  | _, _ => .bad
def cApp (i : Nat) (fa : Ev) : Ev := fun r => if isLst r i = true then (cSet fa r).bd (appK i) else .bad
theorem isLst_at {i : Nat} (h : isLst r i = true) : ∃ o ds, r[i]? = some (some (.node .lst o ds)) := by
  unfold isLst at h
  split at h
  · rename_i o ds e; exact ⟨o, ds, e⟩
  · cases h
theorem ve_app {i : Nat} {x : Str} {e : Expr} {p apos cpos : Pos} (hN : X.N[i]? = some x) (hv : Vis X.env.scope x) (hd : (x == ("__debug__" : Str)) = false) (hcd : (x == ("__classdict__" : Str)) = false) (ha : VE X G C W e fa)
    (hbase : attributeBase (.Name x p) "append" X.env (eval (.Name x p) X.env) = eval (.Name x p) X.env := by rfl)
    (hfew : ((backTo cpos (starEach [e] X.env)).all (fun x => !x.1) && (backToKw cpos (keywordEach [] X.env)).all (fun x => x.1.isSome)
      && decide ([e].length + ([] : List Keyword).length + (if ([] : List Keyword).isEmpty then 0 else 1) < 30)) = true := by rfl)
    (hline : (apos.endLine == cpos.line) = true := by rfl) (hs : starEach [e] X.env = (false, eval e X.env) :: starEach [] X.env := by rfl) (hplain : (backTo cpos (starEach [] X.env)).any (·.1) = false := by rfl) :
    VE X G C W (.Call (.Attribute (.Name x p) "append" apos) [e] [] cpos) (cApp i fa) := by
  refine PE.imp (pe_bm PySem.F.plainAttrs_list PySem.F.slot_list_append PySem.F.type_list_append mt_append (pe_var hN hv hd hcd) (pa_cons (ve_set ha) pa_nil hs) hbase hfew hline hs hplain) fun s H Q h => ?_
  obtain ⟨r, T, S, g⟩ := h
  have g : Goes G C W T s Q (cApp i fa r) := g
  unfold cApp at g
  split at g
  · rename_i hi
    obtain ⟨o, ds, hr⟩ := isLst_at hi
    obtain ⟨ow, S0⟩ := S
    obtain ⟨v, v1, a, vs, ev, v2, v3, v4⟩ := S0.sl i _ hr
    subst ev
    refine ⟨_, v1, .inl ⟨rfl, vs, SqL.of v2⟩, ?_⟩
    refine one (fa := cSet fa) ⟨ow, S0⟩ g fun x v' r1 H1 P g1 => ?_
    unfold appK at g1
    split at g1
    · rename_i d ds' q
      split at g1
      · rename_i hz
        obtain ⟨ow1, S1⟩ := P.1
        obtain ⟨vs', w1, w2, S2⟩ := StW.into S1 q v1 (.inr ⟨rfl, rfl⟩)
        rw [if_neg (Nat.lt_irrefl _)] at S2
        exact ⟨a, vs', v', rfl, rfl, w1, by rw [w2, sizeLine_eq]; exact hz, g1 _ _ ⟨StOk.pushN ⟨_, S2⟩, trivial⟩⟩
      · exact g1.elim
    · exact g1.elim
  · exact g.elim

def setIxK (i : Nat) (x y : R) (r1 : Rho) : SO := match x, opd r1 y, r1[i]? with
  | .val d, some (.int k), some (some (.node .lst true ds)) => (match ixN ds.length k with
    | some j => .nx (r1.set i (some (.node .lst true (ds.set j d))))
    | none => .bad)
  | _, _, _ => .bad
def cSetIx (i : Nat) (fk fa : Ev) : Sv := fun r => (cSet fa r).st fun x r1 => if isLst r1 i = true then (fk r1).st (setIxK i x) else .bad
theorem vs_setIx {i : Nat} {x : Str} {k e : Expr} {p tpos pos : Pos} {fk : Ev} (hN : X.N[i]? = some x) (hv : Vis X.env.scope x) (hd : (x == ("__debug__" : Str)) = false) (hcd : (x == ("__classdict__" : Str)) = false) (hk : VE X G C W k fk) (ha : VE X G C W e fa)
    (has : ∀ v, assign (.Subscript (.Name x p) k tpos) X.env v = (do
      let ov ← holding [v] (eval (.Name x p) X.env)
      let iv ← holding [v, ov] (eval k X.env)
      standAt tpos
      holding [v, ov, iv] (setItem ov iv v)
      release [v, ov, iv] []) := by intro _; rfl)
    (hs : swapsWithSole [.Subscript (.Name x p) k tpos] e pos.line X.env = pure false := by rfl) (hw : swappedStores [.Subscript (.Name x p) k tpos] e X.env = pure none := by rfl)
    (h1 : (assignEach [.Subscript (.Name x p) k tpos] X.env).map (·.2) = [assign (.Subscript (.Name x p) k tpos) X.env] := by rfl) : VS X G C W (.Assign [.Subscript (.Name x p) k tpos] e pos) (cSetIx i fk fa) := by
  refine PS.imp (ps_asg (ve_set ha) (pg_sub (pe_var hN hv hd hcd) hk set_list has) hs hw h1) fun D s H h => ?_
  obtain ⟨r, T, S, g⟩ := h
  refine oneS (fa := cSet fa) S g fun x v r1 H1 P g1 => ?_
  split at g1
  · rename_i hi
    obtain ⟨o, ds, hr⟩ := isLst_at hi
    obtain ⟨ow1, S1⟩ := P.1
    obtain ⟨w, v1, a, vs, ev, v2, v3, v4⟩ := S1.sl i _ hr
    subst ev
    refine ⟨_, v1, ?_⟩
    refine ⟨r1, T ++ pushR x v, ⟨ow1, S1⟩, ?_⟩
    cases e1 : fk r1 with
    | exc c r2 => rw [e1] at g1; exact fun H' S' => g1 s H' S'.drop
    | bad => rw [e1] at g1; exact g1.elim
    | ok y r2 =>
      rw [e1] at g1
      simp only [st_ok] at g1
      intro u H2 P2
      unfold setIxK at g1
      split at g1
      · rename_i d k' ds' e2 q
        split at g1
        · rename_i j ej
          obtain ⟨ow2, S2⟩ := P2.1
          have eu := opd_rep (T := T ++ pushR (.val d) v) (T2 := []) (by rw [List.append_nil]; exact S2) P2.2 e2
          have S3 : StW G C ow2 r2 (T ++ [(d, v)]) s H2 := StW.drop (T := T ++ [(d, v)]) (T2 := pushR y u) S2
          obtain ⟨m1, m2, _⟩ := ixN_seq ej
          obtain ⟨vs', w1, w2, S4⟩ := StW.into S3 q v1 (.inl ⟨rfl, m2⟩)
          rw [if_pos m2] at S4
          exact ⟨a, vs', k', j, rfl, eu, w1, by rw [w2]; exact ej, g1 _ _ ⟨_, S4⟩⟩
        · exact g1.elim
      · exact g1.elim
  · exact g1.elim

def idxD (ds : List D) (d : D) : Option Nat := ds.findIdx? fun e => PyData.eqv (toPy e) (toPy d)
def gIndex : G2 := fun x y r => match opd r x, opd r y with
  | some (.node .lst _ ds), some d => if (flatD d && ds.all flatD) = true then (match idxD ds d with
    | some j => .ok (.val (.int (j : Nat))) r
    | none => .bad) else .bad
  | _, _ => .bad
end
end VL

namespace VL
open PySem PySem.Spec PyProof.Rows L2
inductive MO where
  | ok (d d0 : D) | bad
def spM (G : GX) (n : Nat) (F : D → List D → MO) : Sp := fun vs H Q E => ∃ (d0 : D) (ds : List D) (v0 : V) (us : List V) (ow0 : Ow), vs = v0 :: us ∧ ds.length = n ∧ frzs ds = ds ∧ Rep G ow0 H d0 ⟨.sl 0, []⟩ v0 ∧ Reps G ow0 H ds ⟨.fo, []⟩ 0 us ∧
  (∀ a l, ow0 a = some l → OwnO (H a) ∧ (l.b = .sl 0 ∨ l = ⟨.fo, []⟩)) ∧ LamX.Tabs G.T H ∧ match F d0 ds with
  | .ok d d0' => ∀ v H' (ow1 : Ow) (b : Bs), (∀ a o, (∀ p, ow0 a ≠ some ⟨.sl 0, p⟩) → H a = some o → Kt (H' a) o) → b ≠ .fo → b ≠ .sl 0 → Rep G ow1 H' d ⟨b, []⟩ v → Rep G ow1 H' d0' ⟨.sl 0, []⟩ v0 →
      (∀ a l, ow1 a = some l → l.b ≠ .fo → H a = none ∨ ∃ p, ow0 a = some ⟨.sl 0, p⟩) → (∀ a, ow0 a = some ⟨.fo, []⟩ → ow1 a = some ⟨.fo, []⟩) → (∀ a l, ow1 a = some l → OwnO (H' a)) → LamX.Tabs G.T H' → Q v H'
  | .bad => False
def runM (n : Nat) (f : Sv) (d0 : D) (ds : List D) : MO := match f (startR n (d0 :: ds)) with
  | .rt (.val d) r => (match r[0]? with
    | some (some d0') => .ok d d0'
    | _ => .bad)
  | .rt (.loc i) r => if i = 0 then .bad else (match opd r (.loc i), r[0]? with
    | some d, some (some d0') => .ok d d0'
    | _, _ => .bad)
  | .nx r => (match r[0]? with
    | some (some d0') => .ok .non d0'
    | _ => .bad)
  | _ => .bad
section
variable {G : GX} {H H' : Hp} {ow ow0 : Ow}
end
section
variable {P : Program} {w : World} {K : PySem.W.Frag} {mg : Str → Option Value} {base : Heap} {G : GX}
end
def callKM (n i : Nat) (F : D → List D → MO) (xs : List R) (r : Rho) : EO := match xs with
  | .loc j :: rest => if j = i ∧ rest.length = n then (match opd r (.loc i), valsR rest with
    | some d0, some ds => (match F d0 (frzs ds) with
      | .ok d d0' => .ok (.val d) (r.set i (some d0'))
      | .bad => .bad)
    | _, _ => .bad) else .bad
  | _ => .bad
def cCallM (n i : Nat) (F : D → List D → MO) (fs : Av) : Ev := fun r => (fs r).bd (callKM n i F)
section
variable {X : Cx} {G : GX} {C : Fc} {W : WX} {ow ow' : Ow} {r : Rho} {T T1 T2 : List (D × V)} {s : L2.St} {H H' : Hp} {fs : Av}
theorem valsR_frz : ∀ {xs : List R} {ds : List D}, valsR xs = some ds → opds r xs = some ds ∧ settles r xs = r ∧ ds.length = xs.length
  | [], ds, e => by cases e; exact ⟨rfl, rfl, rfl⟩
  | .loc _ :: _, _, e => by cases e
  | .val d :: xs, ds, e => by
    unfold valsR at e
    cases e2 : valsR xs with
    | none => rw [e2] at e; cases e
    | some ds' =>
      rw [e2] at e
      cases e
      obtain ⟨h1, h2, h3⟩ := valsR_frz e2
      refine ⟨?_, h2, by simp [h3]⟩
      show (match some d, opds r xs with | some d, some ds => some (d :: ds) | _, _ => none) = _
      rw [h1]
end
end VL

namespace VL
open PySem PySem.Spec PyProof.Rows L2
section
variable {X : Cx} {pins : List (Addr × Obj)} {q : L2.St} {H : Hp} {s sI s' : Shared} {B h4 : Heap} {a : Addr}
theorem trackExc {cls : Value} {oe : Obj} {vs : Array Value} (J : Inv X pins q H sI) (grd : ∀ b o, sI.heap.get? b = some o → b ∉ frs X.stack → B.get? b = some o) (fresh : B.get? a = none) (noex : X.ex = []) (off : a ∉ frs (X.env :: X.outer))
    (J4 : Inv X pins q H { s' with heap := h4 }) (at4 : h4.get? a = some oe) (cl4 : Zc cls none oe) (dt4 : oe.data = .fields vs) (free : H a = none) : Inv X pins q (upd H a (ExT cls a)) { s' with heap := h4 } := by
  have out : a ∉ frs X.stack := by
    intro hm
    rcases J.ok.stk with e | ⟨e, _⟩
    · refine off ?_
      rw [e] at hm
      obtain ⟨x, p1, p2⟩ := List.mem_filterMap.mp hm
      exact List.mem_filterMap.mpr ⟨x, List.mem_cons_of_mem _ p1, p2⟩
    · exact off (e ▸ hm)
  have absent : sI.heap.get? a = none := by
    cases e : sI.heap.get? a with
    | none => rfl
    | some o => exact nomatch fresh.symm.trans (grd a o e out)
  have other : ∀ {b : Addr} {o : Obj}, sI.heap.get? b = some o → b ≠ a := by
    intro b o e z
    rw [z, absent] at e
    exact nomatch e
  have trk : ∀ {b : Addr} {o : HO}, H b = some o → upd H a (ExT cls a) b = some o := by
    intro b o e
    rw [upd_ne (ne_of_none e free)]
    exact e
  have unt : ∀ {b : Addr}, b ≠ a → H b = none → upd H a (ExT cls a) b = none := by
    intro b n e
    rw [upd_ne n]
    exact e
  have base' : Un X.fs X.ex X.H_0 (upd H a (ExT cls a)) X.s_0.heap h4 :=
    { keep := J4.base.keep, slot := J4.base.slot, there := J4.base.there
      free := fun b o e n hx => by
        obtain ⟨o2, e2⟩ := J.base.there b o e hx
        exact unt (other e2) (J4.base.free b o e n hx)
      tups := fun b xs e => trk (J4.base.tups b xs e)
      frzs := fun b o u e => trk (J4.base.frzs b o u e)
      tbls := fun b ps e => let ⟨m, e2⟩ := J4.base.tbls b ps e; ⟨m, trk e2⟩ }
  have own : ObjOk X.prog X.w (upd H a (ExT cls a)) h4 a (ExT cls a) := ⟨⟨oe, vs, at4, cl4, dt4⟩, ⟨oe, at4⟩, fun _ _ ⟨o, w, p1, p2⟩ k => ⟨o, w, k o p1, p2⟩⟩
  have hok' : HOk X.prog X.w (upd H a (ExT cls a)) h4 := fun b u e => by
    rcases Decidable.em (b = a) with rfl | n
    · rw [upd_same] at e
      exact Option.some.inj e ▸ own
    · rw [upd_ne n] at e
      exact ObjOk.stay (J4.hok b u e) (fun _ _ _ k => k) (fun _ k => trk k) (fun _ _ k => trk k)
  have fr' : upd H a (ExT cls a) X.env.locals = none := by
    obtain ⟨_, ⟨o, _, _, e, _⟩, _⟩ := J.loc
    exact unt (other e) J4.free
  exact { ok := J4.ok, os := J4.os, bare := J4.bare, base := base', loc := J4.loc, cell := J4.cell, free := fr', hok := hok', len := J4.len
          freeC := fun x c e => by
            obtain ⟨_, o, e2, _⟩ := J.cell x c e
            exact unt (other e2) (J4.freeC x c e)
          pin := fun p hp => by
            have z := J4.pin p hp
            exact ⟨z.1, unt (other (J.pin p hp).1) z.2.1, z.2.2⟩ }
theorem inSuite (I : Inv X pins q H s) : Inv (X.suite a (X.pn ++ pins)) [] q H s where
  ok := I.ok.suite a _
  os := I.os
  bare := I.bare
  base := I.base
  loc := I.loc
  cell := I.cell
  free := I.free
  freeC := I.freeC
  pin := fun p hp => I.pin p (by simpa using hp)
  hok := I.hok
  len := I.len
theorem outSuite {pn' : List (Addr × Obj)} (I : Inv (X.suite a (X.pn ++ pins)) pn' q H s) (ok : X.Ok) : Inv X pins q H s where
  ok := ok
  os := I.os
  bare := I.bare
  base := I.base
  loc := I.loc
  cell := I.cell
  free := I.free
  freeC := I.freeC
  pin := fun p hp => I.pin p (List.mem_append_left _ hp)
  hok := I.hok
  len := I.len
end
def aft1 (i : Option Nat) (s : L2.St) : L2.St := match i with
  | some i => s.set i none
  | none => s
def bef1 (i : Option Nat) (a : Addr) (s : L2.St) : L2.St := match i with
  | some i => s.set i (some (.ref a))
  | none => s
def endsAt (i : Option Nat) (D : Ends) : Ends := ⟨fun s H => D.nx (aft1 i s) H, D.rt, fun s H => D.bk (aft1 i s) H, fun s H => D.ct (aft1 i s) H⟩
def wTry (K : PySem.W.Frag) (c : Value) (i : Option Nat) (ts : TS) (Wout : WX) (D : Ends) : WX := fun cls d s H =>
  ∃ b, PySem.W.exmOne K cls c = some b ∧ if b = true then d = none ∧ ∀ a, H a = none → ts (endsAt i D) (bef1 i a s) (upd H a (ExT cls a)) else Wout cls d s H
section
variable {X : Cx} {pins : List (Addr × Obj)} {Wout : WX} {D : Ends}
theorem goesOn {a : Addr} {B h3 : Heap} {sI s' : Shared} {pn : List (Addr × Obj)} {q : L2.St} {H : Hp} {cls : Value} {d : Option Addr} (tk : Takes X Wout) (hs : X.stack = X.env :: X.outer) (hf : X.env.frame = some X.env.locals) (J : Inv X pins q H sI)
    (grd : ∀ b o, sI.heap.get? b = some o → b ∉ frs X.stack → B.get? b = some o) (fl : HandSPX.FlyingZ B (X.env :: X.outer) a (Zc cls d) h3) (up : sI.heap.UpToSlots h3) (free : H a = none) (os : s'.os = sI.os) (ag : AllBare s'.gens) (w : Wout cls d q H) :
    wpAny (model X.prog X.w) X.A (handleBy (.ref a) X.env []) (SP X pn D) X.xe { s' with heap := h3 } := by
  obtain ⟨_, _, _, oe, vs, t0, t1, t2, at3, z3, dt3, f1, _⟩ := id fl
  have last : wpAny (model X.prog X.w) X.A (setFlight (.ref a) X.env.frame) (fun _ s4 => wpAny (model X.prog X.w) X.A (throw (.ref a) : Sem Flow) (SP X pn D) X.xe s4) X.xe { s' with heap := h3 } := by
    rw [hf]
    apply HandSPX.setFlight_upZ fl
    intro h5 held5 up5
    apply wpAny_throw
    apply tk
    exact ⟨a, B, sI, pins, q, H, cls, d, rfl, J, grd, up.trans up5, .inr (.inr (hs ▸ held5)), free, os, ag, w⟩
  apply wpAny_handleBy_nil
  show wpAny _ _ (PySem.passOn _ _ _) _ _ _
  unfold PySem.passOn
  apply wpAny_bind
  apply wpAny_field at3 dt3 f1
  rw [if_neg (show ¬ (Value.ref t0 == Value.none) = true from by simp)]
  first
    | exact wpAny_bind last
    | exact wpAny_bind (wpAny_pure (wpAny_bind last))
theorem suiteEnd {a : Addr} {i : Option Nat} {f : Flow} {s6 : Shared} (ok : X.Ok) {Qf : Flow → Shared → Prop} (fin : ∀ {q6 : L2.St} {H6 : Hp} {f : Flow}, Inv X pins q6 H6 s6 → (∀ s7, Inv X pins (aft1 i q6) H6 s7 → SP X pins D f s7) → Qf f s6)
    (h : SP (X.suite a (X.pn ++ pins)) [] (endsAt i D) f s6) : Qf f s6 := by
  cases f with
  | next => obtain ⟨q6, H6, S6, w6⟩ := h; exact fin (outSuite S6 ok) fun s7 J7 => ⟨_, _, J7, w6⟩
  | brk => obtain ⟨q6, H6, S6, w6⟩ := h; exact fin (outSuite S6 ok) fun s7 J7 => ⟨_, _, J7, w6⟩
  | cont => obtain ⟨q6, H6, S6, w6⟩ := h; exact fin (outSuite S6 ok) fun s7 J7 => ⟨_, _, J7, w6⟩
  | ret u => obtain ⟨v6, q6, H6, S6, r6, w6⟩ := h; exact fin (outSuite S6 ok) fun s7 J7 => ⟨_, _, _, J7, r6, w6⟩
theorem tryTrk {x : Str} {c : Value} {i : Option Nat} {nm : Option Str} {body suite : List Stmt} {b0 : Stmt} {np pos pos' : Pos} {tb : WX → TS} {ts : TS} (noex : X.ex = []) (hs : X.stack = X.env :: X.outer) (hf : X.env.frame = some X.env.locals) (hN : X.N.Nodup)
    (hn : (i = none ∧ nm = none) ∨ ∃ j n, i = some j ∧ nm = some n ∧ X.N[j]? = some n ∧ X.env.kindOf n = some .local) (hc : Names X x c) (tk : Takes X Wout)
    (hb : ∀ (W : WX) (pn : List (Addr × Obj)) (xe : Value → Shared → Prop), Takes (X.tr pn xe) W → PassesOwn (model X.prog X.w) X.A X.env xe → PSs (X.tr pn xe) body (tb W))
    (hsu : ∀ (a : Addr) (pn : List (Addr × Obj)), PSs (X.suite a pn) (b0 :: suite) ts) :
    PS X (.Try body [.ExceptHandler (some (.Name x np)) nm (b0 :: suite) pos'] [] [] pos) (fun D q H => tb (wTry X.K c i ts Wout D) D q H) := by
  constructor
  intro pins s q H D I h
  have ok := I.ok
  apply wpAny_Try_except
  have run := (hb (wTry X.K c i ts Wout D) (X.pn ++ pins) (fun e s₁ => wpAny (model X.prog X.w) X.A (noteFrame e X.env) (fun _ s₂ => wpAny (model X.prog X.w) X.A (setFlight e none) (fun _ s₃ =>
    wpAny (model X.prog X.w) X.A (handleBy e X.env [.ExceptHandler (some (.Name x np)) nm (b0 :: suite) pos']) (SP X pins D) X.xe s₃) X.xe s₂) X.xe s₁) ?tk PassesOwn.looking).run [] s q H D (I.toTry _) h
  case tk =>
    rintro u s2 ⟨a, B, sI, pins2, q2, H2, cls, d, rfl, J2, grd, up, sky, free, os, ag, b, eb, w⟩
    have J : Inv X pins q2 H2 sI := J2.ofTry ok
    have fr : X.A.frames = some (X.env :: X.outer) := hs ▸ ok.frames
    show wpAny (model X.prog X.w) X.A (noteFrame (.ref a) X.env) _ _ _
    refine Sky.land Zc.steady fr hf (show Sky B (X.env :: X.outer) a (Zc cls d) X.env.locals s2.heap from hs ▸ sky) fun h3 fl3 up3 => ?_
    obtain ⟨oe3, vs3, at3, z3, dt3⟩ := fl3.there
    have off : a ∉ frs (X.env :: X.outer) := fun hm => by
      obtain ⟨_, o, e, nd⟩ := fl3.2.2.1.mem hm
      exact nd vs3 (Option.some.inj (at3.symm.trans e) ▸ dt3)
    have J3 : Inv X pins q2 H2 { s2 with heap := h3 } := J.landed grd fl3.1 (up.trans up3) os ag
    have S3 : Inv (X.suite a (X.pn ++ pins)) [] q2 H2 { s2 with heap := h3 } := inSuite J3
    have kind : PySem.W.Looks (model X.prog X.w) h3 (excMatches (.ref a) c) b := PySem.W.exm_one J3.kIn (fun A Q E s k q => wpAny_typeOf_ref (k _ _ at3) (z3.1.symm ▸ q)) eb
    refine wpAny_handleBy_cons (codeAny_handlers_test ?_) (fun z => nomatch z)
    have named : ∀ {Q : Value → Shared → Prop} {E : Value → Shared → Prop}, Q c { s2 with heap := h3 } → wpAny (model X.prog X.w) (X.A.mark (some (.ref a))) (eval (.Name x np) X.env) Q E { s2 with heap := h3 } := fun {Q E} k => by
      obtain ⟨g1, g2, g3 | ⟨g3, g4, g5⟩⟩ := hc
      · exact ld_glob (X := X.suite a (X.pn ++ pins)) S3 g1 g3 k g2
      · exact ld_blt (X := X.suite a (X.pn ++ pins)) S3 g1 g3 g4 k g5 g2
    refine named (kind.here ?_)
    cases b with
    | false => exact goesOn tk hs hf J grd fl3 (up.trans up3) free os ag w
    | true =>
      obtain ⟨rfl, w⟩ := w
      have tr : ∀ h4, HandSPX.FlyingZ B (X.env :: X.outer) a (Zc cls none) h4 → h3.UpToSlots h4 → Inv (X.suite a (X.pn ++ pins)) [] q2 (upd H2 a (ExT cls a)) { s2 with heap := h4 } := fun h4 fl4 up4 => by
        obtain ⟨oe4, vs4, at4, z4, dt4⟩ := fl4.there
        exact inSuite (trackExc J grd fl3.2.1 noex off (J.landed grd fl4.1 ((up.trans up3).trans up4) os ag) at4 z4 dt4 free)
      rcases hn with ⟨rfl, rfl⟩ | ⟨j, n, rfl, rfl, hj, hl⟩
      · apply codeAny_handlers_suite
        refine HandSPX.lands_againZ fl3 fun h4 fl4 up4 => ?_
        refine wpAny_mono ((hsu a (X.pn ++ pins)).run [] _ _ _ (endsAt none D) (tr h4 fl4 up4) (w a free)) (fun f s6 k6 => ?_) (fun _ _ z => z.elim)
        exact suiteEnd (i := none) (Qf := fun f s6 => SP X pins D f s6) ok (fun J6 k => k _ J6) k6
      · apply codeAny_handlers_suite_as
        refine HandSPX.lands_againZ fl3 fun h4 fl4 up4 => ?_
        refine store_ok (X := X.suite a (X.pn ++ pins)) (v := .ref a) (tr h4 fl4 up4) hN hj (.inl hl) rfl (fun s5 S5 => ?_) (.inr hl)
        refine wpAny_mono ((hsu a (X.pn ++ pins)).run [] s5 _ _ (endsAt (some j) D) S5 (w a free)) (fun f s6 k6 => ?_) (fun _ _ z => z.elim)
        exact suiteEnd (i := some j) (Qf := fun f s6 => wpAny (model X.prog X.w) X.A (do bindName X.env n .none; unbindBehindTheSuite X.env n pos') (fun _ s7 => SP X pins D f s7) X.xe s6) ok (fun J6 k => gone_ok J6 hN hj hl k) k6
  refine wpAny_mono run (fun f s1 k => ?_) (fun e s1 k => k)
  cases f with
  | next => obtain ⟨q1, H1, J1, w⟩ := k; exact wpAny_execs_nil ⟨q1, H1, J1.ofTry ok, w⟩
  | brk => obtain ⟨q1, H1, J1, w⟩ := k; exact ⟨q1, H1, J1.ofTry ok, w⟩
  | cont => obtain ⟨q1, H1, J1, w⟩ := k; exact ⟨q1, H1, J1.ofTry ok, w⟩
  | ret u => obtain ⟨v, q1, H1, J1, rr, w⟩ := k; exact ⟨v, q1, H1, J1.ofTry ok, rr, w⟩
end
end VL

namespace VL
open PySem PySem.Spec PyProof.Rows L2
def putE (i : Option Nat) (c : Nat) (r : Rho) : Rho := match i with
  | some j => r.set j (some (.exc c))
  | none => r
def remE (i : Option Nat) (r : Rho) : Rho := match i with
  | some j => r.set j none
  | none => r
def inClause (i : Option Nat) (o : SO) : SO := match o with
  | .nx r => .nx (remE i r)
  | .bk r => .bk (remE i r)
  | .ct r => .ct (remE i r)
  | .rt x r => .rt x r
  | _ => .bad
def cTry (tb : Nat → Option Bool) (i : Option Nat) (fb fs : Sv) : Sv := fun r => match fb r with
  | .exc c r1 => (match tb c with
    | some true => inClause i (fs (putE i c r1))
    | some false => .exc c r1
    | none => .bad)
  | o => o
section
variable {X : Cx} {G : GX} {C : Fc} {W : WX} {ow ow' : Ow} {r : Rho} {T T1 T2 : List (D × V)} {s : L2.St} {H H' : Hp}
theorem vs_try {x : Str} {cv : Value} {i : Option Nat} {nm : Option Str} {body suite : List Stmt} {b0 : Stmt} {np pos pos' : Pos} {tb : Nat → Option Bool} {fb fs : Sv} (noex : X.ex = []) (hs : X.stack = X.env :: X.outer) (hf : X.env.frame = some X.env.locals) (hN : X.N.Nodup)
    (hn : (i = none ∧ nm = none) ∨ ∃ j n, i = some j ∧ nm = some n ∧ X.N[j]? = some n ∧ X.env.kindOf n = some .local) (hp : ∀ j, i = some j → ∀ p ∈ C.pin, p.1 ≠ j) (hc : Names X x cv) (tk : Takes X W) (hE : ∀ c b, tb c = some b → PySem.W.exmOne X.K (.ref (G c)) cv = some b)
    (hb : ∀ (W' : WX) (pn : List (Addr × Obj)) (xe : Value → Shared → Prop), Takes (X.tr pn xe) W' → PassesOwn (model X.prog X.w) X.A X.env xe → VSs (X.tr pn xe) G C W' body fb)
    (hsu : ∀ (a : Addr) (pn : List (Addr × Obj)), VSs (X.suite a pn) G C W0 (b0 :: suite) fs) :
    VS X G C W (.Try body [.ExceptHandler (some (.Name x np)) nm (b0 :: suite) pos'] [] [] pos) (cTry tb i fb fs) := by
  refine PS.imp (tryTrk (Wout := W) (tb := fun W' => tVS G C W' fb) (ts := tVS G C W0 fs) noex hs hf hN hn hc tk hb hsu) fun D s H h => ?_
  obtain ⟨r, T, S, g⟩ := h
  refine ⟨r, T, S, ?_⟩
  unfold cTry at g
  cases e : fb r with
  | nx r1 => rw [e] at g; exact g
  | rt x r1 => rw [e] at g; exact g
  | bk r1 => rw [e] at g; exact g
  | ct r1 => rw [e] at g; exact g
  | bad => rw [e] at g; exact g
  | exc c r1 =>
    simp only [e] at g
    intro s' H' S'
    cases e1 : tb c with
    | none => simp only [e1] at g; exact g.elim
    | some b =>
      refine ⟨b, hE c b e1, ?_⟩
      simp only [e1] at g
      cases b with
      | false => rw [if_neg Bool.false_ne_true]; exact g s' H' S'
      | true =>
        rw [if_pos rfl]
        refine ⟨rfl, fun a ha => ?_⟩
        have S1 : StOk G C r1 T s' (upd H' a (ExT (.ref (G c)) a)) := S'.new ha
        have S2 : StOk G C (putE i c r1) T (bef1 i a s') (upd H' a (ExT (.ref (G c)) a)) := by
          cases i with
          | none => exact S1
          | some j => exact StOk.set (d := .exc c) (v := .ref a) (S1.pushA rfl fun ow l => ⟨a, rfl, upd_same⟩) (hp j rfl)
        refine ⟨_, T, S2, ?_⟩
        have rem : ∀ {r2 : Rho} {s2 : L2.St} {H2 : Hp}, StOk G C r2 T s2 H2 → StOk G C (remE i r2) T (aft1 i s2) H2 := fun {r2 s2 H2} S3 => by
          cases i with
          | none => exact S3
          | some j => exact S3.wipe1 (hp j rfl)
        simp only at g
        cases e2 : fs (putE i c r1) with
        | nx r2 => rw [e2] at g; exact fun s2 H2 S3 => g _ _ (rem S3)
        | bk r2 => rw [e2] at g; exact fun s2 H2 S3 => g _ _ (rem S3)
        | ct r2 => rw [e2] at g; exact fun s2 H2 S3 => g _ _ (rem S3)
        | rt x r2 => rw [e2] at g; exact g
        | exc c' r2 => rw [e2] at g; exact g.elim
        | bad => rw [e2] at g; exact g.elim

def tyN : D → Option String
  | .non => some "NoneType"
  | .bl _ => some "bool"
  | .int _ => some "int"
  | .str _ => some "str"
  | .node .lst _ _ => some "list"
  | .node .tup _ _ => some "tuple"
  | .node (.dK _) _ _ => some "dict"
  | .node (.dT _) _ _ => some "dict"
  | _ => none
def tyNames : List String := ["NoneType", "bool", "int", "str", "list", "tuple", "dict"]
def isB (a b : String) : Option Bool := if tyNames.contains a && tyNames.contains b then some (a == b || (a == "bool" && b == "int")) else none
theorem kitB_all : (tyNames.all fun a => tyNames.all fun b => decide (kitB a b = some (a == b || (a == "bool" && b == "int")))) = true := by decide +kernel
theorem isB_ok {K : PySem.W.Frag} {a b : String} {r : Bool} (h : isB a b = some r) : PySem.W.kitOne K (.type a) (.type b) = some r := by
  unfold isB at h
  split at h
  · rename_i c
    rw [Bool.and_eq_true] at c
    cases h
    have z := kitB_all
    rw [List.all_eq_true] at z
    have z2 := z a (by simpa using c.1)
    rw [List.all_eq_true] at z2
    exact kit_ty (of_decide_eq_true (z2 b (by simpa using c.2)))
  · cases h
def clsU (G : GX) : D → Option Value
  | .ty n => some (.type n)
  | .cls c => some (.ref (G c))
  | _ => none
abbrev ETab := Nat → D → Option Bool
def isiB (a : Option String) (c : D) : Option Bool := match a, c with
  | some a, .ty n => isB a n
  | _, _ => none
def isi1 (E : ETab) (d c : D) : Option Bool := match d with
  | .exc k => E k c
  | d => isiB (tyN d) c
def isiAny (E : ETab) (d : D) : List D → Option Bool
  | [] => some false
  | c :: cs => match isi1 E d c with
    | some true => some true
    | some false => isiAny E d cs
    | none => none
def isiD (E : ETab) (d c : D) : Option D := match c with
  | .node .tup _ cs => (isiAny E d cs).map .bl
  | c => (isi1 E d c).map .bl
def ETabOk (K : PySem.W.Frag) (G : GX) (E : ETab) : Prop := ∀ k c b, E k c = some b → ExcC K (G k) ∧ ∃ u, clsU G c = some u ∧ PySem.W.kitOne K (.ref (G k)) u = some b
def rIx (K : PySem.W.Frag) : List V → Hp → VK → Prop := fun xs H Q => ∃ (a A : Addr) (c : V) (u : Value) (b : Bool), xs = [.ref a, c] ∧ H a = some (ExT (.ref A) a) ∧ ExcC K A ∧ ClsV c u ∧ PySem.W.kitOne K (.ref A) u = some b ∧ Q (.bl b) H
def rIxT (K : PySem.W.Frag) : List V → Hp → VK → Prop := fun xs H Q => ∃ (a A tp : Addr) (cs : List V) (us : List Value) (b : Bool), xs = [.ref a, .ref tp] ∧ H a = some (ExT (.ref A) a) ∧ ExcC K A ∧ H tp = some (.tup cs) ∧ Paired ClsV cs us ∧ PySem.W.kitAny K (.ref A) us = some b ∧ Q (.bl b) H
theorem exc_kit {K : PySem.W.Frag} {a A : Addr} (E : ExcC K A) {pins : List (Addr × Obj)} {σ : L2.St} {H : Hp} {s : Shared} (I : Inv X pins σ H s) (h : H a = some (ExT (.ref A) a)) : ∃ oe, PySem.W.InstAt s.heap a oe A none ∧ PySem.W.KitX K (.ref a) (.ref A) (fun h => PySem.W.InstAt h a oe A none) := by
  obtain ⟨⟨oe, vs, e, z, d⟩, _⟩ := I.hok a _ h
  refine ⟨oe, ?_, PySem.W.handS_kitx_exc E.hg E.hk E.hs E.hd E.ha E.hn E.ht E.hm⟩
  obtain ⟨oc, od, oda, osl⟩ := oe
  obtain ⟨z1, z2⟩ := z
  dsimp only at z1 z2 d
  subst z1 z2 d
  exact ⟨e, rfl, rfl, trivial⟩
theorem call_ix : CallR X (.builtin "isinstance") (rIx X.K) := by
  intro pins s σ H xs us Q I r h
  obtain ⟨a, A, c, u, b, rfl, ha, E, k, e, q⟩ := h
  obtain ⟨u1, u2, rfl, r1, r2⟩ := vals2 r
  cases (show u1 = Value.ref a from r1)
  have e2 := k.eq r2
  subst e2
  obtain ⟨oe, J, Z⟩ := exc_kit E I ha
  exact PySem.W.kia_one Z I.kIn J e (fun z => nomatch z) fun tk => ⟨.bl b, H, I.tok tk, rfl, q⟩
theorem call_ixT : CallR X (.builtin "isinstance") (rIxT X.K) := by
  intro pins s σ H xs us Q I r h
  obtain ⟨a, A, tp, cs, ws, b, rfl, ha, E, hT, k, e, q⟩ := h
  obtain ⟨u1, u2, rfl, r1, r2⟩ := vals2 r
  cases (show u1 = Value.ref a from r1)
  cases (show u2 = Value.ref tp from r2)
  obtain ⟨oe, J, Z⟩ := exc_kit E I ha
  obtain ⟨_, its, rv, o, h1, h2, n, h3⟩ := I.hok tp _ hT
  have e3 := ClsV.all k rv
  subst e3
  obtain ⟨oc, od, dt, sl⟩ := o
  dsimp only at h2 h3
  subst h2 h3
  exact PySem.W.kia_tup Z I.kIn J h1 e (fun z => nomatch z) fun tk => ⟨.bl b, H, I.tok tk, rfl, q⟩
theorem tyN_ok {K : PySem.W.Frag} {d : D} {l : Loc} {v : V} {a : String} (h : Rep G ow H d l v) (e : tyN d = some a) : TyX K H v (.type a) := by
  cases d with
  | non => cases e; have z := rep_non h; subst z; exact .base .non
  | bl b => cases e; have z := rep_bl h; subst z; exact .base (.bl b)
  | int b => cases e; have z := rep_int h; subst z; exact .base (.int b)
  | str b => cases e; have z := rep_str h; subst z; exact .base (.str b)
  | node k o xs =>
    obtain ⟨p, vs, ev, h1, h2, h3⟩ := h
    subst ev
    cases k with
    | lst => cases e; exact .base (.lst h1)
    | rd => cases e
    | tup => cases e; exact .base (.tup h1)
    | dK ks => cases e; exact .base (.dK h1.1)
    | dT ks => cases e; exact .base (.dT h1.1)
    | _ => cases e
  | _ => cases e
theorem clsU_ok {d : D} {l : Loc} {v : V} {u : Value} (h : Rep G ow H d l v) (e : clsU G d = some u) : ClsV v u := by
  cases d with
  | ty n => cases e; have z : v = .ty n := h; subst z; exact .ty n
  | cls c => cases e; have z : v = .ref (G c) := h; subst z; exact .own _
  | _ => cases e
theorem isi1_ok {K : PySem.W.Frag} {E : ETab} (hE : ETabOk K G E) {d c : D} {b : Bool} (e : isi1 E d c = some b) : (∃ k u, d = .exc k ∧ ExcC K (G k) ∧ clsU G c = some u ∧ PySem.W.kitOne K (.ref (G k)) u = some b) ∨ ∃ a u, tyN d = some a ∧ clsU G c = some u ∧ PySem.W.kitOne K (.type a) u = some b := by
  have go : ∀ a, tyN d = some a → isiB (some a) c = some b → ∃ a u, tyN d = some a ∧ clsU G c = some u ∧ PySem.W.kitOne K (.type a) u = some b := fun a ha z => by
    cases c with
    | ty n => exact ⟨a, _, ha, rfl, isB_ok z⟩
    | _ => cases z
  cases d with
  | exc k =>
    obtain ⟨h1, u, h2, h3⟩ := hE k c b e
    exact .inl ⟨k, u, rfl, h1, h2, h3⟩
  | non => exact .inr (go _ rfl e)
  | bl _ => exact .inr (go _ rfl e)
  | int _ => exact .inr (go _ rfl e)
  | str _ => exact .inr (go _ rfl e)
  | node k o xs =>
    cases k with
    | ins c fs => cases e
    | rd => cases e
    | _ => exact .inr (go _ rfl e)
  | _ => cases e
theorem kitAny_of {K : PySem.W.Frag} {t : Value} {E : ETab} {d : D} (hd : ∀ c b, isi1 E d c = some b → ∃ u, clsU G c = some u ∧ PySem.W.kitOne K t u = some b) : ∀ {cs : List D} {b : Bool} {l : Loc} {i : Nat} {vs : List V}, isiAny E d cs = some b → (∀ c ∈ cs, ∃ u, clsU G c = some u) → Reps G ow H cs l i vs → ∃ us, Paired ClsV vs us ∧ PySem.W.kitAny K t us = some b
  | [], b, _, _, vs, e, _, h => by
    have z : vs = [] := h
    subst z
    cases e
    exact ⟨[], .nil, rfl⟩
  | c :: cs, b, l, i, vs, e, hu, h => by
    obtain ⟨v, ws, ev, h1, h2⟩ := h
    subst ev
    unfold isiAny at e
    cases e1 : isi1 E d c with
    | none => rw [e1] at e; cases e
    | some b1 =>
      rw [e1] at e
      obtain ⟨u, g1, g2⟩ := hd c b1 e1
      cases b1 with
      | true =>
        cases e
        have rest : ∀ {cs : List D} {l : Loc} {i : Nat} {vs : List V}, (∀ c ∈ cs, ∃ u, clsU G c = some u) → Reps G ow H cs l i vs → ∃ us, Paired ClsV vs us := by
          intro cs
          induction cs with
          | nil => intro l i vs _ h; have z : vs = [] := h; subst z; exact ⟨[], .nil⟩
          | cons c cs ih =>
            intro l i vs hu h
            obtain ⟨v, ws, ev, h1, h2⟩ := h
            subst ev
            obtain ⟨u, hc⟩ := hu c List.mem_cons_self
            obtain ⟨us, p⟩ := ih (fun c hc => hu c (List.mem_cons_of_mem _ hc)) h2
            exact ⟨u :: us, .cons (clsU_ok h1 hc) p⟩
        obtain ⟨us, p⟩ := rest (fun c hc => hu c (List.mem_cons_of_mem _ hc)) h2
        refine ⟨u :: us, .cons (clsU_ok h1 g1) p, ?_⟩
        unfold PySem.W.kitAny
        rw [g2]
      | false =>
        obtain ⟨us, p, k⟩ := kitAny_of hd e (fun c hc => hu c (List.mem_cons_of_mem _ hc)) h2
        refine ⟨u :: us, .cons (clsU_ok h1 g1) p, ?_⟩
        unfold PySem.W.kitAny
        rw [g2]
        exact k
def isCls : D → Bool
  | .ty _ => true
  | .cls _ => true
  | _ => false
def gIsi (E : ETab) : List R → Rho → EO := fun xs r => match xs with
  | [x, .val (.node .tup _ cs)] => (match opd r x with
    | some d => if (cs.all isCls && !cs.isEmpty) = true then (match isiAny E d cs with
      | some b => .ok (.val (.bl b)) r
      | none => .bad) else .bad
    | none => .bad)
  | [x, .val c] => (match opd r x with
    | some d => (match isi1 E d c with
      | some b => .ok (.val (.bl b)) r
      | none => .bad)
    | none => .bad)
  | _ => .bad
theorem isCls_u {c : D} (h : isCls c = true) : ∃ u, clsU G c = some u := by
  cases c with
  | ty n => exact ⟨_, rfl⟩
  | cls n => exact ⟨_, rfl⟩
  | _ => cases h
def rIsiAll (K : PySem.W.Frag) : List V → Hp → VK → Prop := fun vs H Q => rIsi K vs H Q ∨ rIsiT K vs H Q ∨ rIx K vs H Q ∨ rIxT K vs H Q
theorem call_isiAll : CallR X (.builtin "isinstance") (rIsiAll X.K) := call_isi.or (call_isiT.or (call_ix.or call_ixT))
theorem isi_go {E : ETab} (hE : ETabOk X.K G E) {xs : List R} {vs : List V} {Q : VK} (S : StOk G C r (T ++ pushs xs vs) s H) (l : LocsOk s xs vs) (q : Goes G C W T s Q (gIsi E xs r)) : rIsiAll X.K vs H Q := by
  obtain ⟨ow, S⟩ := S
  unfold gIsi at q
  split at q
  · rename_i x o cs
    cases vs with
    | nil => exact l.elim
    | cons v vs =>
      cases vs with
      | nil => exact l.2.elim
      | cons u vs =>
        cases vs with
        | cons _ _ => exact l.2.2.elim
        | nil =>
          have S' : StW G C ow r (T ++ (pushR x v ++ [(.node .tup o cs, u)])) s H := by simpa [pushs, pushR] using S
          split at q
          · rename_i d e1
            split at q
            · rename_i hc
              split at q
              · rename_i b eb
                have hd := opd_rep S' l.1 e1
                have ht := StW.last (T := T ++ pushR x v) (by rw [List.append_assoc]; exact S')
                obtain ⟨tp, ws, eu, h1, h2, h3⟩ := ht
                subst eu
                rw [Bool.and_eq_true] at hc
                have hu : ∀ c ∈ cs, ∃ u, clsU G c = some u := fun c hcm => isCls_u (List.all_eq_true.mp hc.1 c hcm)
                obtain ⟨c0, cs', rfl⟩ : ∃ c0 cs', cs = c0 :: cs' := by
                  cases cs with
                  | nil => exact absurd hc.2 (by simp)
                  | cons c0 cs' => exact ⟨c0, cs', rfl⟩
                obtain ⟨b1, e2⟩ : ∃ b1, isi1 E d c0 = some b1 := by
                  unfold isiAny at eb
                  cases e2 : isi1 E d c0 with
                  | none => rw [e2] at eb; cases eb
                  | some b1 => exact ⟨b1, rfl⟩
                have fin : Q (.bl b) H := goes_val q ⟨ow, S.drop⟩ rfl fun _ _ => rfl
                by_cases hx : ∃ k, d = .exc k
                · obtain ⟨k, rfl⟩ := hx
                  obtain ⟨a, ev, ha⟩ := hd
                  subst ev
                  have hex : ExcC X.K (G k) := (hE k c0 b1 e2).1
                  obtain ⟨us, p, kk⟩ := kitAny_of (E := E) (d := .exc k) (t := .ref (G k)) (fun c b hb => (hE k c b hb).2) eb hu h3
                  exact .inr (.inr (.inr ⟨a, G k, tp, ws, us, b, rfl, ha, hex, h1, p, kk, fin⟩))
                · rcases isi1_ok hE e2 with ⟨k, _, e, _⟩ | ⟨a, _, ht, _⟩
                  · exact absurd ⟨k, e⟩ hx
                  · obtain ⟨us, p, kk⟩ := kitAny_of (K := X.K) (t := .type a) (fun c b hb => by
                      rcases isi1_ok hE hb with ⟨k, _, e, _⟩ | ⟨a', u, g1, g2, g3⟩
                      · exact absurd ⟨k, e⟩ hx
                      · rw [ht] at g1; cases g1; exact ⟨u, g2, g3⟩) eb hu h3
                    exact .inr (.inl ⟨v, tp, ws, _, us, b, rfl, h1, p, tyN_ok hd ht, kk, fin⟩)
              · exact q.elim
            · exact q.elim
          · exact q.elim
  · rename_i x c hnt
    cases vs with
    | nil => exact l.elim
    | cons v vs =>
      cases vs with
      | nil => exact l.2.elim
      | cons u vs =>
        cases vs with
        | cons _ _ => exact l.2.2.elim
        | nil =>
          have S' : StW G C ow r (T ++ (pushR x v ++ [(c, u)])) s H := by simpa [pushs, pushR] using S
          split at q
          · rename_i d e1
            split at q
            · rename_i b eb
              have hd := opd_rep S' l.1 e1
              have hc := StW.last (T := T ++ pushR x v) (by rw [List.append_assoc]; exact S')
              have fin : Q (.bl b) H := goes_val q ⟨ow, S.drop⟩ rfl fun _ _ => rfl
              rcases isi1_ok hE eb with ⟨k, w, rfl, hex, hu, kk⟩ | ⟨a, w, ht, hu, kk⟩
              · obtain ⟨p, ev, hp⟩ := hd
                subst ev
                exact .inr (.inr (.inl ⟨p, G k, u, w, b, rfl, hp, hex, clsU_ok hc hu, kk, fin⟩))
              · exact .inl ⟨v, u, _, w, b, rfl, clsU_ok hc hu, tyN_ok hd ht, kk, fin⟩
            · exact q.elim
          · exact q.elim
  · exact q.elim
theorem ve_isi {E : ETab} {fs : Av} {x : Str} {p pos : Pos} {e : Expr} {es : List Expr} (hE : ETabOk X.K G E) (hg : Gl X x) (hm : X.mg x = none) (hv : bootBuiltins x = some (.builtin "isinstance")) (ha : VA X G C W (e :: es) fs) (hn : x ≠ "__name__" := by decide) (hdb : (x == ("__debug__" : Str)) = false := by decide)
    (he : starEach (e :: es) X.env = (false, eval e X.env) :: starEach es X.env := by rfl) (hpl : (backTo pos (starEach es X.env)).any (·.1) = false := by rfl) : VE X G C W (.Call (.Name x p) (e :: es) [] pos) (cB (gIsi E) fs) := by
  refine PE.imp (pe_callB call_isiAll hg hm hv ha hn hdb he hpl) fun s H Q h => ?_
  obtain ⟨r, T, S, g⟩ := h
  exact many (T2 := []) (by simpa using S) g fun xs vs r1 H1 S1 l1 g1 => isi_go hE (by simpa using S1) l1 g1
theorem ve_gcls {c : Nat} {x : Str} {pos : Pos} (hg : Gl X x) (hm : X.mg x = some (.ref (G c))) (hd : (x == ("__debug__" : Str)) = false := by decide) : VE X G C W (.Name x pos) (cC (.cls c)) :=
  ve_c (pe_glob (v := .ref (G c)) hg hm rfl hd) rfl fun _ _ _ => rfl
theorem ve_gty {n : String} {x : Str} {pos : Pos} (hg : Gl X x) (hm : X.mg x = none) (hv : bootBuiltins x = some (.type n)) (hn : x ≠ "__name__" := by decide) (hd : (x == ("__debug__" : Str)) = false := by decide) : VE X G C W (.Name x pos) (cC (.ty n)) :=
  ve_c (pe_bltn (v := .ty n) hg hm hv rfl hn hd) rfl fun _ _ _ => rfl
end
end VL

namespace VL
open PySem PySem.Spec PyProof.Rows L2
section
variable {P : Program} {w : World} {K : PySem.W.Frag} {mg : Str → Option Value} {base : Heap} {G : GX}
theorem fnV2 {x qual : Str} {st : Stmt} {f : Addr} {fd : FuncData} {N ps : List Str} {k : Nat} {fb : Sv} (F : Fun K x qual st f fd) (S : FnScope N ps (defScope st))
    (hbody : ∀ (cdv : Value) (A : Around) (outer : List Env) (s : Shared) (H : Hp) (E : XK) (C : Fc), Room k (A.deeper (envOfC qual (defScope st) s.heap.objs.size f cdv)) → C.pin = [] → VSs (cxOf (L2.CX P w) P w K mg base N qual (defScope st) f cdv A outer s H E) G C (fun cls d _ H => E cls d H) (defBody st) fb) :
    FnOk P w K mg base (L2.CX P w) (k + 1) f fd ps (spV G ps.length (runF N.length fb)) := by
  refine F.okX S (fun vs H Q E h => spV_len h) (fun cdv A outer s H vs Q E hr h => ?_)
  obtain ⟨ds, ow0, h1, h2, h3, h4, ht, h5⟩ := h
  refine ⟨_, hbody cdv A outer s H E (fcOf H ow0) hr rfl, ?_⟩
  refine ⟨startR N.length ds, [], ⟨_, start_ok (N := N) ht h3 h2 h4⟩, ?_⟩
  unfold runF at h5
  cases e : fb (startR N.length ds) with
  | nx r =>
    rw [e] at h5
    intro s' H' S'
    obtain ⟨ow, S'⟩ := S'
    exact h5 .non H' (ext_of S') S'.tabs (behind_of (b := .tm 0) (fun z => nomatch z) S' rfl)
  | rt x r =>
    simp only [e] at h5
    intro s' v H' P'
    cases e2 : opd r x with
    | none => rw [e2] at h5; exact h5.elim
    | some d =>
      rw [e2] at h5
      obtain ⟨⟨ow, S'⟩, l⟩ := P'
      have z := opd_rep (T := []) (T2 := []) (by simpa using S') l e2
      refine h5 v H' (ext_of S') S'.tabs ?_
      cases x with
      | val d' => exact behind_of (b := .tm 0) (fun z => nomatch z) S' z
      | loc i => exact behind_of (b := .sl i) (fun z => nomatch z) S' z
  | exc c r =>
    simp only [e] at h5
    intro s' H' S'
    obtain ⟨ow, S'⟩ := S'
    exact h5 H' (ext_of S') S'.tabs
  | bk r => rw [e] at h5; exact h5.elim
  | ct r => rw [e] at h5; exact h5.elim
  | bad => rw [e] at h5; exact h5.elim
end
theorem pinV {C : Fc} (h : C.pin = []) (i : Nat) : ∀ p ∈ C.pin, p.1 ≠ i := fun p hp => by rw [h] at hp; simp at hp
theorem pinVo {C : Fc} (h : C.pin = []) (l : List Nat) : ∀ p ∈ C.pin, p.1 ∉ l := fun p hp => by rw [h] at hp; simp at hp
def keyOf : D → Option (Nat ⊕ String)
  | .cls j => some (.inl j)
  | .ty n => some (.inr n)
  | _ => none
abbrev Tab := List (Nat × (Nat ⊕ String) × Bool)
def findT (k : Nat) (q : Nat ⊕ String) : Tab → Option Bool
  | [] => none
  | (i, p, b) :: t => if i = k ∧ p = q then some b else findT k q t
def etab (t : Tab) : ETab := fun k c => match keyOf c with
  | some q => findT k q t
  | none => none
def tbOf (t : Tab) (j : Nat) : Nat → Option Bool := fun k => findT k (.inl j) t
def valOf (G : GX) : Nat ⊕ String → Value
  | .inl j => .ref (G j)
  | .inr n => .type n
structure RowT (K : PySem.W.Frag) (G : GX) (k : Nat) (q : Nat ⊕ String) (b : Bool) : Prop where
  ex : ExcC K (G k)
  base : PySem.W.subIn K (valOf G q) (.type "BaseException") = some true ∨ ∃ n, q = .inr n
  kit : PySem.W.kitCls K (.ref (G k)) (valOf G q) = some b
  self : Value.ref (G k) = valOf G q → b = true
def AllT (K : PySem.W.Frag) (G : GX) : Tab → Prop
  | [] => True
  | (k, q, b) :: t => RowT K G k q b ∧ AllT K G t
theorem AllT.find {K : PySem.W.Frag} {G : GX} {k : Nat} {q : Nat ⊕ String} {b : Bool} : ∀ {t : Tab}, AllT K G t → findT k q t = some b → RowT K G k q b
  | [], _, e => by cases e
  | (i, p, c) :: t, h, e => by
    unfold findT at e
    split at e
    · rename_i z
      obtain ⟨rfl, rfl⟩ := z
      cases e
      exact h.1
    · exact AllT.find h.2 e
theorem AllT.etab {K : PySem.W.Frag} {G : GX} {t : Tab} (h : AllT K G t) : ETabOk K G (VL.etab t) := fun k c b e => by
  unfold VL.etab at e
  cases e2 : keyOf c with
  | none => rw [e2] at e; cases e
  | some q =>
    rw [e2] at e
    have r := h.find e
    refine ⟨r.ex, valOf G q, ?_, ?_⟩
    · cases c with
      | ty n => cases e2; rfl
      | cls j => cases e2; rfl
      | _ => cases e2
    · unfold PySem.W.kitOne
      by_cases z : (Value.ref (G k) == valOf G q) = true
      · rw [if_pos z, r.self (by simpa using z)]
      · rw [if_neg z]; exact r.kit
theorem AllT.exm {K : PySem.W.Frag} {G : GX} {t : Tab} (h : AllT K G t) (j : Nat) : ∀ c b, tbOf t j c = some b → PySem.W.exmOne K (.ref (G c)) (.ref (G j)) = some b := fun c b e => by
  have r := h.find e
  unfold PySem.W.exmOne
  rcases r.base with z | ⟨n, z⟩
  · have z : PySem.W.subIn K (.ref (G j)) (.type "BaseException") = some true := z
    rw [z]
    exact r.kit
  · cases z
theorem kitCls_ref {K : PySem.W.Frag} {S : Addr} {t : Value} {b : Bool} (h2 : PySem.W.isClsIn K S = true) (h3 : PySem.W.typeIn K (.ref S) = some (.type "type")) (h4 : PySem.W.subIn K t (.ref S) = some b) : PySem.W.kitCls K t (.ref S) = some b := by
  have e2 : ((PySem.W.clsIn K S).isSome && PySem.W.typeIn K (.ref S) == some (.type "type")) = true := by
    have h2' : (PySem.W.clsIn K S).isSome = true := h2
    rw [h2', h3] <;> rfl
  show (if ((PySem.W.clsIn K S).isSome && PySem.W.typeIn K (.ref S) == some (.type "type")) = true then PySem.W.subIn K t (.ref S) else none) = some b
  rw [if_pos e2]
  exact h4
structure ClsF (K : PySem.W.Frag) (S : Addr) : Prop where
  ic : PySem.W.isClsIn K S = true
  tc : PySem.W.typeIn K (.ref S) = some (.type "type")
  bc : PySem.W.subIn K (.ref S) (.type "BaseException") = some true
theorem row_cls {K : PySem.W.Frag} {G : GX} {k j : Nat} {b : Bool} (hk : ExcC K (G k)) (hj : ClsF K (G j)) (self : PySem.W.subIn K (.ref (G k)) (.ref (G k)) = some true) (h : PySem.W.subIn K (.ref (G k)) (.ref (G j)) = some b) : RowT K G k (.inl j) b :=
  ⟨hk, .inl hj.bc, kitCls_ref hj.ic hj.tc h, fun e => by
    have e : Value.ref (G k) = Value.ref (G j) := e
    rw [← e, self] at h
    exact (Option.some.inj h).symm⟩
theorem row_ty {K : PySem.W.Frag} {G : GX} {k : Nat} {n : String} {b : Bool} (hk : ExcC K (G k)) (hm : PySem.W.kitMeta n = true) (h : PySem.W.subIn K (.ref (G k)) (.type n) = some b) : RowT K G k (.inr n) b :=
  ⟨hk, .inr ⟨n, rfl⟩, by
    show (if PySem.W.kitMeta n = true then PySem.W.subIn K (.ref (G k)) (.type n) else none) = some b
    rw [if_pos hm]; exact h, fun e => nomatch e⟩

def spLaw (K : PySem.W.Frag) : Sp := fun vs H Q _ => ∃ (a : Addr) (ns : List Int), vs = [.ref a] ∧ Holds ⟨fun _ => a, K, []⟩ H a .rd (ns.map V.int) ∧ ns.length ≤ 63 ∧ ∀ H', Q (.bl true) H'
theorem frzs_ints (ns : List Int) : frzs (ns.map D.int) = ns.map D.int := by
  rw [frzs_map, List.map_map]
  exact List.map_congr_left fun _ _ => rfl
theorem reps_ints {G : GX} {ow : Ow} {H : Hp} : ∀ (ns : List Int) (l : VL.Loc) (i : Nat), Reps G ow H (ns.map D.int) l i (ns.map V.int)
  | [], _, _ => rfl
  | n :: ns, l, i => ⟨_, _, rfl, rfl, reps_ints ns l (i + 1)⟩
def script (ns : List Int) : D := .node .rd false (ns.map D.int)
theorem law_imp {K : PySem.W.Frag} {G : GX} (hG : G.K = K) (hT : G.T = []) {F : List D → FO} (h : ∀ ns : List Int, ns.length ≤ 63 → F [script ns] = .ok (.bl true)) {vs : List V} {H : Hp} {Q : VK} {E : XK} (q : spLaw K vs H Q E) : spV G 1 F vs H Q E := by
  obtain ⟨a, ns, rfl, ha, hl, hq⟩ := q
  refine ⟨[script ns], fun _ => none, rfl, ?_, (fun a l z => nomatch z), ?_, (by rw [hT]; exact fun p hp => nomatch hp), ?_⟩
  · show [D.node .rd false (frzs (ns.map D.int))] = _
    rw [frzs_ints]; rfl
  · refine ⟨_, _, rfl, ⟨a, ns.map V.int, rfl, ?_, trivial, reps_ints ns _ _⟩, rfl⟩
    rcases ha with z | z
    · exact .inl z
    · exact .inr (by rw [hG]; exact z)
  · rw [h ns hl]
    intro v H' _ _ b
    obtain ⟨ow1, b, _, hr, _⟩ := b
    have e : v = .bl true := hr
    subst e
    exact hq H'
theorem law_in {K : PySem.W.Frag} {H : Hp} {a : Addr} {ns : List Int} (hl : ns.length ≤ 63) (hO : Only H) (hS : SqL K H a (ns.map V.int)) : spLaw K [.ref a] H (fun v _ => v = .bl true) fun _ _ _ => False := by
  refine ⟨a, ns, rfl, ?_, hl, fun _ => rfl⟩
  rcases hS with z | z
  · rcases hO a with q | ⟨o, xs, q⟩
    · rcases z with z | ⟨o, z⟩
      · rw [q] at z; cases z
      · exact .inl ⟨o, z⟩
    · rcases z with z | ⟨o, z⟩
      · rw [q] at z; cases z
      · exact .inl ⟨o, z⟩
  · exact .inr z
theorem fuel_ex : ∃ n : Nat, 1000000000 ≤ n := ⟨_, Nat.le_refl _⟩
noncomputable def fuel : Nat := Classical.choose fuel_ex
theorem fuel_ge : 1000000000 ≤ fuel := Classical.choose_spec fuel_ex
end VL

namespace VL
open PySem PySem.Spec PyProof.Rows L2
section
variable {X : Cx} {G : GX} {C : Fc} {W : WX} {ow ow' : Ow} {r : Rho} {T T1 T2 : List (D × V)} {s : L2.St} {H H' : Hp} {fa fb fc : Ev} {f g : Sv} {fs : Av}
theorem units65 {k : Nat} {A : Around} (h : Room k A) : A.units + 65 < cLine := by have := h.un; omega
def gRev (x : R) (r : Rho) : EO := match opd r x with
  | some (.node .lst _ xs) => .ok (.val (.node .lst true (frzs xs).reverse)) (touch r x)
  | some (.node .rd _ xs) => .ok (.val (.node .lst true (frzs xs).reverse)) (touch r x)
  | _ => .bad
def cRev (fa : Ev) : Ev := fun r => (fa r).bd gRev
theorem Reps.rev {ds : List D} {l : Loc} {vs : List V} (e : VL.frzs ds = ds) (h : Reps G ow H ds l 0 vs) : Reps G ow H ds.reverse l 0 vs.reverse ∧ VL.frzs ds.reverse = ds.reverse := by
  have hl := h.length
  refine ⟨Reps.of_get (by simp [hl]) fun j d v q1 q2 => ?_, by rw [frzs_map, List.map_reverse, ← frzs_map, e]⟩
  have hj : j < ds.length := by
    have := (List.getElem?_eq_some_iff.mp q1).1
    simpa using this
  rw [List.getElem?_reverse hj] at q1
  rw [List.getElem?_reverse (by omega), ← hl] at q2
  obtain ⟨v', z1, z2⟩ := h.get _ d q1
  rw [q2] at z1
  cases z1
  have f : VL.frz d = d := by
    have := congrArg (·[ds.length - 1 - j]?) e
    simp only [frzs_map, List.getElem?_map, q1, Option.map_some] at this
    exact Option.some.inj this
  exact Rep.moveF d f (fun a o z q => ⟨z, q⟩) (fun _ _ z _ => z) z2
theorem ve_rev {a : Expr} {k : Nat} {p1 p2 p3 pos : Pos} (hK : G.K = X.K) (ha : VE X G C W a fa) : VE X G C W (.Subscript a (.Slice none none (some (.UnaryOp .USub (.Constant (.int 1) k p1) p2)) p3) pos) (cRev fa) := by
  refine PE.imp (pe_revL ha) fun s H Q h => ?_
  obtain ⟨r, T, S, g⟩ := h
  refine one S g fun x v r1 H1 P g1 => ?_
  obtain ⟨ow, S3⟩ := P.1
  unfold gRev at g1
  split at g1
  · rename_i o xs e1
    obtain ⟨ow', p, vs, S', ev, h1, rx, _⟩ := S3.parts P.2 e1
    subst ev
    obtain ⟨c1, c2⟩ := (rx ⟨.fo, []⟩).rev (frzs_frzs xs)
    exact ⟨p, vs, rfl, SqL.of h1, S'.made c2 c1 g1⟩
  · rename_i o xs e1
    obtain ⟨ow', p, vs, S', ev, h1, rx, _⟩ := S3.parts P.2 e1
    subst ev
    obtain ⟨c1, c2⟩ := (rx ⟨.fo, []⟩).rev (frzs_frzs xs)
    exact ⟨p, vs, rfl, hK ▸ h1.seq, S'.made c2 c1 g1⟩
  · exact g1.elim
def cIdx (i : Nat) (fa : Ev) : Ev := fun r => if isLst r i = true then cBin gIndex (cVar i) fa r else .bad
end
end VL
namespace VL
open PySem PySem.Spec PyProof.Rows L2
theorem look_relabel {env : Env} {x : Str} {k : NameKind} : ∀ {names : List (Str × NameKind)}, names.lookup x = some k →
    (names.map fun (n, k) => if (k == NameKind.free && env.scope.kind == .function && env.kindOf n == some .cell) then (n, NameKind.cell) else (n, k)).lookup x = some k ∨
    (k = .free ∧ (names.map fun (n, k) => if (k == NameKind.free && env.scope.kind == .function && env.kindOf n == some .cell) then (n, NameKind.cell) else (n, k)).lookup x = some .cell)
  | [], h => by simp at h
  | (n, k') :: r, h => by
    have ih := @look_relabel env x k r
    show List.lookup x ((if (k' == NameKind.free && env.scope.kind == .function && env.kindOf n == some .cell) = true then (n, NameKind.cell) else (n, k')) :: _) = _ ∨ (_ ∧ List.lookup x ((if (k' == NameKind.free && env.scope.kind == .function && env.kindOf n == some .cell) = true then (n, NameKind.cell) else (n, k')) :: _) = _)
    cases hx : x == n with
    | true =>
      simp only [List.lookup_cons, hx] at h
      cases h
      by_cases hc : (k == NameKind.free && env.scope.kind == .function && env.kindOf n == some .cell) = true
      · rw [if_pos hc]
        refine .inr ⟨?_, by simp only [List.lookup_cons, hx]⟩
        simp only [Bool.and_eq_true] at hc
        exact of_decide_eq_true (by simpa using hc.1.1)
      · rw [if_neg hc]
        exact .inl (by simp only [List.lookup_cons, hx])
    | false =>
      simp only [List.lookup_cons, hx] at h
      by_cases hc : (k' == NameKind.free && env.scope.kind == .function && env.kindOf n == some .cell) = true
      · rw [if_pos hc]; simp only [List.lookup_cons, hx]; exact ih h
      · rw [if_neg hc]; simp only [List.lookup_cons, hx]; exact ih h
theorem cv_free {env : Env} {scope : Scope} {x : Str} (h : scope.names.lookup x = some .free) : Vis (relabel scope env) x := (look_relabel h).elim (fun z => .inr (.inr z)) fun z => .inr (.inl z.2)
theorem cv_own {env : Env} {scope : Scope} {x : Str} (h : scope.names.lookup x = some .local) : (relabel scope env).names.lookup x = some .local := (look_relabel h).elim id fun z => nomatch z.1
theorem cv_gl {env : Env} {scope : Scope} {x : Str} (h : scope.names.lookup x = some .globalImplicit) : (relabel scope env).names.lookup x = some .globalImplicit := (look_relabel h).elim id fun z => nomatch z.1
end VL
namespace VL
open PySem PySem.Spec PyProof.Rows L2
theorem no_exc {P : Program} {w : World} {H : Hp} {s : Shared} {e : Value} {s' : Shared} (z : L2.CX P w [] H s (fun _ _ _ => False) e s') : False := by
  obtain ⟨_, _, _, _, _, _, _, _, _, _, _, _, _, _, _, _, z⟩ := z
theorem walk_lawV {k : Nat} {l : PySem.W.OpenLaw} {q : Program} {loose : List Str} {XP : (Str → Option Value) → Heap → Prop} {YP : World → Heap → Prop} {d : DefRec} {K : Params → PySem.W.Frag} (hn : l.most = some 63) (hdf : d.params.defaults = []) (hr : Room k callerA)
    (hY : ∀ (w : World) (h : Heap), YP w h → (K w.params).In h)
    (F : ∀ (w : World) (mg : Str → Option Value) (fa : Addr) (h : Heap), (K w.params).In h → h.Ns mainGlobals mg → mg d.name = some (.ref fa) →
      ∃ fd : FuncData, (∀ (s : Shared) (u : Value), BindsTo s fd ⟨[u], []⟩ [("script", u)]) ∧ ∀ base : Heap, (K w.params).In base → base.Ns mainGlobals mg → FnOk l.prog w (K w.params) mg base (L2.CX l.prog w) k fa fd ["script"] (VL.spLaw (K w.params))) :
    PySem.W.WalkO q loose XP YP l.row.toRowW d [] (fun f vs => PySem.call f vs) :=
  L2.walk_of (n := 63) (k := k) (x := "script") (CX := fun w => L2.CX l.prog w) (sp := fun w => VL.spLaw (K w.params)) hn (by decide) hdf hr hY F (fun w H a ns hl hO hS => law_in hl hO hS) fun w H s e s' z => no_exc z
end VL

namespace VL
open PySem PySem.Spec PyProof.Rows L2
section
variable {r r1 : Rho} {k : R → Rho → SO} {kE : R → Rho → EO} {g : Sv} {fa fb fc : Ev} {fs : Av} {x y : R} {d e : D} {i j : Nat} {n m : Int} {b : Bool}
@[simp] theorem q_sq1 : (SO.nx r).sq g = g r := rfl
@[simp] theorem q_sq2 : (SO.rt x r).sq g = .rt x r := rfl
@[simp] theorem q_sq3 {c : Nat} : (SO.exc c r).sq g = .exc c r := rfl
@[simp] theorem q_sq4 : (SO.bk r).sq g = .bk r := rfl
@[simp] theorem q_sq5 : (SO.ct r).sq g = .ct r := rfl
@[simp] theorem q_sq6 : SO.bad.sq g = .bad := rfl
@[simp] theorem q_st1 : (EO.ok y r).st k = k y r := rfl
@[simp] theorem q_st2 {c : Nat} : (EO.exc c r).st k = .exc c r := rfl
@[simp] theorem q_st3 : EO.bad.st k = .bad := rfl
@[simp] theorem q_abd1 {xs : List R} {kA : List R → Rho → EO} : (AO.ok xs r).bd kA = kA xs r := rfl
@[simp] theorem q_abd2 {c : Nat} {kA : List R → Rho → EO} : (AO.exc c r).bd kA = .exc c r := rfl
@[simp] theorem q_seq {f : Sv} : cSeq f g r = (f r).sq g := rfl
@[simp] theorem q_skip : cSkip r = .nx r := rfl
@[simp] theorem q_ret : cRet fa r = (fa r).st fun x r1 => .rt x r1 := rfl
@[simp] theorem q_raise {c : Nat} : cRaise c r = .exc c r := rfl
@[simp] theorem q_brk : cBrk r = .bk r := rfl
@[simp] theorem q_cnt : cCnt r = .ct r := rfl
@[simp] theorem q_expr : cExpr fa r = (fa r).st fun _ r1 => .nx r1 := rfl
@[simp] theorem q_ifs {f : Sv} : cIfS fa f g r = (fa r).st fun x r1 => match x with
  | .val (.bl true) => f r1
  | .val (.bl false) => g r1
  | _ => .bad := rfl
@[simp] theorem q_var : cVar i r = match r[i]? with
  | some (some d) => if atom d = true then .ok (.val d) r else .ok (.loc i) r
  | _ => .bad := rfl
@[simp] theorem q_c : cC d r = .ok (.val d) r := rfl
@[simp] theorem q_bin {gg : G2} : cBin gg fa fb r = (fa r).bd fun x r1 => (fb r1).bd fun y r2 => gg x y r2 := rfl
@[simp] theorem q_set : cSet fa r = (fa r).bd fun x r1 => match x with
  | .val d => .ok (.val d) r1
  | .loc i => (match opd r1 (.loc i) with
    | some d => .ok (.val (frz d)) (settle r1 (.loc i))
    | none => .bad) := rfl
@[simp] theorem q_asg {t : Tg} : cAsg t fa r = (cSet fa r).st (asgK t) := rfl
@[simp] theorem q_asgK {t : Tg} : asgK t (.val d) r = match tgt t d r with
    | some r2 => .nx r2
    | none => .bad := rfl
@[simp] theorem q_tgt : tgt (.nm i) d r = some (r.set i (some d)) := rfl
@[simp] theorem q_opd1 : opd r (.val d) = some d := rfl
@[simp] theorem q_opd2 : opd r (.loc i) = match r[i]? with
    | some (some d) => some d
    | _ => none := rfl
@[simp] theorem q_touch1 : touch r (.val d) = r := rfl
@[simp] theorem q_touch2 : touch r (.loc i) = match r[i]? with
    | some (some d) => r.set i (some (frzB d))
    | _ => r := rfl
@[simp] theorem q_settle2 : settle r (.loc i) = match r[i]? with
    | some (some d) => r.set i (some (frz d))
    | _ => r := rfl
@[simp] theorem q_settle1 : settle r (.val d) = r := rfl
@[simp] theorem q_at1 : atom (.int n) = true := rfl
@[simp] theorem q_at2 : atom (.bl b) = true := rfl
@[simp] theorem q_at3 : atom .non = true := rfl
@[simp] theorem q_at4 {s : Str} : atom (.str s) = true := rfl
@[simp] theorem q_at5 {c : Nat} : atom (.exc c) = true := rfl
@[simp] theorem q_at6 {c : Nat} : atom (.cls c) = true := rfl
@[simp] theorem q_at7 {s : String} : atom (.ty s) = true := rfl
@[simp] theorem q_at8 {k : Kd} {o : Bool} {xs : List D} : atom (.node k o xs) = false := rfl
@[simp] theorem q_g2 {f : D → D → Option D} : g2 f x y r = match opd r x, opd r y with
  | some d, some e => (match f d e with
    | some z => if atom z = true then .ok (.val z) r else .bad
    | none => .bad)
  | _, _ => .bad := rfl
@[simp] theorem q_fI {ok : Int → Int → Bool} {gg : Int → Int → D} : fI ok gg (.int n) (.int m) = if ok n m = true then some (gg n m) else none := rfl
@[simp] theorem q_yes : yes2 n m = true := rfl
@[simp] theorem q_lt : gLt x y r = g2 (fI yes2 fun i j => .bl (decide (i < j))) x y r := rfl
@[simp] theorem q_le : gLe x y r = g2 (fI yes2 fun i j => .bl (decide (i ≤ j))) x y r := rfl
@[simp] theorem q_gt : gGt x y r = g2 (fI yes2 fun i j => .bl (decide (j < i))) x y r := rfl
@[simp] theorem q_ge : gGe x y r = g2 (fI yes2 fun i j => .bl (decide (j ≤ i))) x y r := rfl
@[simp] theorem q_sub : gSub x y r = g2 (fI yes2 fun i j => .int (i - j)) x y r := rfl
@[simp] theorem q_div : gDiv x y r = g2 (fI divOk fun i j => .int (i / j)) x y r := rfl
@[simp] theorem q_mod : gMod x y r = g2 (fI posOk fun i j => .int (i % j)) x y r := rfl
@[simp] theorem q_eq : gEq x y r = g2 eqD x y r := rfl
@[simp] theorem q_ne : gNe x y r = g2 neD x y r := rfl
@[simp] theorem q_in : gIn x y r = g2 (fun d e => (inD d e).map .bl) x y r := rfl
@[simp] theorem q_eqI : eqD (.int n) (.int m) = some (.bl (decide (n = m))) := by
  have e : PyData.eqv (.int n) (.int m) = decide (n = m) := by
    show (n == m) = _
    by_cases h : n = m <;> simp [h]
  show (if (true && true) = true then some (D.bl (PyData.eqv (.int n) (.int m))) else none) = _
  rw [e]; rfl
@[simp] theorem q_neI : neD (.int n) (.int m) = some (.bl (!decide (n = m))) := by
  have e : PyData.eqv (.int n) (.int m) = decide (n = m) := by
    show (n == m) = _
    by_cases h : n = m <;> simp [h]
  show (if (true && true) = true then some (D.bl (!PyData.eqv (.int n) (.int m))) else none) = _
  rw [e]; rfl
@[simp] theorem q_addI : gAdd (.val (.int n)) (.val (.int m)) r = .ok (.val (.int (n + m))) r := by unfold gAdd; rfl
theorem q_add : gAdd x y r = match opd r x, opd r y with
  | some (.int i), some (.int j) => .ok (.val (.int (i + j))) r
  | some (.int i), some (.bl k) => .ok (.val (.int (i + b2i k))) r
  | some (.str a), some (.str b) => if a.length + b.length ≤ 16777216 then .ok (.val (.str (a ++ b))) r else .bad
  | some (.node .lst _ xs), some (.node .lst _ ys) => if xs.length + ys.length ≤ 16777216 then .ok (.val (.node .lst true (frzs xs ++ frzs ys))) (touch (touch r y) x) else .bad
  | _, _ => .bad := by unfold gAdd; rfl
@[simp] theorem q_mulI : gMul (.val (.int n)) (.val (.int m)) r = if mulOk n m = true then .ok (.val (.int (n * m))) r else .bad := by unfold gMul; rfl
theorem q_mulL {o : Bool} {xs : List D} (h : 0 ≤ n ∧ n < 9000000000000000000 ∧ xs.length * n.toNat ≤ 16777216) : gMul (.val (.node .lst o xs)) (.val (.int n)) r = .ok (.val (.node .lst true (List.replicate n.toNat (frzs xs)).flatten)) r := by
  unfold gMul
  show (if n.natAbs < 2 ^ 63 ∧ xs.length * n.toNat ≤ 16777216 then _ else _) = _
  rw [if_pos ⟨by omega, h.2.2⟩]; rfl
theorem q_mul : gMul x y r = match opd r x, opd r y with
  | some (.int i), some (.int j) => if mulOk i j = true then .ok (.val (.int (i * j))) r else .bad
  | some (.node .lst _ xs), some (.int k) => if k.natAbs < 2 ^ 63 ∧ xs.length * k.toNat ≤ 16777216 then .ok (.val (.node .lst true (List.replicate k.toNat (frzs xs)).flatten)) (touch r x) else .bad
  | _, _ => .bad := by unfold gMul; rfl
@[simp] theorem q_ix : gIx x y r = match opd r x, opd r y with
  | some (.node .lst _ xs), some (.int i) => (match atI xs i with | some d => pick r x d | none => .bad)
  | some (.node .rd _ xs), some (.int i) => (match atI xs i with | some d => pick r x d | none => .bad)
  | some (.node .tup _ xs), some (.int i) => (match atI xs i with | some d => pick r x d | none => .bad)
  | some (.str z), some (.int i) => if z.length ≤ 16777216 then (match atI z.cps.toList i with | some c => .ok (.val (.str ⟨#[c]⟩)) r | none => .bad) else .bad
  | _, _ => .bad := rfl
@[simp] theorem q_pick : pick r x d = if atom d = true then .ok (.val d) r else .ok (.val (frz d)) (touch r x) := rfl
@[simp] theorem q_and : cAnd fa fb r = (fa r).bd fun x r1 => match x with
  | .val (.bl true) => fb r1
  | .val (.bl false) => .ok (.val (.bl false)) r1
  | _ => .bad := rfl
@[simp] theorem q_or : cOr fa fb r = (fa r).bd fun x r1 => match x with
  | .val (.bl true) => .ok (.val (.bl true)) r1
  | .val (.bl false) => fb r1
  | _ => .bad := rfl
@[simp] theorem q_not : cNot fa r = (fa r).bd fun x r1 => match x with
  | .val (.bl b) => .ok (.val (.bl (!b))) r1
  | _ => .bad := rfl
@[simp] theorem q_neg : cNeg fa r = (fa r).bd fun x r1 => match x with
  | .val (.int i) => .ok (.val (.int (-i))) r1
  | _ => .bad := rfl
@[simp] theorem q_nil : cNil r = .ok [] r := rfl
@[simp] theorem q_cons : cCons fa fs r = match fa r with
  | .ok x r1 => (match fs r1 with
    | .ok xs r2 => .ok (x :: xs) r2
    | .exc c r2 => .exc c r2
    | .bad => .bad)
  | .exc c r1 => .exc c r1
  | .bad => .bad := rfl
@[simp] theorem q_opds0 : opds r [] = some [] := rfl
@[simp] theorem q_opds1 {xs : List R} : opds r (x :: xs) = match opd r x, opds r xs with
    | some d, some ds => some (d :: ds)
    | _, _ => none := rfl
@[simp] theorem q_settles0 : settles r [] = r := rfl
@[simp] theorem q_settles1 {xs : List R} : settles r (x :: xs) = settles (settle r x) xs := rfl
@[simp] theorem q_valsR0 : valsR [] = some [] := rfl
@[simp] theorem q_valsR1 {xs : List R} : valsR (.val d :: xs) = match valsR xs with
    | some ds => some (d :: ds)
    | none => none := rfl
@[simp] theorem q_lst : cLst fs r = (fs r).bd fun xs r1 => match valsR xs with
  | some ds => if ds.length ≤ 16777216 then .ok (.val (.node .lst true ds)) r1 else .bad
  | none => .bad := rfl
@[simp] theorem q_tup : cTup fs r = (fs r).bd fun xs r1 => match valsR xs with
  | some ds => if ds.length ≤ 16777216 then .ok (.val (.node .tup false ds)) r1 else .bad
  | none => .bad := rfl
@[simp] theorem q_B {gg : List R → Rho → EO} : cB gg fs r = (fs r).bd gg := rfl
@[simp] theorem q_b1 {f : D → Option D} : b1 f [x] r = match opd r x with
    | some d => (match f d with
      | some z => if atom z = true then .ok (.val z) r else .bad
      | none => .bad)
    | none => .bad := rfl
@[simp] theorem q_len1 {o : Bool} {xs : List D} : lenD (.node .lst o xs) = some (.int xs.length) := rfl
@[simp] theorem q_len2 {o : Bool} {xs : List D} : lenD (.node .rd o xs) = some (.int xs.length) := rfl
@[simp] theorem q_len3 {o : Bool} {xs : List D} : lenD (.node .tup o xs) = some (.int xs.length) := rfl
@[simp] theorem q_listOf : gListOf [x] r = match opd r x with
    | some (.node .lst _ xs) => .ok (.val (.node .lst true (frzs xs))) (touch r x)
    | some (.node .rd _ xs) => .ok (.val (.node .lst true (frzs xs))) (touch r x)
    | some (.node .tup _ xs) => .ok (.val (.node .lst true (frzs xs))) (touch r x)
    | _ => .bad := rfl
@[simp] theorem q_max2 : gMax2 [.val (.int n), .val (.int m)] r = .ok (.val (.int (if m > n then m else n))) r := rfl
@[simp] theorem q_min2 : gMin2 [.val (.int n), .val (.int m)] r = .ok (.val (.int (if m < n then m else n))) r := rfl
@[simp] theorem q_call {nn : Nat} {F : List D → FO} : cCall nn F fs r = (fs r).bd fun xs r1 => if xs.length = nn then callK F xs r1 else .bad := rfl
@[simp] theorem q_callK {F : List D → FO} {xs : List R} : callK F xs r = match opds r xs with
  | some ds => (match F (frzs ds) with
    | .ok d => if noL d = true then .ok (.val d) r else .ok (.val d) (settles r xs)
    | .exc c => .exc c r
    | .bad => .bad)
  | none => .bad := rfl
@[simp] theorem q_callM {nn : Nat} {F : D → List D → MO} : cCallM nn i F fs r = (fs r).bd (callKM nn i F) := rfl
@[simp] theorem q_callKM {nn : Nat} {F : D → List D → MO} {rest : List R} : callKM nn i F (.loc j :: rest) r = if j = i ∧ rest.length = nn then (match opd r (.loc i), valsR rest with
    | some d0, some ds => (match F d0 (frzs ds) with
      | .ok d d0' => .ok (.val d) (r.set i (some d0'))
      | .bad => .bad)
    | _, _ => .bad) else .bad := rfl
@[simp] theorem q_for {t : Tg} {fi : Iv} {f : Sv} : cFor t fi f r = match fi r with
  | .ok ds r1 => forL t f ds r1
  | .exc c r1 => .exc c r1
  | .bad => .bad := rfl
@[simp] theorem q_iLst : iLst fa r = match cSet fa r with
  | .ok (.val (.node .lst _ ds)) r1 => .ok ds r1
  | .ok (.val (.node .rd _ ds)) r1 => .ok ds r1
  | .exc c r1 => .exc c r1
  | _ => .bad := rfl
@[simp] theorem q_iRng {gg : Rho → List R → IO} : iRng gg fs r = match fs r with
  | .ok xs r1 => gg r1 xs
  | .exc c r1 => .exc c r1
  | .bad => .bad := rfl
@[simp] theorem q_rng1 : rngI1 r [.val (.int n)] = if within n = true then .ok (rngD 0 1 n.toNat) r else .bad := rfl
@[simp] theorem q_rng2 : rngI2 r [.val (.int n), .val (.int m)] = if (within n && within m) = true then .ok (rngD n 1 (m - n).toNat) r else .bad := rfl
@[simp] theorem q_lc {vs : List Nat} {t : Tg} {fi : Iv} {fc : Option Ev} {fe : Ev} : cLc vs t fi fc fe r = match fi r with
  | .ok ds r1 => (match lcL t fc fe vs ds [] (wipeR r1 vs) with
    | .ok acc r2 => .ok (.val (.node .lst true acc)) (backR r1 r2 vs)
    | .bad => .bad)
  | .exc c r1 => .exc c r1
  | .bad => .bad := rfl
@[simp] theorem q_wipe0 : wipeR r [] = r := rfl
@[simp] theorem q_wipe1 {vs : List Nat} : wipeR r (i :: vs) = (wipeR r vs).set i none := rfl
@[simp] theorem q_isLst : isLst r i = match r[i]? with
  | some (some (.node .lst _ _)) => true
  | _ => false := rfl
@[simp] theorem q_app : cApp i fa r = if isLst r i = true then (cSet fa r).bd (appK i) else .bad := rfl
@[simp] theorem q_appK : appK i (.val d) r = match r[i]? with
  | some (some (.node .lst true ds)) => if ds.length < 16777216 then .ok (.val .non) (r.set i (some (.node .lst true (ds ++ [d])))) else .bad
  | _ => .bad := by
  unfold appK
  split <;> rename_i h <;> simp_all
@[simp] theorem q_setIx {fk : Ev} : cSetIx i fk fa r = (cSet fa r).st fun x r1 => if isLst r1 i = true then (fk r1).st (setIxK i x) else .bad := rfl
@[simp] theorem q_setIxK : setIxK i (.val d) y r = match opd r y, r[i]? with
  | some (.int k), some (some (.node .lst true ds)) => (match ixN ds.length k with
    | some j => .nx (r.set i (some (.node .lst true (ds.set j d))))
    | none => .bad)
  | _, _ => .bad := by
  unfold setIxK
  split <;> rename_i h <;> simp_all <;> rfl
end
def dk (a b c : Int) : D := .node .lst true [.int a, .int b, .int c]
def lints (o : Bool) (ns : List Int) : D := .node .lst o (ns.map .int)
@[simp] theorem frz_lints {o : Bool} {ns : List Int} : frz (lints o ns) = lints false ns := by
  show D.node .lst false (frzs (ns.map D.int)) = _
  rw [frzs_ints]; rfl
end VL
namespace VL
open PySem PySem.Spec PyProof.Rows L2
theorem posOk_of {i m : Int} (hm : 0 < m) : posOk i m = true := decide_eq_true hm
theorem divOk_of' {i m : Int} (hm : 0 < m) (hm2 : m < 1073741824) : divOk i m = true := by
  have h2 : m.natAbs < 1073741824 := by omega
  unfold divOk; simp [hm, h2]
theorem mulOk_l {i j : Int} (h : i.natAbs < 2 ^ 64) : mulOk i j = true := by unfold mulOk; simp [h]
theorem mulOk_r {i j : Int} (h : j.natAbs < 2 ^ 64) : mulOk i j = true := by
  unfold mulOk
  rw [decide_eq_true h]; simp
theorem canLay_ints : ∀ ns : List Int, PyData.canLayAll0 (toPys (ns.map D.int)) = true ∧ PyData.depthAll (toPys (ns.map D.int)) = 0
  | [] => ⟨rfl, rfl⟩
  | n :: ns => by
    obtain ⟨h1, h2⟩ := canLay_ints ns
    constructor
    · show (true && PyData.canLayAll0 (toPys (ns.map D.int))) = true
      rw [h1]; rfl
    · show max 0 (PyData.depthAll (toPys (ns.map D.int))) = 0
      rw [h2]; rfl
theorem eqOk_lints (o : Bool) (ns : List Int) : eqOk (.node .lst o (ns.map .int)) = true := by
  obtain ⟨h1, h2⟩ := canLay_ints ns
  show (PyData.canLayAll0 (toPys (ns.map D.int)) && decide (PyData.depthAll (toPys (ns.map D.int)) + 1 ≤ 64)) = true
  rw [h1, h2]; rfl
theorem eqv_ints : ∀ xs ys : List Int, PyData.eqvAll (toPys (xs.map D.int)) (toPys (ys.map D.int)) = decide (xs = ys)
  | [], [] => rfl
  | [], y :: ys => rfl
  | x :: xs, [] => rfl
  | x :: xs, y :: ys => by
    show ((x == y) && PyData.eqvAll (toPys (xs.map D.int)) (toPys (ys.map D.int))) = _
    rw [eqv_ints xs ys]
    by_cases h : x = y <;> by_cases h2 : xs = ys <;> simp [h, h2]
theorem eq_lints {o o' : Bool} (xs ys : List Int) : eqD (.node .lst o (xs.map .int)) (.node .lst o' (ys.map .int)) = some (.bl (decide (xs = ys))) := by
  unfold eqD
  rw [eqOk_lints, eqOk_lints]
  show some (D.bl (PyData.eqvAll (toPys (xs.map D.int)) (toPys (ys.map D.int)))) = _
  rw [eqv_ints]
theorem ne_lints {o o' : Bool} (xs ys : List Int) : neD (.node .lst o (xs.map .int)) (.node .lst o' (ys.map .int)) = some (.bl (!decide (xs = ys))) := by
  unfold neD
  rw [eqOk_lints, eqOk_lints]
  show some (D.bl (!PyData.eqvAll (toPys (xs.map D.int)) (toPys (ys.map D.int)))) = _
  rw [eqv_ints]
theorem frzs_int (ns : List Int) : frzs (List.map D.int ns) = List.map D.int ns := frzs_ints ns
theorem noLs_ints : ∀ ns : List Int, noLs (ns.map D.int) = true
  | [] => rfl
  | n :: ns => by show (true && noLs (ns.map D.int)) = true; rw [noLs_ints ns]; rfl
theorem noL_lints (ns : List Int) : noL (.node .lst true (ns.map .int)) = true := by
  show ((true || false) && noLs (ns.map D.int)) = true
  rw [noLs_ints]; rfl
theorem forL_all {α : Type} {t : Tg} {f : Sv} (st : α → Rho) (P : α → Prop) : ∀ (ds : List D) (a : α), P a → (∀ a d, d ∈ ds → P a → ∃ r1 a', tgt t d (st a) = some r1 ∧ f r1 = .nx (st a') ∧ P a') → ∃ a', forL t f ds (st a) = .nx (st a') ∧ P a'
  | [], a, h, _ => ⟨a, rfl, h⟩
  | d :: ds, a, h, k => by
    obtain ⟨r1, a', e1, e2, h'⟩ := k a d List.mem_cons_self h
    obtain ⟨a'', e3, h''⟩ := forL_all st P ds a' h' (fun a d hd => k a d (List.mem_cons_of_mem _ hd))
    refine ⟨a'', ?_, h''⟩
    show (match tgt t d (st a) with | none => _ | some r1 => _) = _
    rw [e1]
    show (match f r1 with | .nx r2 => forL t f ds r2 | .ct r2 => forL t f ds r2 | .bk r2 => .nx r2 | o => o) = _
    rw [e2]
    exact e3
theorem lt_fuel {n : Nat} (h : n < 1000000000) : n < fuel := Nat.lt_of_lt_of_le h fuel_ge
def bi (bs : List Bool) : List Int := bs.map fun b => (b.toNat : Int)
def wb (bs : List Bool) : Nat := bs.foldl (fun n b => 2 * n + b.toNat) 0
def figs (n : Nat) : List Bool := if h : n = 0 then [] else (n % 2 == 1) :: figs (n / 2)
termination_by n
decreasing_by omega
theorem figs_zero : figs 0 = [] := by rw [figs]; rfl
theorem figs_pos {n : Nat} (h : n ≠ 0) : figs n = (n % 2 == 1) :: figs (n / 2) := by rw [figs]; simp [h]
theorem figs_len {k : Nat} : ∀ {n : Nat}, n < 2 ^ k → (figs n).length ≤ k := by
  induction k with
  | zero => intro n h; have : n = 0 := by simpa using h
            subst this; rw [figs_zero]; simp
  | succ k ih =>
    intro n h
    by_cases h0 : n = 0
    · subst h0; rw [figs_zero]; simp
    · rw [figs_pos h0]
      have := ih (n := n / 2) (by rw [Nat.pow_succ] at h; omega)
      simp; omega
theorem wb_snoc (bs : List Bool) (b : Bool) : wb (bs ++ [b]) = 2 * wb bs + b.toNat := by unfold wb; rw [List.foldl_append]; rfl
theorem snoc_ind {α : Type} {P : List α → Prop} (h0 : P []) (h1 : ∀ l a, P l → P (l ++ [a])) (l : List α) : P l := by
  have z : ∀ m : List α, P m.reverse := fun m => by
    induction m with
    | nil => exact h0
    | cons a m ih => rw [List.reverse_cons]; exact h1 _ _ ih
  have := z l.reverse
  rwa [List.reverse_reverse] at this
theorem wb_lt : ∀ bs : List Bool, wb bs < 2 ^ bs.length := by
  refine snoc_ind (by decide) fun bs b ih => ?_
  · rw [wb_snoc, List.length_append, List.length_singleton, Nat.pow_succ]
    have : b.toNat ≤ 1 := by cases b <;> decide
    omega
theorem figs_wb : ∀ bs : List Bool, ∃ z, bs = List.replicate z false ++ (figs (wb bs)).reverse := by
  refine snoc_ind ⟨0, by show [] = [] ++ (figs 0).reverse; rw [figs_zero]; rfl⟩ fun bs b ih => ?_
  · obtain ⟨z, e⟩ := ih
    rw [wb_snoc]
    by_cases h : 2 * wb bs + b.toNat = 0
    · have hb : b = false := by cases b with
        | false => rfl
        | true => simp at h
      have hw : wb bs = 0 := by omega
      rw [h, figs_zero]
      rw [hw, figs_zero] at e
      refine ⟨z + 1, ?_⟩
      rw [e, hb]
      simp [List.replicate_succ']
    · refine ⟨z, ?_⟩
      have h1 : (2 * wb bs + b.toNat) / 2 = wb bs := by
        have : b.toNat ≤ 1 := by cases b <;> decide
        omega
      have h2 : ((2 * wb bs + b.toNat) % 2 == 1) = b := by
        cases b with
        | false => simp
        | true =>
          have : (2 * wb bs + 1) % 2 = 1 := by omega
          simp [this]
      rw [figs_pos h, h1, h2, List.reverse_cons, ← List.append_assoc, ← e]
end VL
namespace VL
open PySem PySem.Spec PyProof.Rows L2
@[simp] theorem q_rev {fa : Ev} {r : Rho} : cRev fa r = (fa r).bd gRev := rfl
@[simp] theorem q_gRev {x : R} {r : Rho} : gRev x r = match opd r x with
  | some (.node .lst _ xs) => .ok (.val (.node .lst true (frzs xs).reverse)) (touch r x)
  | some (.node .rd _ xs) => .ok (.val (.node .lst true (frzs xs).reverse)) (touch r x)
  | _ => .bad := rfl
@[simp] theorem q_sl {fa : Ev} {lo hi : Option Ev} {r : Rho} : cSl fa lo hi r = (fa r).bd fun x r1 => part lo r1 fun l r2 => part hi r2 fun h r3 => gSl x l h r3 := rfl
@[simp] theorem q_part0 {r : Rho} {k : Option Int → Rho → EO} : part none r k = k none r := rfl
@[simp] theorem q_part1 {f : Ev} {r : Rho} {k : Option Int → Rho → EO} : part (some f) r k = (f r).bd fun y r' => match y with
    | .val (.int i) => k (some i) r'
    | _ => .bad := rfl
@[simp] theorem q_gSl {x : R} {lo hi : Option Int} {r : Rho} : gSl x lo hi r = match opd r x with
  | some (.node .lst _ xs) => .ok (.val (.node .lst true (cutD (frzs xs) lo hi))) (touch r x)
  | some (.node .rd _ xs) => .ok (.val (.node .lst true (cutD (frzs xs) lo hi))) (touch r x)
  | some (.node .tup _ xs) => .ok (.val (.node .tup false (cutD (frzs xs) lo hi))) (touch r x)
  | _ => .bad := rfl
@[simp] theorem q_idx {i : Nat} {fa : Ev} {r : Rho} : cIdx i fa r = if isLst r i = true then cBin gIndex (cVar i) fa r else .bad := rfl
@[simp] theorem q_gIndex {x y : R} {r : Rho} : gIndex x y r = match opd r x, opd r y with
  | some (.node .lst _ ds), some d => if (flatD d && ds.all flatD) = true then (match idxD ds d with
    | some j => .ok (.val (.int (j : Nat))) r
    | none => .bad) else .bad
  | _, _ => .bad := rfl
@[simp] theorem q_frzB {k : Kd} {o : Bool} {xs : List D} : frzB (.node k o xs) = .node k o (frzs xs) := rfl
@[simp] theorem q_try {tb : Nat → Option Bool} {i : Option Nat} {fb fs : Sv} {r : Rho} : cTry tb i fb fs r = match fb r with
  | .exc c r1 => (match tb c with
    | some true => inClause i (fs (putE i c r1))
    | some false => .exc c r1
    | none => .bad)
  | o => o := rfl
@[simp] theorem q_putE {j c : Nat} {r : Rho} : putE (some j) c r = r.set j (some (.exc c)) := rfl
@[simp] theorem q_putE0 {c : Nat} {r : Rho} : putE none c r = r := rfl
@[simp] theorem q_inC {j : Nat} {r : Rho} : inClause (some j) (.nx r) = .nx (r.set j none) := rfl
@[simp] theorem q_inC0 {r : Rho} : inClause none (.nx r) = .nx r := rfl
@[simp] theorem q_inC2 {j : Option Nat} {x : R} {r : Rho} : inClause j (.rt x r) = .rt x r := rfl
end VL

namespace VL
open PySem PySem.Spec PyProof.Rows L2
theorem q_addL {x y : R} {r : Rho} {o o' : Bool} {xs ys : List D} (h1 : opd r x = some (.node .lst o xs)) (h2 : opd r y = some (.node .lst o' ys)) (h : xs.length + ys.length ≤ 16777216) : gAdd x y r = .ok (.val (.node .lst true (frzs xs ++ frzs ys))) (touch (touch r y) x) := by
  rw [q_add, h1, h2]
  show (if xs.length + ys.length ≤ 16777216 then _ else _) = _
  rw [if_pos h]
theorem q_addLI {r : Rho} {o o' : Bool} (xs ys : List Int) (h : xs.length + ys.length ≤ 16777216) : gAdd (.val (.node .lst o (xs.map .int))) (.val (.node .lst o' (ys.map .int))) r = .ok (.val (.node .lst true ((xs ++ ys).map .int))) r := by
  rw [q_addL (o := o) (o' := o') (xs := xs.map .int) (ys := ys.map .int) rfl rfl (by rw [List.length_map, List.length_map]; exact h), frzs_ints, frzs_ints, List.map_append]
  rfl
end VL

namespace VL
open PySem PySem.Spec PyProof.Rows L2
theorem forL_cons {t : Tg} {f : Sv} {d : D} {ds : List D} {r r1 r2 : Rho} (h1 : tgt t d r = some r1) (h2 : f r1 = .nx r2) : forL t f (d :: ds) r = forL t f ds r2 := by
  show (match tgt t d r with | none => _ | some r1 => _) = _
  rw [h1]
  show (match f r1 with | .nx r2 => forL t f ds r2 | .ct r2 => forL t f ds r2 | .bk r2 => .nx r2 | o => o) = _
  rw [h2]
end VL

namespace VL
open PySem PySem.Spec PyProof.Rows L2
section
variable {X : Cx} {G : GX} {C : Fc} {W : WX} {ow ow' : Ow} {r : Rho} {T T1 T2 : List (D × V)} {s : L2.St} {H H' : Hp} {fa fb fc : Ev} {fs : Av}
theorem touch_lst {i : Nat} {ds : List D} (q : r[i]? = some (some (.node .lst true ds))) : touch r (.loc i) = r.set i (some (.node .lst true (frzs ds))) := by
  show (match r[i]? with | some (some d) => r.set i (some (frzB d)) | _ => r) = _
  rw [q]; rfl
def cPop (i : Nat) : Ev := fun r => match r[i]? with
  | some (some (.node .lst true ds)) => (match (frzs ds)[ds.length - 1]? with
    | some d => .ok (.val d) ((r.set i (some (.node .lst true (frzs ds)))).set i (some (.node .lst true (frzs ds).dropLast)))
    | none => .bad)
  | _ => .bad
def extK (i : Nat) (x : R) (r1 : Rho) : EO := match opd r1 x with
  | some (.node .lst _ es) => (match (touch r1 x)[i]? with
    | some (some (.node .lst true ds)) => if ds.length + es.length ≤ 16777216 then .ok (.val .non) (((touch r1 x).set i (some (.node .lst true (frzs ds)))).set i (some (.node .lst true (frzs ds ++ frzs es)))) else .bad
    | _ => .bad)
  | _ => .bad
def cExt (i : Nat) (fa : Ev) : Ev := fun r => if isLst r i = true then (fa r).bd (extK i) else .bad
end
end VL

namespace VL
open PySem PySem.Spec PyProof.Rows L2
end VL
namespace VL
open PySem PySem.Spec PyProof.Rows L2
def FP (k : Nat) (d : D) : Prop := (toPy d).canLay0 = true ∧ (toPy d).depth ≤ k
theorem FP.mono {k m : Nat} {d : D} (h : FP k d) (hm : k ≤ m) : FP m d := ⟨h.1, Nat.le_trans h.2 hm⟩
theorem fp_int (n : Int) (k : Nat) : FP k (.int n) := ⟨rfl, Nat.zero_le _⟩
theorem fp_bl (b : Bool) (k : Nat) : FP k (.bl b) := ⟨rfl, Nat.zero_le _⟩
theorem fp_non (k : Nat) : FP k .non := ⟨rfl, Nat.zero_le _⟩
theorem fps {k : Nat} : ∀ {xs : List D}, (∀ x ∈ xs, FP k x) → PyData.canLayAll0 (toPys xs) = true ∧ PyData.depthAll (toPys xs) ≤ k
  | [], _ => ⟨rfl, Nat.zero_le _⟩
  | x :: xs, h => by
    obtain ⟨h1, h2⟩ := fps (fun y hy => h y (List.mem_cons_of_mem _ hy))
    obtain ⟨h3, h4⟩ := h x List.mem_cons_self
    constructor
    · show ((toPy x).canLay0 && PyData.canLayAll0 (toPys xs)) = true
      rw [h1, h3]; rfl
    · show max (toPy x).depth (PyData.depthAll (toPys xs)) ≤ k
      exact Nat.max_le.mpr ⟨h4, h2⟩
theorem fp_lst {k : Nat} {o : Bool} {xs : List D} (h : ∀ x ∈ xs, FP k x) : FP (k + 1) (.node .lst o xs) := ⟨(fps h).1, Nat.succ_le_succ (fps h).2⟩
theorem fp_tup {k : Nat} {o : Bool} {xs : List D} (h : ∀ x ∈ xs, FP k x) : FP (k + 1) (.node .tup o xs) := ⟨(fps h).1, Nat.succ_le_succ (fps h).2⟩
theorem eqOk_fp {k : Nat} {d : D} (h : FP k d) (hk : k ≤ 64) : eqOk d = true := by
  show ((toPy d).canLay0 && decide ((toPy d).depth ≤ 64)) = true
  rw [h.1, decide_eq_true (Nat.le_trans h.2 hk)]; rfl
mutual
theorem eqv_refl : ∀ d : PyData, d.canLay0 = true → PyData.eqv d d = true
  | .none, _ => rfl
  | .bool b, _ => by cases b <;> rfl
  | .int i, _ => by show (i == i) = true; simp
  | .str x, _ => by show (x == x) = true; simp
  | .list xs, h => eqvAll_refl xs (by simpa [PyData.canLay0] using h)
  | .tuple xs, h => eqvAll_refl xs (by simpa [PyData.canLay0] using h)
  | .dict _, h => by simp [PyData.canLay0] at h
theorem eqvAll_refl : ∀ ds : List PyData, PyData.canLayAll0 ds = true → PyData.eqvAll ds ds = true
  | [], _ => rfl
  | d :: ds, h => by
    have h' : d.canLay0 = true ∧ PyData.canLayAll0 ds = true := by simpa [PyData.canLayAll0] using h
    show (PyData.eqv d d && PyData.eqvAll ds ds) = true
    rw [eqv_refl d h'.1, eqvAll_refl ds h'.2]; rfl
end
theorem eqD_same {k : Nat} {d e : D} (h : FP k d) (hk : k ≤ 64) (he : toPy d = toPy e) : eqD d e = some (.bl true) := by
  have h2 : FP k e := ⟨he ▸ h.1, he ▸ h.2⟩
  unfold eqD
  rw [eqOk_fp h hk, eqOk_fp h2 hk, ← he, eqv_refl _ h.1]; rfl
theorem neD_same {k : Nat} {d e : D} (h : FP k d) (hk : k ≤ 64) (he : toPy d = toPy e) : neD d e = some (.bl false) := by
  have h2 : FP k e := ⟨he ▸ h.1, he ▸ h.2⟩
  unfold neD
  rw [eqOk_fp h hk, eqOk_fp h2 hk, ← he, eqv_refl _ h.1]; rfl
theorem eq_nil {k : Nat} {o o' : Bool} {xs : List D} (h : ∀ x ∈ xs, FP k x) (hk : k < 64) : eqD (.node .lst o xs) (.node .lst o' []) = some (.bl xs.isEmpty) := by
  unfold eqD
  have h2 : eqOk (.node .lst o' []) = true := rfl
  rw [eqOk_fp (fp_lst h) hk, h2]
  cases xs with
  | nil => rfl
  | cons x xs => rfl
def pr (p : Int × Int) : D := .node .tup false [.int p.1, .int p.2]
@[simp] theorem frz_pr (p : Int × Int) : frz (pr p) = pr p := rfl
@[simp] theorem frzs_pr (ps : List (Int × Int)) : frzs (ps.map pr) = ps.map pr := by
  rw [frzs_map, List.map_map]
  exact List.map_congr_left fun _ _ => rfl
@[simp] theorem atom_pr (p : Int × Int) : atom (pr p) = false := rfl
theorem fp_pr (p : Int × Int) (k : Nat) (hk : 1 ≤ k) : FP k (pr p) := ⟨rfl, hk⟩
theorem fp_prs (ps : List (Int × Int)) : ∀ x ∈ ps.map pr, FP 1 x := fun x hx => by
  obtain ⟨p, _, rfl⟩ := List.mem_map.mp hx
  exact fp_pr p 1 (Nat.le_refl 1)
theorem noLs_prs : ∀ ps : List (Int × Int), noLs (ps.map pr) = true
  | [] => rfl
  | p :: ps => by show (true && noLs (ps.map pr)) = true; rw [noLs_prs ps]; rfl
theorem noL_prs (ps : List (Int × Int)) : noL (.node .lst true (ps.map pr)) = true := by
  show ((true || false) && noLs (ps.map pr)) = true
  rw [noLs_prs]; rfl
theorem eqv_prs : ∀ xs ys : List (Int × Int), PyData.eqvAll (toPys (xs.map pr)) (toPys (ys.map pr)) = decide (xs = ys)
  | [], [] => rfl
  | [], y :: ys => rfl
  | x :: xs, [] => rfl
  | x :: xs, y :: ys => by
    show (((x.1 == y.1) && ((x.2 == y.2) && true)) && PyData.eqvAll (toPys (xs.map pr)) (toPys (ys.map pr))) = _
    rw [eqv_prs xs ys]
    obtain ⟨a, b⟩ := x
    obtain ⟨c, d⟩ := y
    by_cases h : a = c <;> by_cases h2 : b = d <;> by_cases h3 : xs = ys <;> simp [h, h2, h3]
theorem ne_prs {o o' : Bool} (xs ys : List (Int × Int)) : neD (.node .lst o (xs.map pr)) (.node .lst o' (ys.map pr)) = some (.bl (!decide (xs = ys))) := by
  unfold neD
  rw [eqOk_fp (fp_lst (fp_prs xs)) (by decide), eqOk_fp (fp_lst (fp_prs ys)) (by decide)]
  show some (D.bl (!PyData.eqvAll (toPys (xs.map pr)) (toPys (ys.map pr)))) = _
  rw [eqv_prs]
theorem eq_prs {o o' : Bool} (xs ys : List (Int × Int)) : eqD (.node .lst o (xs.map pr)) (.node .lst o' (ys.map pr)) = some (.bl (decide (xs = ys))) := by
  unfold eqD
  rw [eqOk_fp (fp_lst (fp_prs xs)) (by decide), eqOk_fp (fp_lst (fp_prs ys)) (by decide)]
  show some (D.bl (PyData.eqvAll (toPys (xs.map pr)) (toPys (ys.map pr)))) = _
  rw [eqv_prs]
theorem seq_nx {f g : Sv} {r r1 : Rho} (h : f r = .nx r1) : cSeq f g r = g r1 := by
  rw [q_seq, h]; rfl
theorem seq_rt {f g : Sv} {r r1 : Rho} {x : R} (h : f r = .rt x r1) : cSeq f g r = .rt x r1 := by
  rw [q_seq, h]; rfl
theorem seq_exc {f g : Sv} {r r1 : Rho} {c : Nat} (h : f r = .exc c r1) : cSeq f g r = .exc c r1 := by
  rw [q_seq, h]; rfl
theorem set_same {r : Rho} {i : Nat} {d : D} (h : r[i]? = some (some d)) : r.set i (some d) = r := by
  refine List.ext_getElem? fun j => ?_
  by_cases hj : i = j
  · subst hj
    rw [List.getElem?_set_self (List.getElem?_eq_some_iff.mp h).1, h]
  · rw [List.getElem?_set_ne hj]
theorem opd_loc' {r : Rho} {i : Nat} {d : D} (h : r[i]? = some (some d)) : opd r (.loc i) = some d := by
  show (match r[i]? with | some (some d) => some d | _ => none) = _
  rw [h]
theorem touch_fz {r : Rho} {i : Nat} {k : Kd} {o : Bool} {ys : List D} (h : r[i]? = some (some (.node k o ys))) (f : frzs ys = ys) : touch r (.loc i) = r := by
  show (match r[i]? with | some (some d) => r.set i (some (frzB d)) | _ => r) = r
  rw [h]
  show r.set i (some (.node k o (frzs ys))) = r
  rw [f]
  exact set_same h
theorem atI_nat {α : Type} {xs : List α} (i : Nat) : atI xs (i : Int) = xs[i]? := by
  unfold atI ixN
  have z1 : (0 : Int) ≤ (i : Int) := by omega
  rw [if_pos z1]
  by_cases h : i < xs.length
  · rw [if_pos (show (i : Int) < (xs.length : Nat) by omega), Int.toNat_natCast]; rfl
  · rw [if_neg (show ¬ (i : Int) < (xs.length : Nat) by omega), List.getElem?_eq_none (by omega)]; rfl
theorem within_le {n : Int} (h1 : -1000000000 ≤ n) (h2 : n ≤ 1000000000) : within n = true := by unfold within; simp; omega
theorem pop_fz {r : Rho} {i : Nat} {xs : List D} {d : D} (h : r[i]? = some (some (.node .lst true (xs ++ [d])))) (f : frzs (xs ++ [d]) = xs ++ [d]) : cPop i r = .ok (.val d) (r.set i (some (.node .lst true xs))) := by
  unfold cPop
  rw [h]
  have e : (frzs (xs ++ [d]))[(xs ++ [d]).length - 1]? = some d := by rw [f]; simp
  have e2 : (frzs (xs ++ [d])).dropLast = xs := by rw [f]; simp
  simp only [e, e2, List.set_set]
theorem ix_fz {r : Rho} {i : Nat} {k : Int} {o : Bool} {xs : List D} {d : D} (h : r[i]? = some (some (.node .lst o xs))) (f : frzs xs = xs) (hd : atI xs k = some d) (fd : frz d = d) : gIx (.loc i) (.val (.int k)) r = .ok (.val d) r := by
  have a : opd r (.loc i) = some (.node .lst o xs) := opd_loc' h
  simp only [q_ix, a, q_opd1, hd, q_pick, fd, touch_fz h f]
  split <;> rfl
@[simp] theorem q_aug {i : Nat} {g : G2} {fb : Ev} {r : Rho} : cAug i g fb r = match r[i]? with
  | some (some d) => if atom d = true then (fb r).st fun y r1 => (g (.val d) y r1).st fun z r2 => match z with
    | .val d' => .nx (r2.set i (some d'))
    | .loc _ => .bad else .bad
  | _ => .bad := rfl
@[simp] theorem q_iAdd {n m : Int} : iAdd (.int n) (.int m) = some (.int (n + m)) := rfl
theorem ext_fz {r : Rho} {i : Nat} {o : Bool} {xs ys : List D} (h : r[i]? = some (some (.node .lst true xs))) (f1 : frzs xs = xs) (f2 : frzs ys = ys) (hl : xs.length + ys.length ≤ 16777216) : extK i (.val (.node .lst o ys)) r = .ok (.val .non) (r.set i (some (.node .lst true (xs ++ ys)))) := by
  unfold extK
  have a : opd r (.val (.node .lst o ys)) = some (.node .lst o ys) := rfl
  have b : touch r (.val (.node .lst o ys)) = r := rfl
  rw [a]
  show (match (touch r (.val (.node .lst o ys)))[i]? with | some (some (.node .lst true ds)) => _ | _ => _) = _
  rw [b, h]
  show (if xs.length + ys.length ≤ 16777216 then _ else _) = _
  rw [if_pos hl, f1, f2, List.set_set]
theorem cvar_loc {r : Rho} {i : Nat} {d : D} (h : r[i]? = some (some d)) (a : atom d = false) : cVar i r = .ok (.loc i) r := by
  rw [q_var, h]
  show (if atom d = true then _ else _) = _
  rw [a]; rfl
theorem cvar_at {r : Rho} {i : Nat} {d : D} (h : r[i]? = some (some d)) (a : atom d = true) : cVar i r = .ok (.val d) r := by
  rw [q_var, h]
  show (if atom d = true then _ else _) = _
  rw [a]; rfl
theorem g2_ok {r : Rho} {f : D → D → Option D} {x y : R} {d e z : D} (h1 : opd r x = some d) (h2 : opd r y = some e) (h : f d e = some z) (a : atom z = true) : g2 f x y r = .ok (.val z) r := by
  rw [q_g2, h1, h2]
  show (match f d e with | some z => if atom z = true then EO.ok (R.val z) r else .bad | none => .bad) = _
  rw [h]
  show (if atom z = true then EO.ok (R.val z) r else .bad) = _
  rw [if_pos a]
theorem bin_ok {fa fb : Ev} {g : G2} {r r1 r2 : Rho} {x y : R} {o : EO} (h1 : fa r = .ok x r1) (h2 : fb r1 = .ok y r2) (h : g x y r2 = o) : cBin g fa fb r = o := by
  rw [q_bin, h1, bd_ok, h2, bd_ok, h]
theorem ifs_ok {fa : Ev} {f g : Sv} {r r1 : Rho} {b : Bool} {o : SO} (h : fa r = .ok (.val (.bl b)) r1) (h2 : (if b = true then f r1 else g r1) = o) : cIfS fa f g r = o := by
  rw [q_ifs, h, q_st1]
  cases b <;> exact h2
theorem call1 {F : List D → FO} {fa : Ev} {r r1 : Rho} {x : R} {z d : D} (h : fa r = .ok x r1) (ho : opd r1 x = some z) (hF : F [frz z] = .ok d) (nl : noL d = true) : cCall 1 F (cCons fa cNil) r = .ok (.val d) r1 := by
  have fz : frzs [z] = [frz z] := rfl
  rw [q_call, q_cons, h]
  show callK F [x] r1 = _
  rw [q_callK, q_opds1, ho, q_opds0]
  show (match F (frzs [z]) with | .ok d => if noL d = true then EO.ok (.val d) r1 else .ok (.val d) (settles r1 [x]) | .exc c => .exc c r1 | .bad => .bad) = _
  rw [fz, hF]
  show (if noL d = true then EO.ok (.val d) r1 else _) = _
  rw [if_pos nl]
theorem asg_ok {fa : Ev} {r r1 : Rho} {i : Nat} {d : D} (h : fa r = .ok (.val d) r1) : cAsg (.nm i) fa r = .nx (r1.set i (some d)) := by
  rw [q_asg, q_set, h, bd_ok]
  rfl
theorem for_ok {t : Tg} {fi : Iv} {f : Sv} {r r1 : Rho} {ds : List D} {o : SO} (h : fi r = .ok ds r1) (h2 : forL t f ds r1 = o) : cFor t fi f r = o := by
  rw [q_for, h]
  exact h2
theorem it_lst {r : Rho} {i : Nat} {o : Bool} {xs : List D} (h : r[i]? = some (some (.node .lst o xs))) (f : frzs xs = xs) : iLst (cVar i) r = .ok xs (r.set i (some (.node .lst false xs))) := by
  have e : frz (.node .lst o xs) = .node .lst false xs := by show D.node .lst false (frzs xs) = _; rw [f]
  rw [q_iLst, q_set, cvar_loc h rfl, bd_ok]
  show (match (match opd r (.loc i) with | some d => EO.ok (.val (frz d)) (settle r (.loc i)) | none => .bad) with | .ok (.val (.node .lst _ ds)) r1 => IO.ok ds r1 | .ok (.val (.node .rd _ ds)) r1 => IO.ok ds r1 | .exc c r1 => .exc c r1 | _ => .bad) = _
  rw [opd_loc' h, q_settle2, h]
  show (match EO.ok (R.val (frz (.node .lst o xs))) (r.set i (some (frz (.node .lst o xs)))) with | .ok (.val (.node .lst _ ds)) r1 => IO.ok ds r1 | .ok (.val (.node .rd _ ds)) r1 => IO.ok ds r1 | .exc c r1 => .exc c r1 | _ => .bad) = _
  rw [e]
theorem cutD_some (xs : List D) (a b : Nat) : VL.cutD xs (some (a : Int)) (some (b : Int)) = (xs.drop a).take (b - a) := by
  unfold VL.cutD
  show (xs.drop (HT.sIx xs.length 0 (some ((a : Nat) : Int)))).take (HT.sIx xs.length xs.length (some ((b : Nat) : Int)) - HT.sIx xs.length 0 (some ((a : Nat) : Int))) = _
  rw [HT.sIx_nat, HT.sIx_nat]
  by_cases h : a ≤ xs.length
  · rw [Nat.min_eq_left h]
    by_cases h2 : b ≤ xs.length
    · rw [Nat.min_eq_left h2]
    · rw [Nat.min_eq_right (by omega), List.take_of_length_le (by rw [List.length_drop]; omega), List.take_of_length_le (by rw [List.length_drop]; omega)]
  · rw [Nat.min_eq_right (show xs.length ≤ a by omega), List.drop_length, List.drop_of_length_le (show xs.length ≤ a by omega), List.take_nil, List.take_nil]
theorem cutD_to (xs : List D) (b : Nat) : VL.cutD xs none (some (b : Int)) = xs.take b := by
  unfold VL.cutD
  show (xs.drop (HT.sIx xs.length 0 none)).take (HT.sIx xs.length xs.length (some ((b : Nat) : Int)) - HT.sIx xs.length 0 none) = _
  rw [HT.sIx_nat, HT.sIx_none, List.drop_zero, Nat.sub_zero]
  by_cases h2 : b ≤ xs.length
  · rw [Nat.min_eq_left h2]
  · rw [Nat.min_eq_right (by omega), List.take_length, List.take_of_length_le (by omega)]
theorem cutD_of (xs : List D) (a : Nat) : VL.cutD xs (some (a : Int)) none = xs.drop a := by
  unfold VL.cutD
  show (xs.drop (HT.sIx xs.length 0 (some ((a : Nat) : Int)))).take (HT.sIx xs.length xs.length none - HT.sIx xs.length 0 (some ((a : Nat) : Int))) = _
  rw [HT.sIx_nat, HT.sIx_none]
  by_cases h : a ≤ xs.length
  · rw [Nat.min_eq_left h, List.take_of_length_le (by rw [List.length_drop]; omega)]
  · rw [Nat.min_eq_right (by omega), List.drop_length, List.drop_of_length_le (by omega), List.take_nil]
theorem not_ok {fa : Ev} {r r1 : Rho} {b : Bool} (h : fa r = .ok (.val (.bl b)) r1) : cNot fa r = .ok (.val (.bl (!b))) r1 := by
  rw [q_not, h, bd_ok]
theorem app_ok {fa : Ev} {r r1 : Rho} {i : Nat} {d : D} {ds : List D} (hi : isLst r i = true) (h : fa r = .ok (.val d) r1) (h2 : r1[i]? = some (some (.node .lst true ds))) (hl : ds.length < 16777216) : cExpr (cApp i fa) r = .nx (r1.set i (some (.node .lst true (ds ++ [d])))) := by
  rw [q_expr, q_app, if_pos hi, q_set, h, bd_ok]
  show (appK i (.val d) r1).st _ = _
  rw [q_appK, h2]
  show (if ds.length < 16777216 then EO.ok (.val .non) (r1.set i (some (.node .lst true (ds ++ [d])))) else .bad).st _ = _
  rw [if_pos hl]
  rfl
theorem frz_lst {o : Bool} {xs : List D} (f : frzs xs = xs) : frz (.node .lst o xs) = .node .lst false xs := by
  show D.node .lst false (frzs xs) = _
  rw [f]
section
variable {fa fb : Ev} {r r1 r2 : Rho} {i j : Int}
theorem mod_ok (h1 : fa r = .ok (.val (.int i)) r1) (h2 : fb r1 = .ok (.val (.int j)) r2) (hj : 0 < j) : cBin gMod fa fb r = .ok (.val (.int (i % j))) r2 :=
  bin_ok h1 h2 (g2_ok rfl rfl (by rw [q_fI, if_pos (posOk_of hj)]) rfl)
theorem div_ok (h1 : fa r = .ok (.val (.int i)) r1) (h2 : fb r1 = .ok (.val (.int j)) r2) (hj : 0 < j) (hj2 : j < 1073741824) : cBin gDiv fa fb r = .ok (.val (.int (i / j))) r2 :=
  bin_ok h1 h2 (g2_ok rfl rfl (by rw [q_fI, if_pos (divOk_of' hj hj2)]) rfl)
theorem mul_ok (h1 : fa r = .ok (.val (.int i)) r1) (h2 : fb r1 = .ok (.val (.int j)) r2) (hm : mulOk i j = true) : cBin gMul fa fb r = .ok (.val (.int (i * j))) r2 :=
  bin_ok h1 h2 (by rw [q_mulI, if_pos hm])
theorem add_ok (h1 : fa r = .ok (.val (.int i)) r1) (h2 : fb r1 = .ok (.val (.int j)) r2) : cBin gAdd fa fb r = .ok (.val (.int (i + j))) r2 := bin_ok h1 h2 q_addI
theorem sub_ok (h1 : fa r = .ok (.val (.int i)) r1) (h2 : fb r1 = .ok (.val (.int j)) r2) : cBin VL.gSub fa fb r = .ok (.val (.int (i - j))) r2 := bin_ok h1 h2 (g2_ok rfl rfl rfl rfl)
theorem lt_ok (h1 : fa r = .ok (.val (.int i)) r1) (h2 : fb r1 = .ok (.val (.int j)) r2) : cBin gLt fa fb r = .ok (.val (.bl (decide (i < j)))) r2 := bin_ok h1 h2 (g2_ok rfl rfl rfl rfl)
theorem le_ok (h1 : fa r = .ok (.val (.int i)) r1) (h2 : fb r1 = .ok (.val (.int j)) r2) : cBin gLe fa fb r = .ok (.val (.bl (decide (i ≤ j)))) r2 := bin_ok h1 h2 (g2_ok rfl rfl rfl rfl)
theorem gt_ok (h1 : fa r = .ok (.val (.int i)) r1) (h2 : fb r1 = .ok (.val (.int j)) r2) : cBin gGt fa fb r = .ok (.val (.bl (decide (j < i)))) r2 := bin_ok h1 h2 (g2_ok rfl rfl rfl rfl)
theorem ge_ok (h1 : fa r = .ok (.val (.int i)) r1) (h2 : fb r1 = .ok (.val (.int j)) r2) : cBin gGe fa fb r = .ok (.val (.bl (decide (j ≤ i)))) r2 := bin_ok h1 h2 (g2_ok rfl rfl rfl rfl)
theorem eq_ok (h1 : fa r = .ok (.val (.int i)) r1) (h2 : fb r1 = .ok (.val (.int j)) r2) : cBin gEq fa fb r = .ok (.val (.bl (decide (i = j)))) r2 := bin_ok h1 h2 (g2_ok rfl rfl q_eqI rfl)
theorem ne_ok (h1 : fa r = .ok (.val (.int i)) r1) (h2 : fb r1 = .ok (.val (.int j)) r2) : cBin gNe fa fb r = .ok (.val (.bl (!decide (i = j)))) r2 := bin_ok h1 h2 (g2_ok rfl rfl q_neI rfl)
theorem b1_ok {f : D → Option D} {x : R} {d z : D} (h : fa r = .ok x r1) (ho : opd r1 x = some d) (hf : f d = some z) (a : atom z = true) : cB (b1 f) (cCons fa cNil) r = .ok (.val z) r1 := by
  rw [q_B, q_cons, h]
  show (b1 f [x] r1) = _
  rw [q_b1, ho]
  show (match f d with | some z => if atom z = true then EO.ok (.val z) r1 else .bad | none => .bad) = _
  rw [hf]
  show (if atom z = true then EO.ok (.val z) r1 else .bad) = _
  rw [if_pos a]
theorem ifs_yes {fa : Ev} {f g : Sv} {o : SO} (h : fa r = .ok (.val (.bl true)) r1) (h2 : f r1 = o) : cIfS fa f g r = o := ifs_ok h h2
theorem ifs_not {fa : Ev} {f g : Sv} {o : SO} (h : fa r = .ok (.val (.bl false)) r1) (h2 : g r1 = o) : cIfS fa f g r = o := ifs_ok h h2
theorem ret_ok {fa : Ev} {x : R} (h : fa r = .ok x r1) : cRet fa r = .rt x r1 := by
  rw [q_ret, h]; rfl
end
theorem pow_ok (i j : Int) (h : powOk i j = true) (r : Rho) : gPow (.val (.int i)) (.val (.int j)) r = .ok (.val (.int (i ^ j.toNat))) r :=
  g2_ok rfl rfl (by rw [q_fI, if_pos h]) rfl
theorem runF_ok {n : Nat} {f : Sv} {ds : List D} {x : R} {r : Rho} {d : D} (h : f (startR n ds) = .rt x r) (ho : opd r x = some d) : runF n f ds = .ok d := by
  unfold runF
  rw [h]
  show (match opd r x with | some d => FO.ok d | none => .bad) = _
  rw [ho]
end VL

namespace VL
open PySem PySem.Spec PyProof.Rows L2
section
variable {X : Cx} {G : GX} {C : Fc} {W : WX} {ow ow' : Ow} {r : Rho} {T T1 T2 : List (D × V)} {s : L2.St} {H H' : Hp} {fa fb fc : Ev} {f g : Sv}
end
end VL

namespace VL
open PySem PySem.Spec PyProof.Rows L2
section
variable {X : Cx} {G : GX} {C : Fc} {W : WX} {ow ow' : Ow} {r : Rho} {T T1 T2 : List (D × V)} {s : L2.St} {H H' : Hp} {fa fb fc : Ev} {f g : Sv} {fs : Av}
def enumD : Nat → List D → List D
  | _, [] => []
  | n, d :: ds => .node .tup false [.int (n : Nat), d] :: enumD (n + 1) ds
theorem enumD_get : ∀ (ds : List D) (n i : Nat), (enumD n ds)[i]? = (ds[i]?).map fun d => D.node .tup false [.int ((n + i : Nat) : Int), d]
  | [], n, i => by simp [enumD]
  | d :: ds, n, 0 => by simp [enumD]
  | d :: ds, n, i + 1 => by
    show (enumD (n + 1) ds)[i]? = _
    rw [enumD_get ds (n + 1) i, List.getElem?_cons_succ, show n + 1 + i = n + (i + 1) by omega]
theorem enumD_length : ∀ (ds : List D) (n : Nat), (enumD n ds).length = ds.length
  | [], n => rfl
  | d :: ds, n => by show (enumD (n + 1) ds).length + 1 = ds.length + 1; rw [enumD_length ds (n + 1)]
theorem frz_at {ds : List D} {i : Nat} {d : D} (e : frzs ds = ds) (h : ds[i]? = some d) : frz d = d := by
  have := congrArg (·[i]?) e
  simp only [frzs_map, List.getElem?_map, h, Option.map_some] at this
  exact Option.some.inj this
theorem cur_enum {K : PySem.W.Frag} {k : Kd} {ds : List D} {a : Addr} (hk : ∀ H vs, Holds G H a k vs → SqL K H a vs) (e : frzs ds = ds) : CurOk G C (Ite K a) (enumD 0 ds) fun _ => [(.node k false ds, .ref a)] := by
  refine ⟨fun i d r T s H hd S => ?_, fun r T s H S => ?_⟩
  · rw [enumD_get, Nat.zero_add] at hd
    cases h : ds[i]? with
    | none => rw [h] at hd; cases hd
    | some d0 =>
      rw [h] at hd
      cases hd
      obtain ⟨ow, S⟩ := S
      obtain ⟨a', vs, ev, h1, h2, h3⟩ := S.last
      cases ev
      obtain ⟨x, x1, x2⟩ := h3.get i d0 h
      refine ⟨⟨vs, x, hk H vs h1, x1⟩, fun v H' y => ?_⟩
      obtain ⟨p, x', ev, hp, eH, hx⟩ := y
      subst ev eH
      have ex := hx vs (hk H vs h1)
      rw [x1] at ex
      cases ex
      have fd := frz_at e h
      have e' : frzs [D.int (i : Nat), d0] = [D.int (i : Nat), d0] := by show [frz (D.int (i : Nat)), frz d0] = _; rw [fd]; rfl
      exact StOk.alloc false ⟨ow, S.pushFs e' (l := ⟨.fo, []⟩) (i := 0) (vs := [V.int (i : Nat), x]) ⟨_, _, rfl, rfl, _, _, rfl, Rep.moveF _ fd (fun _ _ z q => ⟨z, q⟩) (fun _ _ z _ => z) x2, rfl⟩⟩ rfl hp holds_tup (fun z => nomatch z)
  · obtain ⟨ow, S⟩ := S
    obtain ⟨a', vs, ev, h1, h2, h3⟩ := S.last
    cases ev
    exact ⟨vs, hk H vs h1, by rw [← h3.length, enumD_length]; exact Nat.le_refl _⟩
def gEn (r : Rho) (xs : List R) : IO := match xs with
  | [.val (.node .lst _ ds)] => .ok (enumD 0 (frzs ds)) r
  | [.val (.node .rd _ ds)] => .ok (enumD 0 (frzs ds)) r
  | _ => .bad
theorem vi_enum {e : Expr} {p pos tpos : Pos} {elts : List Expr} {kk : Nat} (hK : G.K = X.K) (hg : Gl X "enumerate") (hm : X.mg "enumerate" = none) (ha : VA X G C W [e] fs) (hs : starEach [e] X.env = [(false, eval e X.env)] := by rfl) : VI X G C W (.Tuple elts kk tpos) (.Call (.Name "enumerate" p) [e] [] pos) (iRng gEn fs) := by
  refine PI.imp (pi_enum hg hm ha hs) fun s H R h => ?_
  obtain ⟨r, T, S, h⟩ := h
  refine tV_rng S h fun xs vs r1 H1 S1 l1 g => ?_
  unfold gEn at g
  split at g
  · rename_i o ds
    obtain ⟨v, ev, lx, ep⟩ := one_arg l1
    rw [ep] at S1
    subst ev
    obtain ⟨ow, S1⟩ := S1
    have S2 := (show StW G C ow r1 (T ++ (D.node .lst o ds, v) :: []) s H1 from S1).frzTm
    obtain ⟨a, vs, ev, h1, h2, h3⟩ := (show StW G C _ r1 (T ++ [(frz (.node .lst o ds), v)]) s H1 from S2).last
    subst ev
    exact ⟨a, vs, rfl, SqL.of h1, g _ _ _ (cur_enum (k := .lst) (fun _ _ z => SqL.of z) (frzs_frzs ds)) ⟨_, S2⟩⟩
  · rename_i o ds
    obtain ⟨v, ev, lx, ep⟩ := one_arg l1
    rw [ep] at S1
    subst ev
    obtain ⟨ow, S1⟩ := S1
    have S2 := (show StW G C ow r1 (T ++ (D.node .rd o ds, v) :: []) s H1 from S1).frzTm
    obtain ⟨a, vs, ev, h1, h2, h3⟩ := (show StW G C _ r1 (T ++ [(frz (.node .rd o ds), v)]) s H1 from S2).last
    subst ev
    exact ⟨a, vs, rfl, hK ▸ h1.seq, g _ _ _ (cur_enum (k := .rd) (fun _ _ z => hK ▸ z.seq) (frzs_frzs ds)) ⟨_, S2⟩⟩
  · exact g.elim
def rgD (a b : Int) : List D := (List.range (b - a).toNat).map fun i => .int (a + (i : Nat))
def rgOk (a b : Int) : Bool := within a && within b && decide ((b - a).toNat ≤ 16777216)
def gLr1 (x : R) (r : Rho) : EO := match opd r x with
  | some (.int n) => if rgOk 0 n = true then .ok (.val (.node .lst true (rgD 0 n))) r else .bad
  | _ => .bad
def remK (i : Nat) (x : R) (r1 : Rho) : EO := match opd r1 x, r1[i]? with
  | some (.int k), some (some (.node .lst true ds)) => (match intsOf ds with
    | some ns => (match ns.findIdx? (fun n => n == k) with
      | some j => .ok (.val .non) ((r1.set i (some (.node .lst true (frzs ds)))).set i (some (.node .lst true ((ns.eraseIdx j).map .int))))
      | none => .bad)
    | none => .bad)
  | _, _ => .bad
end
def ins1 (x : Int) : List Int → List Int
  | [] => [x]
  | y :: ys => if x ≤ y then x :: y :: ys else y :: ins1 x ys
def srt : List Int → List Int
  | [] => []
  | x :: xs => ins1 x (srt xs)
section
variable {X : Cx} {G : GX} {C : Fc} {W : WX} {ow ow' : Ow} {r : Rho} {T T1 T2 : List (D × V)} {s : L2.St} {H H' : Hp} {fa fb fc : Ev} {f g : Sv} {fs : Av}
def maxL : List Int → Option Int
  | [] => none
  | x :: xs => some (xs.foldl max x)
theorem foldl_max (xs : List Int) : ∀ x : Int, x ≤ xs.foldl max x ∧ (∀ y ∈ xs, y ≤ xs.foldl max x) ∧ (xs.foldl max x = x ∨ xs.foldl max x ∈ xs) := by
  induction xs with
  | nil => exact fun x => ⟨Int.le_refl x, fun y hy => by simp at hy, .inl rfl⟩
  | cons z xs ih =>
    intro x
    obtain ⟨h1, h2, h3⟩ := ih (max x z)
    refine ⟨Int.le_trans (Int.le_max_left x z) h1, fun y hy => ?_, ?_⟩
    · rcases List.mem_cons.mp hy with e | e
      · rw [e]; exact Int.le_trans (Int.le_max_right x z) h1
      · exact h2 y e
    · rcases h3 with e | e
      · show xs.foldl max (max x z) = x ∨ xs.foldl max (max x z) ∈ z :: xs
        rw [e]
        rcases Int.le_total x z with q | q
        · right; rw [Int.max_eq_right q]; exact List.mem_cons_self
        · left; exact Int.max_eq_left q
      · exact .inr (List.mem_cons_of_mem _ e)
def lstInts : D → Option (List Int)
  | .node .lst _ ds => intsOf ds
  | _ => none
def maxD (d : D) : Option D := (lstInts d).bind fun ns => (maxL ns).map .int
theorem lstInts_rep {d : D} {ns : List Int} {l : Loc} {v : V} (K : PySem.W.Frag) (e : lstInts d = some ns) (h : Rep G ow H d l v) : ∃ a, v = .ref a ∧ SqL K H a (ns.map V.int) := by
  cases d with
  | node k o xs =>
    cases k with
    | lst =>
      obtain ⟨a, vs, ev, h1, h2, h3⟩ := h
      exact ⟨a, ev, by rw [← ints_rep e h3]; exact SqL.of h1⟩
    | _ => cases e
  | _ => cases e
theorem cs_maxL (hc : X.calm = true) : CallS X (.builtin "max") (b1 maxD) := by
  refine CallS.scal (cr_max hc) fun G hG ow H d z l v Q h e q => ?_
  unfold maxD at e
  cases e1 : lstInts d with
  | none => rw [e1] at e; cases e
  | some ns =>
    rw [e1] at e
    obtain ⟨a, ev, hs⟩ := lstInts_rep X.K e1 h
    cases ns with
    | nil => cases e
    | cons x xs =>
      cases e
      refine ⟨a, x :: xs, by rw [ev], hs, by simp, fun m hm hy => ?_⟩
      obtain ⟨h1, h2, h3⟩ := foldl_max xs x
      have e : m = xs.foldl max x := by
        refine Int.le_antisymm ?_ ?_
        · rcases List.mem_cons.mp hm with e | e
          · rw [e]; exact h1
          · exact h2 m e
        · rcases h3 with e | e
          · rw [e]; exact hy x List.mem_cons_self
          · exact hy _ (List.mem_cons_of_mem _ e)
      rw [e]
      exact q _ fun _ _ => rfl
end
end VL

namespace VL
open PySem PySem.Spec PyProof.Rows L2
section
variable {X : Cx} {G : GX} {C : Fc} {W : WX} {ow ow' : Ow} {r : Rho} {T T1 T2 : List (D × V)} {s : L2.St} {H H' : Hp} {fa fb fc : Ev} {fs : Av} {f g : Int → Int → Bool}
end
@[simp] theorem q_iEn {fs : Av} {r : Rho} {o : Bool} {ds : List D} {r1 : Rho} (h : fs r = .ok [.val (.node .lst o ds)] r1) : iRng gEn fs r = .ok (enumD 0 (frzs ds)) r1 := by
  rw [q_iRng, h]; rfl
end VL

namespace VL
open PySem PySem.Spec PyProof.Rows L2
section
variable {X : Cx} {G : GX} {C : Fc} {W : WX} {ow ow' : Ow} {r : Rho} {T T1 T2 : List (D × V)} {s : L2.St} {H H' : Hp} {fa fb fc : Ev} {f g : Sv} {fs : Av}
end
end VL
namespace VL
open PySem PySem.Spec PyProof.Rows L2
section
variable {X : Cx} {G : GX} {C : Fc} {W : WX} {ow ow' : Ow} {r : Rho} {T T1 T2 : List (D × V)} {s : L2.St} {H H' : Hp}
end
end VL
namespace VL
open PySem PySem.Spec PyProof.Rows L2
def cPar (is : List Nat) (fs : Av) : Sv := fun r => match fs r with
  | .ok xs r1 => (match valsR xs with
    | some ds => if is.length = ds.length then .nx (setAll r1 is ds) else .bad
    | none => .bad)
  | .exc c r1 => .exc c r1
  | .bad => .bad
section
variable {X : Cx} {G : GX} {C : Fc} {W : WX} {ow ow' : Ow} {r : Rho} {T T1 T2 : List (D × V)} {s : L2.St} {H H' : Hp} {fs : Av}
end
theorem par_ok {is : List Nat} {fs : Av} {r r1 : Rho} {xs : List R} {ds : List D} (h : fs r = .ok xs r1) (h2 : valsR xs = some ds) (hl : is.length = ds.length) : cPar is fs r = .nx (setAll r1 is ds) := by
  unfold cPar
  rw [h]
  show (match valsR xs with | some ds => if is.length = ds.length then SO.nx (setAll r1 is ds) else .bad | none => .bad) = _
  rw [h2]
  show (if is.length = ds.length then SO.nx (setAll r1 is ds) else .bad) = _
  rw [if_pos hl]
end VL

namespace VL
open PySem PySem.Spec PyProof.Rows L2
section
variable {X : Cx} {G : GX} {C : Fc} {W : WX} {ow ow' : Ow} {r : Rho} {T T1 T2 : List (D × V)} {s : L2.St} {H H' : Hp} {fa fb fc : Ev} {f g : Sv} {fs : Av}
end
end VL

namespace VL
open PySem PySem.Spec PyProof.Rows L2
section
variable {X : Cx} {G : GX} {C : Fc} {W : WX} {ow ow' : Ow} {r : Rho} {T T1 T2 : List (D × V)} {s : L2.St} {H H' : Hp}
end
end VL

namespace VL
open PySem PySem.Spec PyProof.Rows L2
def rel (φ : Loc → Option Loc) (ow : Ow) : Ow := fun a => (ow a).bind φ
section
variable {X : Cx} {G : GX} {C : Fc} {W : WX} {ow ow' : Ow} {r : Rho} {T T1 T2 : List (D × V)} {s : L2.St} {H H' : Hp} {fa fb fc : Ev} {f g : Sv} {φ : Loc → Option Loc}
theorem rel_none {a : Addr} (h : ow a = none) : rel φ ow a = none := by unfold rel; rw [h]; rfl
theorem rel_some {a : Addr} {l : Loc} (h : ow a = some l) : rel φ ow a = φ l := by unfold rel; rw [h]; rfl
theorem rel_of {a : Addr} {l : Loc} (h : rel φ ow a = some l) : ∃ l0, ow a = some l0 ∧ φ l0 = some l := by
  unfold rel at h
  cases e : ow a with
  | none => rw [e] at h; cases h
  | some l0 => rw [e] at h; exact ⟨l0, rfl, h⟩
theorem Rep.rel {d : D} {l l' : Loc} {v : V} (h : Rep G ow H d l v) (hφ : ∀ q, φ (l.app q) = some (l'.app q)) : Rep G (VL.rel φ ow) H d l' v :=
  h.mono d (fun _ _ z _ => z) (fun _ _ z _ => z) (fun _ _ _ z => rel_none z) fun a o q _ z => (rel_some z).trans (hφ q)
theorem OwnAt.rel {k : Kd} {o : Bool} {l l' : Loc} {a : Addr} (h : OwnAt k o l (ow a)) (hφ : φ l = some l') : OwnAt k o l' (VL.rel φ ow a) := by
  rcases h.cases with e | e
  · exact .ofR e
  · refine .mk ?_
    cases o with
    | true => rw [rel_some (l := l) (by simpa using e), hφ]; rfl
    | false => rw [rel_none (by simpa using e)]; rfl
theorem StW.reloc {r' : Rho} {T' : List (D × V)} (S : StW G C ow r T s H) (hl : r'.length = r.length) (hf : ∀ l, l.b = .fo → φ l = some l)
    (hsl : ∀ (i : Nat) (d : D), r'[i]? = some (some d) → ∃ v, s[i]? = some (some v) ∧ Rep G (VL.rel φ ow) H d ⟨.sl i, []⟩ v) (htm : ∀ (j : Nat) (d : D) (v : V), T'[j]? = some (d, v) → Rep G (VL.rel φ ow) H d ⟨.tm j, []⟩ v) : StW G C (VL.rel φ ow) r' T' s H where
  len := hl.trans S.len
  sl := hsl
  tm := htm
  old := S.old
  own := fun a l q => by
    obtain ⟨l0, e, q⟩ := rel_of q
    rcases S.own a l0 e with z | z
    · rw [hf l0 z] at q; cases q; exact .inl z
    · exact .inr z
  fo := fun a q => by rw [rel_some (S.fo a q)]; exact hf _ rfl
  mu := fun a l q => by obtain ⟨l0, e, _⟩ := rel_of q; exact S.mu a l0 e
  pin := S.pin
  tabs := S.tabs
def liftF (n i m : Nat) : Loc → Option Loc
  | ⟨.sl j, p⟩ => if j = i ∧ p.head? = some m then some ⟨.tm n, p.tail⟩ else some ⟨.sl j, p⟩
  | ⟨.tm j, p⟩ => if j < n then some ⟨.tm j, p⟩ else none
  | ⟨.fo, p⟩ => some ⟨.fo, p⟩
theorem liftF_fo {n i m : Nat} : ∀ l : Loc, l.b = .fo → liftF n i m l = some l := fun ⟨b, p⟩ h => by
  have h : b = .fo := h
  subst h; rfl
theorem getT {p : D × V} {j : Nat} {d : D} {v : V} (q : (T ++ [p])[j]? = some (d, v)) : (j < T.length ∧ T[j]? = some (d, v)) ∨ (j = T.length ∧ p = (d, v)) := by
  by_cases hj : j < T.length
  · rw [List.getElem?_append_left hj] at q
    exact .inl ⟨hj, q⟩
  · rw [List.getElem?_append_right (by omega)] at q
    have e : j = T.length := by
      have := (List.getElem?_eq_some_iff.mp q).1
      simp at this; omega
    subst e
    simp at q
    exact .inr ⟨rfl, q⟩
def pullF (n i : Nat) : Loc → Option Loc
  | ⟨.sl j, p⟩ => if j = i then some ⟨.tm n, p⟩ else some ⟨.sl j, p⟩
  | ⟨.tm j, p⟩ => if j < n then some ⟨.tm j, p⟩ else none
  | ⟨.fo, p⟩ => some ⟨.fo, p⟩
theorem StW.pull {i : Nat} {d : D} (S : StW G C ow r T s H) (q : r[i]? = some (some d)) : ∃ v, s[i]? = some (some v) ∧ StW G C (VL.rel (pullF T.length i) ow) (r.set i (some .any)) (T ++ [(d, v)]) s H := by
  obtain ⟨v, z1, z2⟩ := S.sl i _ q
  have hi : i < r.length := (List.getElem?_eq_some_iff.mp q).1
  refine ⟨v, z1, S.reloc (by simp) (fun ⟨b, p⟩ h => by have h : b = .fo := h; subst h; rfl) (fun j d' y => ?_) fun j d' w y => ?_⟩
  · by_cases hj : j = i
    · subst hj
      rw [List.getElem?_set_self hi] at y
      cases y
      exact ⟨v, z1, trivial⟩
    · rw [List.getElem?_set_ne (Ne.symm hj)] at y
      obtain ⟨w, y1, y2⟩ := S.sl j d' y
      exact ⟨w, y1, y2.rel fun p => if_neg hj⟩
  · rcases getT y with ⟨hj, y⟩ | ⟨hj, y⟩
    · exact (S.tm j d' w y).rel fun p => if_pos hj
    · cases y
      subst hj
      exact z2.rel fun p => if_pos rfl
def backF (n i m : Nat) : Loc → Option Loc
  | ⟨.sl j, p⟩ => if j = i ∧ p.head? = some m then none else some ⟨.sl j, p⟩
  | ⟨.tm j, p⟩ => if j = n then some ⟨.sl i, m :: p⟩ else if j < n then some ⟨.tm j, p⟩ else none
  | ⟨.fo, p⟩ => some ⟨.fo, p⟩
theorem StW.giveBack {i m : Nat} {k : Kd} {o : Bool} {ds : List D} {d : D} {v : V} {a : Addr} {vs : List V} (S : StW G C ow r (T ++ [(d, v)]) s H) (q : r[i]? = some (some (.node k o ds))) (ha : s[i]? = some (some (.ref a))) (hk : isR k ≠ true) (hh : Holds G H a k vs) (hv : vs[m]? = some v)
    (hu : ∀ us, Holds G H a k us → us = vs) : StW G C (VL.rel (backF T.length i m) ow) (r.set i (some (.node k o (ds.set m d)))) T s H := by
  obtain ⟨v', z1, a', vs', ev, z2, z3, z4⟩ := S.sl i _ q
  rw [ha] at z1
  cases z1
  cases ev
  have ee := hu _ z2
  subst ee
  have hi : i < r.length := (List.getElem?_eq_some_iff.mp q).1
  refine StW.reloc (StW.drop S) (by simp) (fun ⟨b, p⟩ h => by have h : b = .fo := h; subst h; rfl) (fun j d' y => ?_) fun j d' w y => ?_
  · by_cases hj : j = i
    · subst hj
      rw [List.getElem?_set_self hi] at y
      cases y
      refine ⟨_, ha, a, vs', rfl, z2, z3.rel (if_neg (by simp)), Reps.of_get (by simp [z4.length]) fun j' d' v' y1 y2 => ?_⟩
      by_cases hm : j' = m
      · subst hm
        have hlt : j' < ds.length := by
          have := (List.getElem?_eq_some_iff.mp y1).1
          simpa using this
        rw [List.getElem?_set_self hlt] at y1
        cases y1
        rw [hv] at y2
        cases y2
        refine (StW.last S).rel fun p => ?_
        simp only [Loc.sub, Loc.app, Nat.zero_add, List.nil_append, List.singleton_append]
        exact if_pos rfl
      · rw [List.getElem?_set_ne (Ne.symm hm)] at y1
        obtain ⟨v2, e1, e2⟩ := z4.get j' d' y1
        rw [y2] at e1
        cases e1
        refine e2.rel fun p => ?_
        simp only [Loc.sub, Loc.app]
        exact if_neg (by simp; omega)
    · rw [List.getElem?_set_ne (Ne.symm hj)] at y
      obtain ⟨w, y1, y2⟩ := S.sl j d' y
      exact ⟨w, y1, y2.rel fun p => if_neg fun z => hj z.1⟩
  · have hj : j < T.length := (List.getElem?_eq_some_iff.mp y).1
    refine ((StW.drop S).tm j d' w y).rel fun p => ?_
    show (if j = T.length then _ else if j < T.length then _ else _) = _
    rw [if_neg (by omega), if_pos hj]
    rfl
def Fc.bod (C : Fc) (H : Hp) (ow : Ow) (i j : Nat) (u v : V) : Fc := ⟨H, fun b => ∃ l, ow b = some l ∧ l.b ≠ .fo ∧ l.b ≠ .sl i, fun b => C.fo b ∨ ∃ p, ow b = some ⟨.sl i, p⟩, (j, v) :: (i, u) :: C.pin⟩
def lendF (i : Nat) : Loc → Option Loc := fun l => if l.b = .sl i then some ⟨.fo, []⟩ else some l
theorem StW.lend {i j : Nat} {u v : V} (S : StW G C ow r T s H) (hi : s[i]? = some (some u)) (hj : s[j]? = some (some v)) : StW G (C.bod H ow i j u v) (VL.rel (lendF i) ow) (r.set i (some .any)) T s H where
  len := by simpa using S.len
  sl := fun i' d q => by
    by_cases he : i' = i
    · subst he
      have hlt : i' < r.length := by
        have := (List.getElem?_eq_some_iff.mp q).1
        simpa using this
      rw [List.getElem?_set_self hlt] at q
      cases q
      exact ⟨u, hi, trivial⟩
    · rw [List.getElem?_set_ne (Ne.symm he)] at q
      obtain ⟨w, y1, y2⟩ := S.sl i' d q
      exact ⟨w, y1, y2.rel fun p => if_neg fun z => he (by injection z)⟩
  tm := fun n d w q => (S.tm n d w q).rel fun p => if_neg fun z => nomatch z
  old := fun a o _ z => .inl z
  own := fun b l q => by
    obtain ⟨l0, e, q⟩ := rel_of q
    unfold lendF at q
    split at q
    · cases q; exact .inl rfl
    · rename_i n
      cases q
      by_cases hf : l.b = .fo
      · exact .inl hf
      · exact .inr (.inr ⟨l, e, hf, n⟩)
  fo := fun b q => by
    rcases q with q | ⟨p, q⟩
    · rw [rel_some (S.fo b q)]; exact if_neg fun z => nomatch z
    · rw [rel_some q]; exact if_pos rfl
  mu := fun b l q => by obtain ⟨l0, e, _⟩ := rel_of q; exact S.mu b l0 e
  pin := fun p hp => by
    rcases List.mem_cons.mp hp with z | hp
    · rw [z]; exact hj
    rcases List.mem_cons.mp hp with z | hp
    · rw [z]; exact hi
    · exact S.pin p hp
  tabs := S.tabs
end
end VL

namespace VL
open PySem PySem.Spec PyProof.Rows L2
def fcQ (H : Hp) (ow0 : Ow) (q : Nat) (v0 : V) : Fc := ⟨H, fun a => ∃ p, ow0 a = some ⟨.sl q, p⟩, fun a => ow0 a = some ⟨.fo, []⟩, [(q, v0)]⟩
def spQ (G : GX) (q n : Nat) (F : D → List D → MO) : Sp := fun vs H Q E => ∃ (d0 : D) (ds : List D) (v0 : V) (us1 us2 : List V) (ow0 : Ow), vs = us1 ++ v0 :: us2 ∧ us1.length = q ∧ ds.length = n ∧ frzs ds = ds ∧ Rep G ow0 H d0 ⟨.sl q, []⟩ v0 ∧ Reps G ow0 H ds ⟨.fo, []⟩ 0 (us1 ++ us2) ∧
  (∀ a l, ow0 a = some l → OwnO (H a) ∧ (l.b = .sl q ∨ l = ⟨.fo, []⟩)) ∧ LamX.Tabs G.T H ∧ match F d0 ds with
  | .ok d d0' => ∀ v H' (ow1 : Ow) (b : Bs), (∀ a o, (∀ p, ow0 a ≠ some ⟨.sl q, p⟩) → H a = some o → Kt (H' a) o) → b ≠ .fo → b ≠ .sl q → Rep G ow1 H' d ⟨b, []⟩ v → Rep G ow1 H' d0' ⟨.sl q, []⟩ v0 →
      (∀ a l, ow1 a = some l → l.b ≠ .fo → H a = none ∨ ∃ p, ow0 a = some ⟨.sl q, p⟩) → (∀ a, ow0 a = some ⟨.fo, []⟩ → ow1 a = some ⟨.fo, []⟩) → (∀ a l, ow1 a = some l → OwnO (H' a)) → LamX.Tabs G.T H' → Q v H'
  | .bad => False
theorem spQ_len {G : GX} {q n : Nat} {F : D → List D → MO} {vs : List V} {H : Hp} {Q : VK} {E : XK} (h : spQ G q n F vs H Q E) : vs.length = n + 1 := by
  obtain ⟨d0, ds, v0, us1, us2, ow0, e, _, h1, _, _, h4, _⟩ := h
  have := h4.length
  rw [List.length_append] at this
  rw [e, List.length_append, List.length_cons]
  omega
def putQ (q : Nat) (d0 : D) (ds : List D) : List D := ds.take q ++ d0 :: ds.drop q
def runQ (q n : Nat) (f : Sv) (d0 : D) (ds : List D) : MO := match f (startR n (putQ q d0 ds)) with
  | .rt (.val d) r => (match r[q]? with
    | some (some d0') => .ok d d0'
    | _ => .bad)
  | .rt (.loc i) r => if i = q then .bad else (match opd r (.loc i), r[q]? with
    | some d, some (some d0') => .ok d d0'
    | _, _ => .bad)
  | .nx r => (match r[q]? with
    | some (some d0') => .ok .non d0'
    | _ => .bad)
  | _ => .bad
section
variable {G : GX} {H H' : Hp} {ow ow0 : Ow}
theorem startQ_ok {N : List Str} {d0 : D} {ds : List D} {v0 : V} {us1 us2 : List V} {q : Nat} (ht : LamX.Tabs G.T H) (hq : us1.length = q) (hm : ∀ a l, ow0 a = some l → OwnO (H a) ∧ (l.b = .sl q ∨ l = ⟨.fo, []⟩)) (e : frzs ds = ds) (h0 : Rep G ow0 H d0 ⟨.sl q, []⟩ v0) (h : Reps G ow0 H ds ⟨.fo, []⟩ 0 (us1 ++ us2)) : StW G (fcQ H ow0 q v0) ow0 (startR N.length (putQ q d0 ds)) [] (L2.start N (us1 ++ v0 :: us2)) H := by
  have hlen := h.length
  rw [List.length_append] at hlen
  have part : ∀ (i' : Nat) (i : Nat) (d : D), ds[i']? = some d → (us1 ++ v0 :: us2)[i]? = (us1 ++ us2)[i']? → ∃ v, (L2.start N (us1 ++ v0 :: us2))[i]? = some (some v) ∧ Rep G ow0 H d ⟨.sl i, []⟩ v := fun i' i d q2 ev => by
    obtain ⟨v, h1, h2⟩ := h.get i' d q2
    have f : frz d = d := by
      have := congrArg (·[i']?) e
      simp only [frzs_map, List.getElem?_map, q2, Option.map_some] at this
      exact Option.some.inj this
    exact ⟨v, start_get (by rw [ev]; exact h1), Rep.moveF d f (fun a o z q => ⟨z, q⟩) (fun _ _ z _ => z) h2⟩
  exact {
  len := by
    unfold startR L2.start putQ
    simp
    omega
  sl := fun i d y => by
    have y' := startR_get y
    unfold putQ at y'
    by_cases h1 : i < q
    · rw [List.getElem?_append_left (by rw [List.length_take]; omega), List.getElem?_take_of_lt h1] at y'
      exact part i i d y' (by rw [List.getElem?_append_left (by omega), List.getElem?_append_left (by omega)])
    · by_cases h2 : i = q
      · subst h2
        rw [List.getElem?_append_right (by rw [List.length_take]; omega), List.length_take, Nat.min_eq_left (by omega), Nat.sub_self] at y'
        simp at y'
        subst y'
        exact ⟨v0, start_get (by rw [List.getElem?_append_right (by omega), hq, Nat.sub_self]; rfl), h0⟩
      · obtain ⟨m, hm⟩ : ∃ m, i = q + 1 + m := ⟨i - q - 1, by omega⟩
        subst hm
        rw [List.getElem?_append_right (by rw [List.length_take]; omega), List.length_take, Nat.min_eq_left (by omega), show q + 1 + m - q = m + 1 by omega, List.getElem?_cons_succ, List.getElem?_drop] at y'
        refine part (q + m) (q + 1 + m) d y' ?_
        rw [List.getElem?_append_right (by omega), List.getElem?_append_right (by omega), hq, show q + 1 + m - q = m + 1 by omega, List.getElem?_cons_succ, show q + m - q = m by omega]
  tm := fun j d v q => by simp at q
  old := fun a o _ z => .inl z
  own := fun a l y => by
    obtain ⟨_, z | z⟩ := hm a l y
    · obtain ⟨lb, lp⟩ := l
      have z : lb = .sl q := z
      subst z
      exact .inr (.inr ⟨lp, y⟩)
    · subst z; exact .inl rfl
  fo := fun a y => y
  mu := fun a l y => (hm a l y).1
  pin := fun p hp => by
    have e : p = (q, v0) := by simpa [fcQ] using hp
    subst e
    exact start_get (by rw [List.getElem?_append_right (by omega), hq, Nat.sub_self]; rfl)
  tabs := ht }
end
section
variable {P : Program} {w : World} {K : PySem.W.Frag} {mg : Str → Option Value} {base : Heap} {G : GX}
end
section
variable {X : Cx} {G : GX} {C : Fc} {W : WX} {ow ow' : Ow} {r : Rho} {T T1 T2 : List (D × V)} {s : L2.St} {H H' : Hp} {fs : Av}
def homeF (n i : Nat) : Loc → Option Loc
  | ⟨.sl j, p⟩ => if j = i then none else some ⟨.sl j, p⟩
  | ⟨.tm j, p⟩ => if j = n then some ⟨.sl i, p⟩ else if j < n then some ⟨.tm j, p⟩ else none
  | ⟨.fo, p⟩ => some ⟨.fo, p⟩
theorem StW.home {i : Nat} {d : D} {v : V} (S : StW G C ow r (T ++ [(d, v)]) s H) (hv : s[i]? = some (some v)) : StW G C (VL.rel (homeF T.length i) ow) (r.set i (some d)) T s H := by
  refine StW.reloc (StW.drop S) (by simp) (fun ⟨b, p⟩ h => by have h : b = .fo := h; subst h; rfl) (fun j d' y => ?_) fun j d' w y => ?_
  · by_cases hj : j = i
    · subst hj
      have hlt : j < r.length := by
        have := (List.getElem?_eq_some_iff.mp y).1
        simpa using this
      rw [List.getElem?_set_self hlt] at y
      cases y
      exact ⟨v, hv, (StW.last S).rel fun p => if_pos rfl⟩
    · rw [List.getElem?_set_ne (Ne.symm hj)] at y
      obtain ⟨w, y1, y2⟩ := S.sl j d' y
      exact ⟨w, y1, y2.rel fun p => if_neg hj⟩
  · have hj : j < T.length := (List.getElem?_eq_some_iff.mp y).1
    refine ((StW.drop S).tm j d' w y).rel fun p => ?_
    show (if j = T.length then _ else if j < T.length then _ else _) = _
    rw [if_neg (by omega), if_pos hj]
    rfl
def lentT (ow : Ow) (m q : Nat) : Ow := fun a => match ow a with
  | some l => if l.b = .tm m then some ⟨.sl q, l.p⟩ else some ⟨.fo, []⟩
  | none => none
def paidT (ow ow1 : Ow) (m n q : Nat) : Ow := fun a => match ow1 a with
  | some l => if l.b = .fo then ow a else if l.b = .sl q then some ⟨.tm m, l.p⟩ else some ⟨.tm n, l.p⟩
  | none => none
theorem lentT_none {m q : Nat} {a : Addr} : lentT ow m q a = none ↔ ow a = none := by
  unfold lentT
  cases ow a with
  | none => simp
  | some l => by_cases h : l.b = .tm m <;> simp [h]
theorem lentT_tm {m q : Nat} {a : Addr} {p : List Nat} : lentT ow m q a = some ⟨.sl q, p⟩ ↔ ow a = some ⟨.tm m, p⟩ := by
  unfold lentT
  cases ow a with
  | none => simp
  | some l =>
    obtain ⟨lb, lp⟩ := l
    by_cases h : lb = .tm m <;> simp [h]
theorem lentT_fo {m q : Nat} {a : Addr} {l : Loc} (h : ow a = some l) (n : l.b ≠ .tm m) : lentT ow m q a = some ⟨.fo, []⟩ := by
  unfold lentT; rw [h]; simp [n]
theorem tempQ {q n : Nat} {F : D → List D → MO} {d0 : D} {v0 : V} {ds : List D} {us1 us2 : List V} {Q : VK} {E : XK} (S2 : StW G C ow r (T ++ [(d0, v0)]) s H) (hq : us1.length = q) (hn : ds.length = n) (hf : frzs ds = ds) (hr : Reps G ow H ds ⟨.fo, []⟩ 0 (us1 ++ us2))
    (h : match F d0 ds with
      | .ok d d0' => ∀ v H', StOk G C r (T ++ [(d0', v0)] ++ [(d, v)]) s H' → (∀ a o, H a = some o → (∀ p, ow a ≠ some ⟨.tm T.length, p⟩) → Kt (H' a) o) → Q v H'
      | .bad => False) : spQ G q n F (us1 ++ v0 :: us2) H Q E := by
  have z2 : Rep G ow H d0 ⟨.tm T.length, []⟩ v0 := S2.last
  refine ⟨d0, ds, v0, us1, us2, lentT ow T.length q, rfl, hq, hn, hf, ?_, ?_, ?_, S2.tabs, ?_⟩
  · refine Rep.mono (l := ⟨.tm T.length, []⟩) d0 (fun _ _ z _ => z) (fun _ _ z _ => z) (fun a o _ n => lentT_none.mpr n) (fun a o p _ n => ?_) z2
    exact lentT_tm.mpr n
  · exact Reps.moveF _ hf (fun a o z n => ⟨z, lentT_none.mpr n⟩) (fun _ _ z _ => z) hr
  · intro a m y
    unfold lentT at y
    cases x : ow a with
    | none => rw [x] at y; cases y
    | some m' =>
      rw [x] at y
      refine ⟨S2.mu a m' x, ?_⟩
      simp only at y
      split at y
      · cases y; exact .inl rfl
      · cases y; exact .inr rfl
  · cases e3 : F d0 ds with
    | bad => simp only [e3] at h
    | ok d d0' =>
      simp only [e3] at h
      intro v H' ow1 b k1 b1 b2 hr h0 k2 k3 k4 k5
      have kept : ∀ a o, H a = some o → (∀ p, ow a ≠ some ⟨.tm T.length, p⟩) → Kt (H' a) o := fun a o q n => k1 a o (fun p z => n p (lentT_tm.mp z)) q
      refine h v H' ⟨paidT ow ow1 T.length (T.length + 1) q, ?_⟩ kept
      have exn : ∀ a o, H a = some o → ¬ OwnO (some o) → Kt (H' a) o := fun a o q n => kept a _ q fun p z => by
        have m := S2.mu a _ z
        rw [q] at m
        exact n m
      have none_ : ∀ a o, H a = some o → ow a = none → paidT ow ow1 T.length (T.length + 1) q a = none := fun a o q n => by
        unfold paidT
        cases y : ow1 a with
        | none => rfl
        | some m =>
          by_cases hf : m.b = .fo
          · simp only [hf, if_true]; exact n
          · rcases k2 a m y hf with z | ⟨p, z⟩
            · rw [z] at q; cases q
            · rw [lentT_tm.mp z] at n; cases n
      have same_ : ∀ a m, ow a = some m → m.b ≠ .tm T.length → paidT ow ow1 T.length (T.length + 1) q a = some m := fun a m q n => by
        unfold paidT
        rw [k3 a (lentT_fo q n)]
        simp [q]
      have hpush : StW G C (paidT ow ow1 T.length (T.length + 1) q) r (T ++ [(d0', v0)]) s H' := by
        refine ⟨S2.len, fun i' d' y => ?_, fun j' d' w y => ?_, fun a o n y => ?_, fun a m y => ?_, fun a y => ?_, fun a m y => ?_, S2.pin, k5⟩
        · obtain ⟨w, y1, y2⟩ := S2.sl i' d' y
          refine ⟨w, y1, Rep.mono (l := ⟨.sl i', []⟩) d' (fun a o z u => kept a o z fun p z2 => ?_) (fun a o z n => exn a o z n) (fun a o z n => none_ a o z n) (fun a o p _ n => ?_) y2⟩
          · rcases u with u | ⟨p', u⟩
            · rw [u] at z2; cases z2
            · rw [u] at z2
              have z2 := Option.some.inj z2
              unfold Loc.app at z2
              injection z2 with z3 _
              cases z3
          · exact same_ a _ n (fun z => nomatch z)
        · rcases getT y with ⟨hj, y⟩ | ⟨hj, y⟩
          · have z := (StW.drop S2).tm j' d' w y
            refine Rep.mono (l := ⟨.tm j', []⟩) d' (fun a o z u => kept a o z fun p z2 => ?_) (fun a o z n => exn a o z n) (fun a o z n => none_ a o z n) (fun a o p _ n => ?_) z
            · rcases u with u | ⟨p', u⟩
              · rw [u] at z2; cases z2
              · rw [u] at z2
                have z2 := Option.some.inj z2
                unfold Loc.app at z2
                injection z2 with z3 _
                injection z3 with z3
                omega
            · exact same_ a _ n (fun z => by unfold Loc.app at z; injection z with z; omega)
          · cases y
            subst hj
            refine Rep.mono (l := ⟨.sl q, []⟩) d0' (fun _ _ z _ => z) (fun _ _ z _ => z) (fun a o _ n => by unfold paidT; rw [n]) (fun a o p _ n => ?_) h0
            have n' : ow1 a = some ⟨.sl q, [] ++ p⟩ := n
            unfold paidT
            rw [n']
            simp [Loc.app]
        · refine (S2.old a o n y).bind fun u0 y0 => kept a u0 y0 fun p z => ?_
          rcases S2.own a _ z with z2 | z2 | z2
          · cases z2
          · rw [z2] at y; cases y
          · exact n z2
        · unfold paidT at y
          cases y1 : ow1 a with
          | none => rw [y1] at y; cases y
          | some m' =>
            rw [y1] at y
            by_cases hf : m'.b = .fo
            · simp only [hf, if_true] at y
              exact S2.own a m y
            · refine .inr ?_
              rcases k2 a m' y1 hf with z | ⟨p, z⟩
              · cases e : C.H0 a with
                | none => exact .inl rfl
                | some u =>
                  by_cases hi : C.io a
                  · exact .inr hi
                  · exact ((S2.old a u hi e).on z).elim
              · rcases S2.own a _ (lentT_tm.mp z) with z2 | z2
                · cases z2
                · exact z2
        · exact same_ a _ (S2.fo a y) (fun z => nomatch z)
        · unfold paidT at y
          cases y1 : ow1 a with
          | none => rw [y1] at y; cases y
          | some m' => exact k4 a m' y1
      refine hpush.push (Rep.mono (l := ⟨b, []⟩) d (fun _ _ z _ => z) (fun _ _ z _ => z) (fun a o _ n => by unfold paidT; rw [n]) (fun a o p _ n => ?_) hr)
      have n' : ow1 a = some ⟨b, [] ++ p⟩ := n
      unfold paidT
      rw [n']
      simp [Loc.app, b1, b2]
theorem locs_split : ∀ {xs1 : List R} {x0 : R} {xs2 : List R} {vs : List V}, LocsOk s (xs1 ++ x0 :: xs2) vs → ∃ us1 v0 us2, vs = us1 ++ v0 :: us2 ∧ us1.length = xs1.length ∧ us2.length = xs2.length ∧ LocsOk s (xs1 ++ xs2) (us1 ++ us2) ∧ LocsOk s (xs2 ++ xs1) (us2 ++ us1) ∧ LocOk s v0 x0 ∧ pushs (xs1 ++ x0 :: xs2) vs = pushs xs1 us1 ++ (pushR x0 v0 ++ pushs xs2 us2) ∧ pushs (xs1 ++ xs2) (us1 ++ us2) = pushs xs1 us1 ++ pushs xs2 us2 ∧ pushs (xs2 ++ xs1) (us2 ++ us1) = pushs xs2 us2 ++ pushs xs1 us1 := by
  have app : ∀ {xs ys : List R} {us ws : List V}, xs.length = us.length → LocsOk s xs us → LocsOk s ys ws → LocsOk s (xs ++ ys) (us ++ ws) ∧ pushs (xs ++ ys) (us ++ ws) = pushs xs us ++ pushs ys ws := by
    intro xs
    induction xs with
    | nil =>
      intro ys us ws hl _ h2
      have : us = [] := by simpa using hl.symm
      subst this
      exact ⟨h2, rfl⟩
    | cons x xs ih =>
      intro ys us ws hl h1 h2
      cases us with
      | nil => simp at hl
      | cons u us =>
        obtain ⟨a, b⟩ := ih (by simpa using hl) h1.2 h2
        refine ⟨⟨h1.1, a⟩, ?_⟩
        show pushR x u ++ pushs (xs ++ ys) (us ++ ws) = (pushR x u ++ pushs xs us) ++ pushs ys ws
        rw [b, List.append_assoc]
  have spl : ∀ {xs1 : List R} {x0 : R} {xs2 : List R} {vs : List V}, LocsOk s (xs1 ++ x0 :: xs2) vs → ∃ us1 v0 us2, vs = us1 ++ v0 :: us2 ∧ us1.length = xs1.length ∧ us2.length = xs2.length ∧ LocsOk s xs1 us1 ∧ LocsOk s xs2 us2 ∧ LocOk s v0 x0 ∧ pushs (xs1 ++ x0 :: xs2) vs = pushs xs1 us1 ++ (pushR x0 v0 ++ pushs xs2 us2) := by
    intro xs1
    induction xs1 with
    | nil =>
      intro x0 xs2 vs h
      cases vs with
      | nil => exact h.elim
      | cons v vs => exact ⟨[], v, vs, rfl, rfl, h.2.length.symm, trivial, h.2, h.1, rfl⟩
    | cons x xs ih =>
      intro x0 xs2 vs h
      cases vs with
      | nil => exact h.elim
      | cons v vs =>
        obtain ⟨us1, v0, us2, e, l1, l2, h1, h2, h3, h4⟩ := ih h.2
        refine ⟨v :: us1, v0, us2, by rw [e]; rfl, by simp [l1], l2, ⟨h.1, h1⟩, h2, h3, ?_⟩
        show pushR x v ++ pushs (xs ++ x0 :: xs2) vs = (pushR x v ++ pushs xs us1) ++ _
        rw [h4, List.append_assoc]
  intro xs1 x0 xs2 vs h
  obtain ⟨us1, v0, us2, e, l1, l2, h1, h2, h3, h4⟩ := spl h
  obtain ⟨a1, b1⟩ := app l1.symm h1 h2
  obtain ⟨a2, b2⟩ := app l2.symm h2 h1
  exact ⟨us1, v0, us2, e, l1, l2, a1, a2, h3, h4, b1, b2⟩
theorem valsR_app : ∀ {xs ys : List R} {ds es : List D}, valsR xs = some ds → valsR ys = some es → valsR (xs ++ ys) = some (ds ++ es)
  | [], ys, ds, es, h1, h2 => by cases h1; exact h2
  | .loc _ :: _, _, _, _, h1, _ => by cases h1
  | .val d :: xs, ys, ds, es, h1, h2 => by
    unfold valsR at h1
    cases e : valsR xs with
    | none => rw [e] at h1; cases h1
    | some ds' =>
      rw [e] at h1
      cases h1
      show (match valsR (xs ++ ys) with | some ds => some (d :: ds) | none => none) = _
      rw [valsR_app e h2]; rfl
def callKQ (q n : Nat) (F : D → List D → MO) (xs : List R) (r : Rho) : EO := if xs.length = n + 1 then (match xs.drop q with
  | .loc i :: rest => (match valsR (xs.take q), valsR rest, r[i]? with
    | some ds1, some ds2, some (some d0) => (match F d0 (frzs (ds1 ++ ds2)) with
      | .ok d d0' => .ok (.val d) (r.set i (some d0'))
      | .bad => .bad)
    | _, _, _ => .bad)
  | .val d0 :: rest => (match valsR (xs.take q), valsR rest with
    | some ds1, some ds2 => (match F d0 (frzs (ds1 ++ ds2)) with
      | .ok d _ => .ok (.val d) r
      | .bad => .bad)
    | _, _ => .bad)
  | [] => .bad) else .bad
def cCallQ (q n : Nat) (F : D → List D → MO) (fs : Av) : Ev := fun r => (fs r).bd (callKQ q n F)
theorem callQ_go {q n : Nat} {F : D → List D → MO} {Q : VK} {xs : List R} {vs : List V} {E : XK} (hqn : q ≤ n) (S : StOk G C r (T ++ pushs xs vs) s H) (l : LocsOk s xs vs) (h : Goes G C W T s Q (callKQ q n F xs r)) : spQ G q n F vs H Q E := by
  unfold callKQ at h
  split at h
  · rename_i hlen
    obtain ⟨x0, rest, hd⟩ : ∃ x0 rest, xs.drop q = x0 :: rest := by
      cases e : xs.drop q with
      | nil => have := congrArg List.length e; rw [List.length_drop] at this; simp at this; omega
      | cons x y => exact ⟨x, y, rfl⟩
    have hx : xs = xs.take q ++ x0 :: rest := by rw [← hd, List.take_append_drop]
    rw [hd] at h
    have htl : (xs.take q).length = q := by rw [List.length_take]; omega
    generalize hxs : xs.take q = xs1 at h hx htl
    subst hx
    obtain ⟨us1, v0, us2, ev, l1, l2, a1, a2, l0, e1, e2, e3⟩ := locs_split l
    rw [e1] at S
    subst ev
    have hrest : rest.length + q = n := by rw [List.length_append, List.length_cons] at hlen; omega
    cases x0 with
    | loc i =>
      simp only at h
      cases y1 : valsR xs1 with
      | none => simp only [y1] at h; exact h.elim
      | some ds1 =>
        cases y2 : valsR rest with
        | none => simp only [y1, y2] at h; exact h.elim
        | some ds2 =>
          cases y3 : r[i]? with
          | none => simp only [y1, y2, y3] at h; exact h.elim
          | some o =>
            cases o with
            | none => simp only [y1, y2, y3] at h; exact h.elim
            | some d0 =>
              simp only [y1, y2, y3] at h
              obtain ⟨ow, S⟩ := S
              have y12 := valsR_app y1 y2
              obtain ⟨g1, g2, g3⟩ := valsR_frz (r := r) y12
              obtain ⟨ow2, S2, r1, r2, r3⟩ := StW.settles (T := T) (xs := xs1 ++ rest) (vs := us1 ++ us2) (show StW G C ow r (T ++ pushs (xs1 ++ rest) (us1 ++ us2)) s H by rw [e2]; exact S) a1 g1
              rw [g2] at S2
              obtain ⟨v', z1, S3⟩ := S2.pull y3
              have l0 : s[i]? = some (some v0) := l0
              rw [l0] at z1
              cases z1
              refine tempQ (ds := frzs (ds1 ++ ds2)) S3 (by omega) (by rw [frzs_length, g3, List.length_append]; omega) (frzs_frzs _) (Reps.moveF _ (frzs_frzs _) (fun a o z n => ⟨z, rel_none n⟩) (fun _ _ z _ => z) (r1 ⟨.fo, []⟩ 0)) ?_
              cases y4 : F d0 (frzs (ds1 ++ ds2)) with
              | bad => simp only [y4] at h; exact h.elim
              | ok d d0' =>
                simp only [y4] at h
                intro v H' S4 _
                refine h v H' ⟨?_, trivial⟩
                have S5 : StOk G C (r.set i (some .any)) (T ++ ([(d0', v0)] ++ [(d, v)])) s H' := by simpa using S4
                have S6 := S5.swap
                obtain ⟨ow6, S6⟩ := S6
                have S7 : StW G C ow6 (r.set i (some .any)) ((T ++ [(d, v)]) ++ [(d0', v0)]) s H' := by simpa using S6
                have S8 := S7.home l0
                rw [List.set_set] at S8
                exact ⟨_, S8⟩
    | val d0 =>
      simp only at h
      cases y1 : valsR xs1 with
      | none => simp only [y1] at h; exact h.elim
      | some ds1 =>
        cases y2 : valsR rest with
        | none => simp only [y1, y2] at h; exact h.elim
        | some ds2 =>
          simp only [y1, y2] at h
          have S1 : StOk G C r ((T ++ [(d0, v0)]) ++ pushs (rest ++ xs1) (us2 ++ us1)) s H := by
            rw [e3]
            have z := StOk.swap (T := T) (A := pushs xs1 us1) (B := [(d0, v0)] ++ pushs rest us2) S
            simpa using z
          obtain ⟨ow, S1⟩ := S1
          have y21 := valsR_app y2 y1
          obtain ⟨g1, g2, g3⟩ := valsR_frz (r := r) y21
          have k1 := (valsR_frz (r := r) y1).2.2
          have k2 := (valsR_frz (r := r) y2).2.2
          obtain ⟨ow2, S2, r1, r2, r3⟩ := StW.settles S1 a2 g1
          rw [g2] at S2
          refine tempQ (ds := frzs (ds1 ++ ds2)) S2 (by omega) (by rw [frzs_length, List.length_append]; omega) (frzs_frzs _) ?_ ?_
          · have r1 := r1 ⟨.fo, []⟩ 0
            refine Reps.of_get (by rw [frzs_length, List.length_append, List.length_append]; omega) fun j d v x1 x2 => ?_
            have fd : frz d = d := by
              rw [frzs_map, List.getElem?_map] at x1
              cases z : (ds1 ++ ds2)[j]? with
              | none => rw [z] at x1; cases x1
              | some d1 => rw [z] at x1; cases x1; exact frz_frz d1
            have main : ∀ j', (frzs (ds2 ++ ds1))[j']? = some d → (us2 ++ us1)[j']? = some v → Rep G ow2 H d (Loc.sub ⟨.fo, []⟩ (0 + j)) v := fun j' w1 w2 => by
              obtain ⟨v', w3, w4⟩ := r1.get j' d w1
              rw [w2] at w3
              cases w3
              exact Rep.moveF d fd (fun a o z n => ⟨z, n⟩) (fun _ _ z _ => z) w4
            rw [frzs_map, List.map_append] at x1
            by_cases hj : j < ds1.length
            · rw [List.getElem?_append_left (by simpa using hj)] at x1
              rw [List.getElem?_append_left (by omega)] at x2
              refine main (ds2.length + j) ?_ ?_
              · rw [frzs_map, List.map_append, List.getElem?_append_right (by simp), List.length_map, Nat.add_sub_cancel_left]
                exact x1
              · rw [List.getElem?_append_right (by omega), show ds2.length + j - us2.length = j by omega]
                exact x2
            · rw [List.getElem?_append_right (by simpa using hj), List.length_map] at x1
              rw [List.getElem?_append_right (by omega)] at x2
              refine main (j - ds1.length) ?_ ?_
              · rw [frzs_map, List.map_append, List.getElem?_append_left (by
                  have := (List.getElem?_eq_some_iff.mp x1).1
                  exact this)]
                exact x1
              · rw [List.getElem?_append_left (by
                  have := (List.getElem?_eq_some_iff.mp x1).1
                  simp at this; omega), show j - ds1.length = j - us1.length by omega]
                exact x2
          · cases y4 : F d0 (frzs (ds1 ++ ds2)) with
            | bad => simp only [y4] at h; exact h.elim
            | ok d d0' =>
              simp only [y4] at h
              intro v H' S4 _
              exact h v H' (Post.slide (T2 := [(d0', v0)]) (x := .val d) ⟨S4, trivial⟩)
  · exact h.elim
theorem ve_callQ {q n k : Nat} {F : D → List D → MO} {f : Addr} {fd : FuncData} {ps : List Str} {x : Str} {p pos : Pos} {e : Expr} {es : List Expr} (tk : Takes X W) (Fk : FnOk X.prog X.w X.K X.mg X.base (L2.CX X.prog X.w) k f fd ps (spQ G q n F)) (hqn : q ≤ n) (hr : Room k X.A) (hg : Gl X x) (hm : X.mg x = some (.ref f))
    (hk : PySem.W.keepIn X.K (.ref f) = true) (hb : Binds X.K fd ps []) (ha : VA X G C W (e :: es) fs) (hdb : (x == ("__debug__" : Str)) = false := by decide) (he : starEach (e :: es) X.env = (false, eval e X.env) :: starEach es X.env := by rfl) (hpl : (backTo pos (starEach es X.env)).any (·.1) = false := by rfl) :
    VE X G C W (.Call (.Name x p) (e :: es) [] pos) (cCallQ q n F fs) := by
  refine PE.imp (pe_callS Fk hr hg hm hk hb (fun σ => passAt tk σ) ha hdb he hpl) fun s H Q h => ?_
  obtain ⟨r, T, S, g⟩ := h
  exact many (T2 := []) (by simpa using S) g fun xs vs r1 H1 S1 l1 g1 => callQ_go hqn (by simpa using S1) l1 g1
end
end VL

namespace VL
open PySem PySem.Spec PyProof.Rows L2
section
variable {X : Cx} {G : GX} {C : Fc} {W : WX} {ow ow' : Ow} {r : Rho} {T T1 T2 : List (D × V)} {s : L2.St} {H H' : Hp} {fa fb fc fk : Ev} {fs : Av} {f g : Sv}
def unl0 (ow ow3 : Ow) (i : Nat) : Ow := fun b => match ow3 b with
  | none => none
  | some ⟨.fo, _⟩ => (match ow b with
    | some ⟨.fo, p⟩ => some ⟨.fo, p⟩
    | some ⟨.sl i', p⟩ => if i' = i then some ⟨.sl i, p⟩ else none
    | _ => none)
  | some ⟨.sl j', p⟩ => if j' = i then none else some ⟨.sl j', p⟩
  | some ⟨.tm n, p⟩ => some ⟨.tm n, p⟩
theorem unl0_none {ow3 : Ow} {i : Nat} {b : Addr} (h : ow3 b = none) : unl0 ow ow3 i b = none := by unfold unl0; rw [h]
theorem unl0_tm {ow3 : Ow} {i n : Nat} {p : List Nat} {b : Addr} (h : ow3 b = some ⟨.tm n, p⟩) : unl0 ow ow3 i b = some ⟨.tm n, p⟩ := by unfold unl0; rw [h]
theorem unl0_sl {ow3 : Ow} {i n : Nat} {p : List Nat} {b : Addr} (h : ow3 b = some ⟨.sl n, p⟩) (h1 : n ≠ i) : unl0 ow ow3 i b = some ⟨.sl n, p⟩ := by
  unfold unl0; rw [h]
  show (if n = i then none else some (Loc.mk (.sl n) p)) = _
  rw [if_neg h1]
theorem unl0_i {ow3 : Ow} {i : Nat} {p q : List Nat} {b : Addr} (h : ow3 b = some ⟨.fo, q⟩) (h1 : ow b = some ⟨.sl i, p⟩) : unl0 ow ow3 i b = some ⟨.sl i, p⟩ := by
  unfold unl0; rw [h, h1]
  show (if i = i then some (Loc.mk (.sl i) p) else none) = _
  rw [if_pos rfl]
theorem unl0_of {ow3 : Ow} {i : Nat} {b : Addr} {l : Loc} (h : unl0 ow ow3 i b = some l) : (∃ l3, ow3 b = some l3) ∧ ((∃ l0, ow b = some l0 ∧ (l.b = .fo ∨ l0.b ≠ .fo)) ∨ ∃ l3, ow3 b = some l3 ∧ l3.b ≠ .fo) := by
  unfold unl0 at h
  cases e : ow3 b with
  | none => rw [e] at h; cases h
  | some l3 =>
    refine ⟨⟨l3, rfl⟩, ?_⟩
    rw [e] at h
    obtain ⟨b3, p3⟩ := l3
    cases b3 with
    | fo =>
      cases e2 : ow b with
      | none => rw [e2] at h; cases h
      | some l0 =>
        rw [e2] at h
        obtain ⟨b0, p0⟩ := l0
        refine .inl ⟨_, rfl, ?_⟩
        cases b0 with
        | fo => cases h; exact .inl rfl
        | sl n => exact .inr fun z => nomatch z
        | tm n => exact .inr fun z => nomatch z
    | sl n => exact .inr ⟨_, rfl, fun z => nomatch z⟩
    | tm n => exact .inr ⟨_, rfl, fun z => nomatch z⟩
theorem StW.unlend0 {i : Nat} {k : Kd} {o : Bool} {ds : List D} {a : Addr} {vs : List V} {ow3 : Ow} {r3 : Rho} {T3 : List (D × V)} {s3 : L2.St} {H3 : Hp} (S : StW G C ow r T s H) (q : r[i]? = some (some (.node k o ds))) (hk : isR k ≠ true) (ha : s[i]? = some (some (.ref a)))
    (hH : Holds G H a k vs) (hu : ∀ us, Holds G H a k us → us = vs) (S3 : StW G (C.bod H ow i i (.ref a) (.ref a)) ow3 r3 T3 s3 H3) :
    StW G C (unl0 ow ow3 i) (r3.set i (some (.node k o ds))) T3 s3 H3 ∧ Holds G H3 a k vs ∧ s3[i]? = some (some (.ref a)) := by
  obtain ⟨w, z1, a', vs', ev, z2, z3, z4⟩ := S.sl i _ q
  rw [ha] at z1
  cases z1
  cases ev
  have ee := hu _ z2
  subst ee
  have oa : ow a = if o = true then some ⟨.sl i, []⟩ else none := z3.cases.resolve_left hk
  have keep : ∀ b o, H b = some o → ¬ (C.bod H ow i i (.ref a) (.ref a)).io b → Kt (H3 b) o := fun b o e n => S3.old b o n e
  have nset : ∀ b p, ow b = some ⟨.sl i, p⟩ → ¬ (C.bod H ow i i (.ref a) (.ref a)).io b := fun b p e n => by
    obtain ⟨l, e2, _, n2⟩ := n
    rw [e] at e2
    cases e2
    exact n2 rfl
  have nnone : ∀ b, ow b = none → ¬ (C.bod H ow i i (.ref a) (.ref a)).io b := fun b e n => by
    obtain ⟨l, e2, _, _⟩ := n
    rw [e] at e2; cases e2
  have fo3 : ∀ b p, ow b = some ⟨.sl i, p⟩ → ow3 b = some ⟨.fo, []⟩ := fun b p e => S3.fo b (.inr ⟨p, e⟩)
  have nown : ∀ b o, H b = some o → ow b = none → unl0 ow ow3 i b = none := fun b o e n => by
    cases e3 : ow3 b with
    | none => exact unl0_none e3
    | some l3 =>
      obtain ⟨b3, p3⟩ := l3
      rcases S3.own b _ e3 with z | z | z
      · have z : b3 = .fo := z
        subst z
        unfold unl0
        rw [e3, n]
      · have z : H b = none := z
        rw [z] at e; cases e
      · exact absurd z (nnone b n)
  have p3i : s3[i]? = some (some (.ref a)) := S3.pin (i, .ref a) (List.mem_cons_of_mem _ List.mem_cons_self)
  have na : ¬ (C.bod H ow i i (.ref a) (.ref a)).io a := by
    cases o with
    | true => exact nset a [] (by simpa using oa)
    | false => exact nnone a (by simpa using oa)
  have hH3 : Holds G H3 a k vs' := by
    obtain ⟨ob, hob, _⟩ := hH.there hk
    exact hH.keep fun o z => keep a o z na
  refine ⟨⟨by simpa using S3.len, fun i' d y => ?_, fun n d w y => ?_, fun b o n y => ?_, fun b l y => ?_, fun b y => ?_, fun b l y => ?_, fun p hp => S3.pin p (List.mem_cons_of_mem _ (List.mem_cons_of_mem _ hp)), S3.tabs⟩, hH3, p3i⟩
  · by_cases hi : i' = i
    · subst hi
      have hlt : i' < r3.length := by
        have := (List.getElem?_eq_some_iff.mp y).1
        simpa using this
      rw [List.getElem?_set_self hlt] at y
      cases y
      refine ⟨_, p3i, a, vs', rfl, hH3, .mk ?_, Reps.of_get z4.length fun n d v' y1 y2 => ?_⟩
      · obtain ⟨ob, hob, _⟩ := hH.there hk
        cases o with
        | true =>
          have oa' : ow a = some ⟨.sl i', []⟩ := by simpa using oa
          rw [unl0_i (fo3 a _ oa') oa']; rfl
        | false =>
          have oa' : ow a = none := by simpa using oa
          rw [nown a ob hob oa']; rfl
      · obtain ⟨v2, e1, e2⟩ := z4.get n d y1
        rw [y2] at e1
        cases e1
        refine e2.mono d (fun b o z u => keep b o z ?_) (fun b o z u => keep b o z ?_) (fun b o z n => nown b o z n) fun b o p _ z => ?_
        · rcases u with u | ⟨p, u⟩
          · exact nnone b u
          · exact nset b _ u
        · rintro ⟨l, x1, _, _⟩
          have := S.mu b l x1
          rw [z] at this
          exact u this
        · exact unl0_i (fo3 b _ z) z
    · rw [List.getElem?_set_ne (Ne.symm hi)] at y
      obtain ⟨w, y1, y2⟩ := S3.sl i' d y
      refine ⟨w, y1, y2.mono d (fun _ _ z _ => z) (fun _ _ z _ => z) (fun _ _ _ z => unl0_none z) fun b o p _ z => ?_⟩
      exact unl0_sl z hi
  · exact Rep.mono (l := ⟨.tm n, []⟩) d (fun _ _ z _ => z) (fun _ _ z _ => z) (fun _ _ _ z => unl0_none z) (fun b o p _ z => unl0_tm (p := [] ++ p) z) (S3.tm n d w y)
  · refine (S.old b o n y).bind fun u0 y0 => keep b u0 y0 ?_
    rintro ⟨l, x1, x2, _⟩
    rcases S.own b l x1 with z | z | z
    · exact x2 z
    · rw [z] at y; cases y
    · exact n z
  · have back : ∀ l0, ow b = some l0 → l0.b ≠ .fo → C.H0 b = none ∨ C.io b := fun l0 e n => (S.own b l0 e).resolve_left n
    rcases (unl0_of y).2 with ⟨l0, e, h | h⟩ | ⟨l3, e, h⟩
    · exact .inl h
    · exact .inr (back l0 e h)
    · refine .inr ?_
      rcases S3.own b l3 e with z | z | z
      · exact absurd z h
      · have z : H b = none := z
        cases e0 : C.H0 b with
        | none => exact .inl rfl
        | some o =>
          by_cases hi : C.io b
          · exact .inr hi
          · exact ((S.old b o hi e0).on z).elim
      · obtain ⟨l0, x1, x2, _⟩ := z
        exact back l0 x1 x2
  · have e3 := S3.fo b (.inl y)
    unfold unl0
    rw [e3, S.fo b y]
  · obtain ⟨⟨l3, e3⟩, _⟩ := unl0_of y
    exact S3.mu b l3 e3
def seqK : Kd → Bool
  | .lst => true
  | .tup => true
  | _ => false
theorem seqK_of {k : Kd} (h : seqK k = true) : k = .lst ∨ k = .tup := by
  cases k <;> first | exact .inl rfl | exact .inr rfl | cases h
end
theorem callQ_loc {q n i : Nat} {F : D → List D → MO} {fs : Av} {r r1 : Rho} {xs rest : List R} {ds1 ds2 : List D} {d d0 d0' : D} (h : fs r = .ok xs r1) (hn : xs.length = n + 1) (hd : xs.drop q = .loc i :: rest) (h1 : valsR (xs.take q) = some ds1) (h2 : valsR rest = some ds2) (h3 : r1[i]? = some (some d0)) (hF : F d0 (frzs (ds1 ++ ds2)) = .ok d d0') : cCallQ q n F fs r = .ok (.val d) (r1.set i (some d0')) := by
  unfold cCallQ
  rw [h]
  show callKQ q n F xs r1 = _
  unfold callKQ
  simp only [if_pos hn, hd, h1, h2, h3, hF]
section
variable {P : Program} {w : World} {K : PySem.W.Frag} {mg : Str → Option Value} {base : Heap} {G : GX}
theorem fnQ2 {x qual : Str} {st : Stmt} {f : Addr} {fd : FuncData} {N ps : List Str} {k q n : Nat} {fb : Sv} (F : Fun K x qual st f fd) (S : FnScope N ps (defScope st)) (hps : ps.length = n + 1)
    (hbody : ∀ (cdv : Value) (A : Around) (outer : List Env) (s : Shared) (H : Hp) (E : XK) (C : Fc), Room k (A.deeper (envOfC qual (defScope st) s.heap.objs.size f cdv)) → (∀ p ∈ C.pin, p.1 = q) → VSs (cxOf (L2.CX P w) P w K mg base N qual (defScope st) f cdv A outer s H E) G C (fun cls d _ H => E cls d H) (defBody st) fb) :
    FnOk P w K mg base (L2.CX P w) (k + 1) f fd ps (spQ G q n (runQ q N.length fb)) := by
  refine F.okX S (fun vs H Q E h => (spQ_len h).trans hps.symm) (fun cdv A outer s H vs Q E hr h => ?_)
  obtain ⟨d0, ds, v0, us1, us2, ow0, ev, hq, h1, h2, h3, h4, h5, ht, h6⟩ := h
  subst ev
  refine ⟨_, hbody cdv A outer s H E (fcQ H ow0 q v0) hr (fun p hp => by
    have e : p = (q, v0) := by simpa [fcQ] using hp
    rw [e]), ?_⟩
  refine ⟨startR N.length (putQ q d0 ds), [], ⟨_, startQ_ok (N := N) ht hq h5 h2 h3 h4⟩, ?_⟩
  have fin : ∀ {d d0' : D} {v : V} {r : Rho} {T : List (D × V)} {s' : L2.St} {H' : Hp} {ow : Ow} {b : Bs}, StW G (fcQ H ow0 q v0) ow r T s' H' → r[q]? = some (some d0') → b ≠ .fo → b ≠ .sl q → Rep G ow H' d ⟨b, []⟩ v →
      (∀ v H' (ow1 : Ow) (b : Bs), (∀ a o, (∀ p, ow0 a ≠ some ⟨.sl q, p⟩) → H a = some o → Kt (H' a) o) → b ≠ .fo → b ≠ .sl q → Rep G ow1 H' d ⟨b, []⟩ v → Rep G ow1 H' d0' ⟨.sl q, []⟩ v0 →
      (∀ a l, ow1 a = some l → l.b ≠ .fo → H a = none ∨ ∃ p, ow0 a = some ⟨.sl q, p⟩) → (∀ a, ow0 a = some ⟨.fo, []⟩ → ow1 a = some ⟨.fo, []⟩) → (∀ a l, ow1 a = some l → OwnO (H' a)) → LamX.Tabs G.T H' → Q v H') → Q v H' :=
    fun {d d0' v r T s' H' ow b} S' h0 b1 b2 hr hq => by
      obtain ⟨v0', z1, z2⟩ := S'.sl q d0' h0
      have p0 := S'.pin (q, v0) (by simp [fcQ])
      have p0 : s'[q]? = some (some v0) := p0
      rw [p0] at z1
      cases z1
      exact hq v H' ow b (fun a o n y => S'.old a o (fun ⟨p, z⟩ => n p z) y) b1 b2 hr z2 (fun a l y n => (S'.own a l y).elim (fun z => absurd z n) id) (fun a y => S'.fo a y) S'.mu S'.tabs
  unfold runQ at h6
  cases e : fb (startR N.length (putQ q d0 ds)) with
  | nx r =>
    rw [e] at h6
    intro s' H' S'
    cases e2 : r[q]? with
    | none => simp only [e2] at h6
    | some o =>
      cases o with
      | none => simp only [e2] at h6
      | some d0' =>
        simp only [e2] at h6
        obtain ⟨ow, S'⟩ := S'
        exact fin (d := .non) (b := .tm 0) S' e2 (fun z => nomatch z) (fun z => nomatch z) rfl h6
  | rt x r =>
    rw [e] at h6
    intro s' v H' P'
    obtain ⟨⟨ow, S'⟩, l⟩ := P'
    cases x with
    | val d =>
      cases e2 : r[q]? with
      | none => simp only [e2] at h6
      | some o =>
        cases o with
        | none => simp only [e2] at h6
        | some d0' =>
          simp only [e2] at h6
          have z := opd_rep (x := .val d) (T := []) (T2 := []) (by simpa using S') l rfl
          exact fin (b := .tm 0) S' e2 (fun z => nomatch z) (fun z => nomatch z) z h6
    | loc i =>
      by_cases hi : i = q
      · simp only [hi, if_true] at h6
      · simp only [hi, if_false] at h6
        cases e3 : opd r (.loc i) with
        | none => simp only [e3] at h6
        | some d =>
          cases e2 : r[q]? with
          | none => simp only [e3, e2] at h6
          | some o =>
            cases o with
            | none => simp only [e3, e2] at h6
            | some d0' =>
              simp only [e3, e2] at h6
              have z := opd_rep (x := .loc i) (T := []) (T2 := []) (by simpa using S') l e3
              exact fin (b := .sl i) S' e2 (fun z => nomatch z) (fun z => hi (by injection z)) z h6
  | exc c r => rw [e] at h6; exact h6.elim
  | bk r => rw [e] at h6; exact h6.elim
  | ct r => rw [e] at h6; exact h6.elim
  | bad => rw [e] at h6; exact h6.elim
end
theorem pinQ {C : Fc} {q : Nat} (h : ∀ p ∈ C.pin, p.1 = q) (i : Nat) (hi : i ≠ q) : ∀ p ∈ C.pin, p.1 ≠ i := fun p hp z => hi ((h p hp).symm.trans z).symm
end VL

namespace VL
open PySem PySem.Spec PyProof.Rows L2
section
variable {X : Cx} {G : GX} {C : Fc} {W : WX} {ow ow' : Ow} {r : Rho} {T T1 T2 : List (D × V)} {s : L2.St} {H H' : Hp} {fa fb fc : Ev} {fs : Av} {f g : Sv}
end
def cTake (i : Nat) : Ev := fun r => match r[i]? with
  | some (some d) => .ok (.val d) (r.set i (some .any))
  | _ => .bad
section
variable {X : Cx} {G : GX} {C : Fc} {W : WX}
theorem ve_take {i : Nat} {x : Str} {pos : Pos} (hN : X.N[i]? = some x) (hv : Vis X.env.scope x) (hd : (x == ("__debug__" : Str)) = false := by decide) (hcd : (x == ("__classdict__" : Str)) = false := by decide) : VE X G C W (.Name x pos) (cTake i) := by
  refine PE.imp (pe_var hN hv hd hcd) fun s H Q h => ?_
  obtain ⟨r, T, ⟨ow, S⟩, g⟩ := h
  have g : Goes G C W T s Q (cTake i r) := g
  unfold cTake at g
  split at g
  · rename_i d e
    obtain ⟨v, z1, S2⟩ := S.pull e
    exact ⟨v, z1, g v H ⟨⟨_, S2⟩, trivial⟩⟩
  · exact g.elim
end
theorem take_at {r : Rho} {i : Nat} {d : D} (h : r[i]? = some (some d)) : cTake i r = .ok (.val d) (r.set i (some .any)) := by
  unfold cTake
  rw [h]
end VL

namespace VL
open PySem PySem.Spec PyProof.Rows L2
section
variable {X : Cx} {G : GX} {C : Fc} {W : WX} {fa : Ev}
end
section
variable {X : Cx} {G : GX} {C : Fc} {W : WX} {fk : Ev}
end
theorem lcL_fl {α : Type} {enc g : α → D} {p : α → Bool} {t : Tg} {fc : Option Ev} {fe : Ev} {vs : List Nat} {r0 : Rho} : ∀ (xs : List α) (acc : List D), acc.length + xs.length < 16777216 →
    (∀ a ∈ xs, ∃ r1, tgt t (enc a) r0 = some r1 ∧ ∃ r2, tstR fc r1 = .ok (.val (.bl (p a))) r2 ∧ wipeR r2 vs = r0 ∧ (p a = true → ∃ r3, cSet fe r2 = .ok (.val (g a)) r3 ∧ wipeR r3 vs = r0)) → lcL t fc fe vs (xs.map enc) acc r0 = .ok (acc ++ (xs.filter p).map g) r0
  | [], acc, _, _ => by simp [lcL]
  | d :: ds, acc, hl, hs => by
    simp only [List.length_cons] at hl
    obtain ⟨r1, e1, r2, e2, e3, e4⟩ := hs d List.mem_cons_self
    rw [List.map_cons]
    unfold lcL
    rw [e1]
    show (match tstR fc r1 with | .ok (.val (.bl true)) r2 => (match cSet fe r2 with | .ok (.val e) r3 => if acc.length < 16777216 then lcL t fc fe vs (ds.map enc) (acc ++ [e]) (wipeR r3 vs) else .bad | _ => .bad) | .ok (.val (.bl false)) r2 => lcL t fc fe vs (ds.map enc) acc (wipeR r2 vs) | _ => LO.bad) = _
    rw [e2]
    cases hp : p d with
    | true =>
      obtain ⟨r3, e5, e6⟩ := e4 hp
      show (match cSet fe r2 with | .ok (.val e) r3 => if acc.length < 16777216 then lcL t fc fe vs (ds.map enc) (acc ++ [e]) (wipeR r3 vs) else .bad | _ => LO.bad) = _
      rw [e5]
      show (if acc.length < 16777216 then lcL t fc fe vs (ds.map enc) (acc ++ [g d]) (wipeR r3 vs) else LO.bad) = _
      rw [if_pos (by omega), e6, lcL_fl ds (acc ++ [g d]) (by rw [List.length_append, List.length_singleton]; omega) (fun x hx => hs x (List.mem_cons_of_mem _ hx)), List.filter_cons_of_pos (by rw [hp]), List.map_cons, List.append_assoc]
      rfl
    | false =>
      show lcL t fc fe vs (ds.map enc) acc (wipeR r2 vs) = _
      rw [e3, lcL_fl ds acc (by omega) (fun x hx => hs x (List.mem_cons_of_mem _ hx)), List.filter_cons_of_neg (by rw [hp]; decide)]
theorem lc_fl {α : Type} {enc g : α → D} {p : α → Bool} {fi : Iv} {t : Tg} {fc : Option Ev} {fe : Ev} {vs : List Nat} {r r1 r0 : Rho} (xs : List α) (hi : fi r = .ok (xs.map enc) r1) (h0 : wipeR r1 vs = r0) (hl : xs.length < 16777216)
    (hs : ∀ a ∈ xs, ∃ r1, tgt t (enc a) r0 = some r1 ∧ ∃ r2, tstR fc r1 = .ok (.val (.bl (p a))) r2 ∧ wipeR r2 vs = r0 ∧ (p a = true → ∃ r3, cSet fe r2 = .ok (.val (g a)) r3 ∧ wipeR r3 vs = r0)) : cLc vs t fi fc fe r = .ok (.val (.node .lst true ((xs.filter p).map g))) (backR r1 r0 vs) := by
  rw [q_lc, hi]
  show (match lcL t fc fe vs (xs.map enc) [] (wipeR r1 vs) with | .ok acc r2 => EO.ok (.val (.node .lst true acc)) (backR r1 r2 vs) | .bad => .bad) = _
  rw [h0, lcL_fl xs [] (by simpa using hl) hs]
  rfl
end VL

namespace VL
open PySem PySem.Spec PyProof.Rows L2
section
variable {X : Cx} {G : GX} {C : Fc} {W : WX} {ow ow' : Ow} {r : Rho} {T T1 T2 : List (D × V)} {s : L2.St} {H H' : Hp} {fa fb fc fk fj : Ev} {fs : Av} {f g : Sv}
def scal : D → Bool
  | .int _ => true
  | .bl _ => true
  | .non => true
  | .str _ => true
  | _ => false
end
mutual
theorem Rep.own3 {G : GX} {H' : Hp} : ∀ (d : D) {l l' : Loc} {v : V} {ow1 ow3 : Ow}, (∀ a k vs, isR k ≠ true → Holds G H' a k vs → (isTup k = true ∨ VL.noL d = false) → ow1 a = none → ow3 a = none) → (∀ a p, ow1 a = some (l.app p) → ow3 a = some (l'.app p)) → Rep G ow1 H' d l v → Rep G ow3 H' d l' v
  | .any, _, _, _, _, _, _, _, _ => trivial
  | .non, _, _, _, _, _, _, _, h => h
  | .bl _, _, _, _, _, _, _, _, h => h
  | .int _, _, _, _, _, _, _, _, h => h
  | .str _, _, _, _, _, _, _, _, h => h
  | .exc _, _, _, _, _, _, _, _, h => h
  | .ty _, _, _, _, _, _, _, _, h => h
  | .cls _, _, _, _, _, _, _, _, h => h
  | .node k o xs, l, l', v, ow1, ow3, hz, hn, h => by
    obtain ⟨a, vs, ev, h1, h2, h3⟩ := h
    have un : VL.noLs xs = false → VL.noL (.node k o xs) = false := fun z => by
      show ((o || isTup k) && VL.noLs xs) = false
      rw [z, Bool.and_false]
    refine ⟨a, vs, ev, h1, ?_, Reps.own3 xs (fun a k' vs' nr z y => hz a k' vs' nr z (y.imp id un)) hn h3⟩
    by_cases hrd : isR k = true
    · exact .ofR hrd
    have h2 := h2.cases.resolve_left hrd
    refine .mk ?_
    cases o with
    | true =>
      have q : ow1 a = some l := by simpa using h2
      have e0 : l.app [] = l := by unfold Loc.app; rw [List.append_nil]
      have e1 : l'.app [] = l' := by unfold Loc.app; rw [List.append_nil]
      have z := hn a [] (by rw [e0]; exact q)
      rw [e1] at z
      rw [z]; simp
    | false =>
      have q : ow1 a = none := by simpa using h2
      have hk : isTup k = true ∨ VL.noL (.node k false xs) = false := by
        cases e : isTup k with
        | true => exact .inl rfl
        | false =>
          refine .inr ?_
          show ((false || isTup k) && VL.noLs xs) = false
          rw [e]; rfl
      rw [hz a k vs hrd h1 hk q]; simp
theorem Reps.own3 {G : GX} {H' : Hp} : ∀ (ds : List D) {l l' : Loc} {i : Nat} {vs : List V} {ow1 ow3 : Ow}, (∀ a k vs, isR k ≠ true → Holds G H' a k vs → (isTup k = true ∨ VL.noLs ds = false) → ow1 a = none → ow3 a = none) → (∀ a p, ow1 a = some (l.app p) → ow3 a = some (l'.app p)) → Reps G ow1 H' ds l i vs → Reps G ow3 H' ds l' i vs
  | [], _, _, _, _, _, _, _, _, h => h
  | d :: ds, l, l', i, vs, ow1, ow3, hz, hn, h => by
    obtain ⟨v, ws, ev, h1, h2⟩ := h
    have u1 : VL.noL d = false → VL.noLs (d :: ds) = false := fun z => by show (VL.noL d && VL.noLs ds) = false; rw [z]; rfl
    have u2 : VL.noLs ds = false → VL.noLs (d :: ds) = false := fun z => by show (VL.noL d && VL.noLs ds) = false; rw [z, Bool.and_false]
    refine ⟨v, ws, ev, Rep.own3 (l := l.sub i) (l' := l'.sub i) d (fun a k vs nr z y => hz a k vs nr z (y.imp id u1)) (fun a p q => ?_) h1, Reps.own3 ds (fun a k vs nr z y => hz a k vs nr z (y.imp id u2)) hn h2⟩
    have e : ∀ m : Loc, (m.sub i).app p = m.app (i :: p) := fun m => by unfold Loc.sub Loc.app; simp
    rw [e] at q ⊢
    exact hn a _ q
end
section
variable {X : Cx} {G : GX} {C : Fc} {W : WX} {ow ow' : Ow} {r : Rho} {T T1 T2 : List (D × V)} {s : L2.St} {H H' : Hp} {fa fb fc : Ev} {fs : Av} {f g : Sv}
end
theorem or_yes {fa fb : Ev} {r r1 : Rho} (h : fa r = .ok (.val (.bl true)) r1) : cOr fa fb r = .ok (.val (.bl true)) r1 := by
  rw [q_or, h, bd_ok]
section
variable {X : Cx}
end
end VL

namespace VL
open PySem PySem.Spec PyProof.Rows L2
section
variable {G : GX} {H H' : Hp} {ow ow0 : Ow}
end
section
variable {P : Program} {w : World} {K : PySem.W.Frag} {mg : Str → Option Value} {base : Heap} {G : GX}
end
section
variable {X : Cx} {G : GX} {C : Fc} {W : WX} {ow ow' : Ow} {r : Rho} {T T1 T2 : List (D × V)} {s : L2.St} {H H' : Hp} {fs : Av}
end
end VL

namespace VL
open PySem PySem.Spec PyProof.Rows L2
end VL

namespace VL
open PySem PySem.Spec PyProof.Rows L2
def rItemsK : V → List V → Hp → VK → Prop := fun x xs H Q => ∃ (a : Addr) (kvs : List (L2.Key × V)), x = .ref a ∧ xs = [] ∧ H a = some (.dK kvs) ∧ ∀ p, H p = none → Q (.ref p) (upd H p (L2.DX.itemsO p a))
theorem mt_itemsK {X : Cx} : MtR X "dict.items" rItemsK := by
  intro pins s σ H x xs v us Q I rx rxs h
  obtain ⟨a, kvs, rfl, rfl, ha, q⟩ := h
  cases rx
  cases rxs
  obtain ⟨z, hd, vs, rel, o, es, ep, ho, hx, hdat, _⟩ := dk_of I.hok ha
  refine DT.callItems (es := es) (ep := ep) hd ⟨o, ho, hx, hdat⟩ ?_
  have hf : H s.heap.objs.size = none := I.hok.fresh (Nat.le_refl _)
  exact ⟨.ref s.heap.objs.size, upd H s.heap.objs.size (L2.DX.itemsO s.heap.objs.size a), I.laid (t' := s.toks) (fun b u e => Heap.get?_push_of_some _ e) (Nat.le_refl _) (L2.DX.itemsO_ok (Heap.get?_push_size _ rfl)), rfl, q _ hf⟩
theorem takeT2 {X : Cx} {pins : List (Addr × Obj)} {σ : L2.St} {H0 : Hp} {s : Shared} {h' : Heap} {tk : Nat} {P : Addr → List V → Prop} (I0 : Inv X pins σ H0 s) : ∀ (L : List Addr) (H1 : Hp), Inv X pins σ H1 { s with heap := h', toks := tk } → L.Nodup →
    (∀ a ∈ L, s.heap.objs.size ≤ a ∧ H1 a = none ∧ ∃ vs, P a vs ∧ ∀ H2, ObjOk X.prog X.w H2 h' a (.tup vs)) →
    ∃ H2, Inv X pins σ H2 { s with heap := h', toks := tk } ∧ (∀ b o, H1 b = some o → H2 b = some o) ∧ (∀ b, b ∉ L → H2 b = H1 b) ∧ ∀ a ∈ L, ∃ vs, P a vs ∧ H2 a = some (.tup vs)
  | [], H1, I1, _, _ => ⟨H1, I1, fun _ _ e => e, fun _ _ => rfl, fun _ h => nomatch h⟩
  | a :: L, H1, I1, hn, h => by
    obtain ⟨hb, hnone, vs, hP, ok⟩ := h a (List.mem_cons_self ..)
    have I2 : Inv X pins σ (upd H1 a (.tup vs)) { s with heap := h', toks := tk } := I1.take (h' := h') (t' := tk) (fun b ob _ e => e) (I0.fpOk hb hnone) (ok _)
    rw [List.nodup_cons] at hn
    obtain ⟨H2, I3, g, g2, q⟩ := takeT2 I0 L (upd H1 a (.tup vs)) I2 hn.2 fun c hc => by
      obtain ⟨c1, c2, c3⟩ := h c (List.mem_cons_of_mem _ hc)
      exact ⟨c1, by rw [upd_ne (fun z => hn.1 (by rw [← z]; exact hc))]; exact c2, c3⟩
    refine ⟨H2, I3, fun b o e => g b o (by rw [upd_ne (ne_of_none e hnone)]; exact e), fun b hb => ?_, fun c hc => ?_⟩
    · have h1 : b ≠ a := fun e => hb (e ▸ List.mem_cons_self)
      rw [g2 b (fun z => hb (List.mem_cons_of_mem _ z)), upd_ne h1]
    · rcases List.mem_cons.mp hc with rfl | hc
      · exact ⟨vs, hP, g _ _ upd_same⟩
      · exact q c hc
def rSortItK : List V → Hp → VK → Prop := fun vs H Q => ∃ (p a : Addr) (ps : List (Int × Int)), vs = [.ref p] ∧ H p = some (L2.DX.itemsO p a) ∧ H a = some (.dK (ps.map fun q => (Sum.inl q.1, V.int q.2))) ∧
  ∀ (H2 : Hp) (l : Addr) (zs : List (Addr × Int × Int)), (∀ b o, H b = some o → H2 b = some o) → (zs.map (·.2)).Perm ps → (zs.map (·.2)).Pairwise (fun x y => SrtO.lexB y x = false) → H2 l = none →
    (∀ z ∈ zs, H2 z.1 = some (.tup [.int z.2.1, .int z.2.2])) → Q (.ref l) (upd H2 l (.lst (zs.map fun z => V.ref z.1)))
def pairK (h : Heap) (v : Value) : Int × Int := match v with
  | .ref a => (match h.get? a with
    | some o => (match o.data with
      | .seq items _ => (match items.toList with
        | [.int x _, .int y _] => (x, y)
        | _ => (0, 0))
      | _ => (0, 0))
    | none => (0, 0))
  | _ => (0, 0)
theorem pairK_of {h : Heap} {v : Value} {x y : Int} (p : Srt.IsPair h v x y) : pairK h v = (x, y) := by
  obtain ⟨a, o, t, u, n, rfl, ho, hc, hd⟩ := p
  unfold pairK
  simp only [ho, hd]
theorem cr_sortedItemsK {X : Cx} (hc : X.calm = true) : CallR X (.builtin "sorted") rSortItK := by
  intro pins s σ H xs us Q I r h
  obtain ⟨p, a, ps, rfl, hp, ha, q⟩ := h
  obtain rfl := Vals.ref1 r
  have view : s.heap.IsItemsView p a := (show ObjOk X.prog X.w H s.heap p (L2.DX.itemsO p a) from I.hok p _ hp).1
  obtain ⟨z, hd, vs, rel, o, es, ep, ho, hx, hdat, hes, hpr, hn⟩ := dk_of I.hok ha
  have l1 : ps.length = vs.length := by
    have e := Paired.length rel
    rw [List.length_map] at e
    exact e
  have l2 : es.size = vs.length := by
    have e := Pairs.length hpr
    rw [Array.length_toList] at e
    exact e
  rw [List.length_map] at z
  have hh : X.A.handled = none := I.ok.hd hc
  refine DT.sortedI (es := es) (ep := ep) hh view ⟨o, ho, hx, hdat⟩ (by omega) fun h' tk as hk hlt hl hG => ?_
  have lak : as.length = ps.length := by omega
  have nd : as.Nodup := List.Pairwise.imp (fun h => Nat.ne_of_lt h) hG.rise
  -- an entry's key and value
  have ent : ∀ (es : List DictEntry) (ps : List (Int × Int)) (vs : List (L2.Key × Value)), Pairs (mixKind X.prog X.w) es vs → KV (ps.map fun q => (Sum.inl q.1, V.int q.2)) vs → ∀ (j : Nat) (e : DictEntry), es[j]? = some e → ∃ (q : Int × Int) (t u : Tok), ps[j]? = some q ∧ e.key = Value.int q.1 t ∧ e.val = Value.int q.2 u := by
    intro es ps vs hpr
    induction hpr generalizing ps with
    | nil => intro _ j e he; simp at he
    | @cons e0 kv es kvs h1 h2 _ ih =>
      intro rel j e he
      cases ps with
      | nil => cases rel
      | cons q0 ps =>
        cases rel with
        | cons r1 r2 =>
          cases j with
          | zero =>
            simp at he
            subst he
            obtain ⟨r3, r4⟩ := r1
            have h1' : keyIs kv.1 e0.key = true := h1
            rw [← r3] at h1'
            rcases keyIs_shape h1' with ⟨i, t, ek, ev⟩ | ⟨z, t, ek, ev⟩
            · cases ek
              obtain ⟨u, hu⟩ := r4
              exact ⟨q0, t, u, rfl, ev, by rw [h2, hu]⟩
            · cases ek
          | succ j => exact ih ps r2 j e (by simpa using he)
  have pr : ∀ (j : Nat) (b : Addr), as[j]? = some b → ∃ (q : Int × Int) (t u : Tok), ps[j]? = some q ∧ h'.get? b = some { cls := .type "tuple", data := .seq #[Value.int q.1 t, Value.int q.2 u] } := by
    intro j b hj
    obtain ⟨en, he, hg⟩ := hG.pairs j b hj
    obtain ⟨q, t, u, h1, h2, h3⟩ := ent es.toList ps vs hpr rel j en (by rw [Array.getElem?_toList]; exact he)
    rw [h2, h3] at hg
    exact ⟨q, t, u, h1, hg⟩
  have hob : (h'.push { cls := .type "list", data := .seq (as.map Value.ref).toArray }).get? h'.objs.size = some (seqObj "list" (as.map Value.ref).toArray 0) := Heap.get?_push_size _ rfl
  have kb : ∀ b o, s.heap.get? b = some o → (h'.push { cls := .type "list", data := .seq (as.map Value.ref).toArray }).get? b = some o := fun b o e => Heap.get?_push_of_some _ (hk b o e)
  have ne0 : ∀ b o, h'.get? b = some o → b ≠ h'.objs.size := fun b o e => Nat.ne_of_lt (Heap.lt_size e)
  generalize hh2 : h'.push { cls := .type "list", data := .seq (as.map Value.ref).toArray } = h2 at hob kb ⊢
  have ka : ∀ b o, h'.get? b = some o → h2.get? b = some o := fun b o e => by rw [← hh2]; exact Heap.get?_push_of_some _ e
  have ip : ∀ (j : Nat) (b : Addr), as[j]? = some b → ∃ q : Int × Int, ps[j]? = some q ∧ Srt.IsPair h2 (.ref b) q.1 q.2 := fun j b hj => by
    obtain ⟨q, t, u, h1, hg⟩ := pr j b hj
    exact ⟨q, h1, b, _, t, u, 0, rfl, ka _ _ hg, rfl, rfl⟩
  have ipk : ∀ v ∈ as.map Value.ref, Srt.IsPair h2 v (pairK h2 v).1 (pairK h2 v).2 := fun v hv => by
    obtain ⟨b, hb, rfl⟩ := List.mem_map.mp hv
    obtain ⟨j, hj⟩ := List.mem_iff_getElem?.mp hb
    obtain ⟨q, _, hq⟩ := ip j b hj
    rw [pairK_of hq]
    exact hq
  refine wpAny_call_entry PyProof.Rows.slot_list_sort ⟨_, hob, rfl⟩ PyProof.Rows.entry_list_sort
    (SrtO.list_sort_ord (s := { s with heap := h2, toks := tk }) (SrtO.swo_lex (pairK h2)) hob (by rw [List.length_map]; omega) (fun h2' => SrtO.pairs_sortableO (s := { s with heap := h2, toks := tk }) (by omega) ipk fun o e => ?_) fun out o1 o2 => ⟨.none, rfl, ?_⟩) (PyProof.Rows.args_list_sort _)
  · have e' : some o = some (seqObj "list" (as.map Value.ref).toArray 0) := e.symm.trans hob
    cases e'
    intro c
    exact absurd (Value.type.inj c) (by decide)
  · show EP X pins σ Q (.ref h'.objs.size) { s with heap := sortedHeap h2 h'.objs.size (as.map Value.ref) out.toArray, toks := tk }
    obtain ⟨zs, pz, ez⟩ := perm_lift (fun z : Addr × Int × Int => Value.ref z.1) o2.perm (as.zip ps) (by
      have : (as.zip ps).map (fun z => Value.ref z.1) = ((as.zip ps).map (·.1)).map Value.ref := by rw [List.map_map]; rfl
      rw [this, List.map_fst_zip (by omega)])
    have idx : ∀ z ∈ zs, ∃ j : Nat, as[j]? = some z.1 ∧ ps[j]? = some z.2 := by
      intro z' hz'
      obtain ⟨j, hj⟩ := List.mem_iff_getElem?.mp (pz.mem_iff.mp hz')
      exact ⟨j, List.getElem?_zip_eq_some.mp hj⟩
    have zk : ∀ z ∈ zs, pairK h2 (.ref z.1) = z.2 := fun z hz => by
      obtain ⟨j, j1, j2⟩ := idx z hz
      obtain ⟨q, hq, hp'⟩ := ip j z.1 j1
      rw [j2] at hq
      cases hq
      exact pairK_of hp'
    have hperm : (zs.map (·.2)).Perm ps := by
      have e := pz.map (·.2)
      have m2 : (as.zip ps).map (·.2) = ps := List.map_snd_zip (by rw [lak]; exact Nat.le_refl _)
      rw [m2] at e
      exact e
    have hsort : (zs.map (·.2)).Pairwise (fun x y => SrtO.lexB y x = false) := by
      have o1' : out.Pairwise (fun x y => SrtO.lexB (pairK h2 y) (pairK h2 x) = false) := o1
      rw [← ez, List.pairwise_map] at o1'
      rw [List.pairwise_map]
      refine List.Pairwise.imp_of_mem (fun {x y} hx hy h => ?_) o1'
      rw [zk x hx, zk y hy] at h
      exact h
    have kF : ∀ b o, b ≠ h'.objs.size → h2.get? b = some o → (sortedHeap h2 h'.objs.size (as.map Value.ref) out.toArray).get? b = some o := fun b o hb e => (PyProof.Rows.sortedHeap_old hb (Heap.lt_size e)).trans e
    have kS : ∀ b o, s.heap.get? b = some o → (sortedHeap h2 h'.objs.size (as.map Value.ref) out.toArray).get? b = some o := fun b o e => kF b o (ne0 _ _ (hk b o e)) (kb b o e)
    obtain ⟨eF, heF⟩ := PyProof.Rows.sortedHeap_at (vs := as.map Value.ref) (out := out.toArray) hob
    have I1 : Inv X pins σ H { s with heap := sortedHeap h2 h'.objs.size (as.map Value.ref) out.toArray, toks := tk } := I.kept (t' := tk) kS
    obtain ⟨H2, I3, g, g2, qt⟩ := takeT2 (P := fun b ws => ∃ (j : Nat) (q : Int × Int), as[j]? = some b ∧ ps[j]? = some q ∧ ws = [.int q.1, .int q.2]) I as _ I1 nd fun b hb => by
      obtain ⟨j, hj⟩ := List.mem_iff_getElem?.mp hb
      obtain ⟨q, t, u, hq, hg⟩ := pr j b hj
      have hbl : s.heap.objs.size ≤ b := Nat.le_of_lt (hG.above b hb)
      refine ⟨hbl, I.hok.fresh hbl, [.int q.1, .int q.2], ⟨j, q, hj, hq, rfl⟩, fun H3 => ⟨(by rw [sizeLine_eq]; show 2 ≤ 16777216; omega), [Value.int q.1 t, Value.int q.2 u], .cons ⟨t, rfl⟩ (.cons ⟨u, rfl⟩ .nil), ⟨_, kF _ _ (ne0 _ _ hg) (ka _ _ hg), rfl, 0, rfl⟩⟩⟩
    have hnl : h'.objs.size ∉ as := fun hm => Nat.lt_irrefl _ (hG.there hm)
    have hn0 : H h'.objs.size = none := I.hok.fresh (Nat.le_of_lt hlt)
    have hn2 : H2 h'.objs.size = none := by rw [g2 _ hnl]; exact hn0
    have hlen : (zs.map fun z => V.ref z.1).length ≤ sizeLine := by
      have e : zs.length = ps.length := by simpa using hperm.length_eq
      rw [List.length_map, e, ← lak]
      omega
    have rv : Vals (zs.map fun z => V.ref z.1) out := by
      rw [← ez]
      exact vals_maps (fun z : Addr × Int × Int => V.ref z.1) (fun z => Value.ref z.1) zs fun _ _ => rfl
    have I4 : Inv X pins σ (upd H2 h'.objs.size (.lst (zs.map fun z => V.ref z.1))) { s with heap := sortedHeap h2 h'.objs.size (as.map Value.ref) out.toArray, toks := tk } :=
      I3.take (h' := sortedHeap h2 h'.objs.size (as.map Value.ref) out.toArray) (t' := tk) (fun b ob _ e => e) (I.fpOk (Nat.le_of_lt hlt) hn2) ⟨hlen, out, eF, rv, heF⟩
    refine ⟨.ref h'.objs.size, _, I4, rfl, q H2 h'.objs.size zs g hperm hsort hn2 fun z' hz' => ?_⟩
    obtain ⟨i, i1, i2⟩ := idx z' hz'
    obtain ⟨ws, ⟨j, e, j1, j2, ev⟩, hH⟩ := qt z'.1 (List.mem_of_getElem? i1)
    have eij : i = j := (List.getElem?_inj (List.getElem?_eq_some_iff.mp i1).1 nd).mp (i1.trans j1.symm)
    subst eij
    have ee : e = z'.2 := Option.some.inj (j2.symm.trans i2)
    rw [ev, ee] at hH
    exact hH
end VL

namespace VL
open PySem PySem.Spec PyProof.Rows L2
theorem units1 {k : Nat} {A : Around} (h : Room k A) : A.units + 1 < cLine := by have := h.un; omega
def keyD : D → Option L2.Key
  | .int i => some (.inl i)
  | .str s => some (.inr s)
  | _ => none
def dix (ks : List L2.Key) (k : L2.Key) : Option Nat := ks.findIdx? fun x => decide (x = k)
theorem dix_cons (x : L2.Key) (ks : List L2.Key) (k : L2.Key) : dix (x :: ks) k = if x = k then some 0 else (dix ks k).map (· + 1) := by
  unfold dix
  rw [List.findIdx?_cons]
  by_cases h : x = k
  · rw [decide_eq_true h, if_pos h]; rfl
  · rw [decide_eq_false h, if_neg h]
    rfl
theorem valV_zip (k : L2.Key) : ∀ {ks : List L2.Key} {vs : List V}, ks.length = vs.length → valV (ks.zip vs) k = (dix ks k).bind fun j => vs[j]?
  | [], _, _ => rfl
  | x :: ks, [], h => by simp at h
  | x :: ks, v :: vs, h => by
    rw [dix_cons]
    show valV ((x, v) :: ks.zip vs) k = _
    by_cases e : x = k
    · rw [valV_pos (p := (x, v)) e, if_pos e]; rfl
    · rw [valV_neg (p := (x, v)) e, if_neg e, valV_zip k (by simpa using h)]
      cases dix ks k <;> rfl
theorem dix_lt {ks : List L2.Key} {k : L2.Key} {j : Nat} (h : dix ks k = some j) : j < ks.length ∧ ks[j]? = some k := by
  unfold dix at h
  rw [List.findIdx?_eq_some_iff_getElem] at h
  obtain ⟨h1, h2, _⟩ := h
  exact ⟨h1, by rw [List.getElem?_eq_getElem h1, of_decide_eq_true h2]⟩
theorem dix_none {ks : List L2.Key} {k : L2.Key} : dix ks k = none ↔ k ∉ ks := by
  unfold dix
  rw [List.findIdx?_eq_none_iff]
  exact ⟨fun h m => by have := h k m; simp at this, fun h x hx => decide_eq_false fun e => h (e ▸ hx)⟩
theorem map_off {β : Type} (k : L2.Key) (v : β) : ∀ (kvs : List (L2.Key × β)), k ∉ kvs.map (·.1) → (kvs.map fun kv => if kv.1 = k then (kv.1, v) else kv) = kvs
  | [], _ => rfl
  | p :: r, h => by
    rw [List.map_cons] at h ⊢
    rw [if_neg (fun e => h (by rw [← e]; exact List.mem_cons_self)), map_off k v r (fun m => h (List.mem_cons_of_mem _ m))]
theorem zip_fst {β : Type} : ∀ {ks : List L2.Key} {vs : List β}, ks.length = vs.length → (ks.zip vs).map (·.1) = ks
  | [], _, _ => rfl
  | _ :: _, [], h => by simp at h
  | k :: ks, v :: vs, h => by
    show k :: (ks.zip vs).map (·.1) = k :: ks
    rw [zip_fst (by simpa using h)]
theorem putK_at (k : L2.Key) (v : V) : ∀ {ks : List L2.Key} {vs : List V} {j : Nat}, ks.length = vs.length → ks.Nodup → dix ks k = some j → ((ks.zip vs).map fun kv => if kv.1 = k then (kv.1, v) else kv) = ks.zip (vs.set j v)
  | [], _, _, _, _, h => by cases h
  | x :: ks, [], _, h, _, _ => by simp at h
  | x :: ks, u :: vs, j, hl, hn, h => by
    rw [dix_cons] at h
    have hl' : ks.length = vs.length := by simpa using hl
    by_cases e : x = k
    · rw [if_pos e] at h
      cases h
      show (if x = k then (x, v) else (x, u)) :: (ks.zip vs).map _ = (x, v) :: ks.zip vs
      rw [if_pos e, map_off k v _ (by rw [zip_fst hl', ← e]; exact (List.nodup_cons.mp hn).1)]
    · rw [if_neg e] at h
      cases e2 : dix ks k with
      | none => rw [e2] at h; cases h
      | some i =>
        rw [e2] at h
        cases h
        show (if x = k then (x, v) else (x, u)) :: (ks.zip vs).map _ = (x, u) :: ks.zip (vs.set i v)
        rw [if_neg e, putK_at k v hl' (List.nodup_cons.mp hn).2 e2]
theorem put_some {k : L2.Key} {v : V} {ks : List L2.Key} {vs : List V} {j : Nat} (hl : ks.length = vs.length) (hn : ks.Nodup) (h : dix ks k = some j) : putK (ks.zip vs) k v = ks.zip (vs.set j v) := by
  unfold putK
  rw [if_pos (by rw [valV_any, valV_zip k hl, h]; show (vs[j]?).isSome = true; rw [List.getElem?_eq_getElem (by have := (dix_lt h).1; omega)]; rfl)]
  exact putK_at k v hl hn h
theorem put_none {k : L2.Key} {v : V} {ks : List L2.Key} {vs : List V} (hl : ks.length = vs.length) (h : dix ks k = none) : putK (ks.zip vs) k v = (ks ++ [k]).zip (vs ++ [v]) := by
  rw [putK_new v (by rw [valV_zip k hl, h]; rfl), List.zip_append hl]
  rfl
theorem keyD_rep {G : GX} {ow : Ow} {H : Hp} {d : D} {l : Loc} {u : V} {k : L2.Key} (e : keyD d = some k) (h : Rep G ow H d l u) : u = kV k := by
  cases d with
  | int i => cases e; exact h
  | str s => cases e; exact h
  | _ => cases e
def cDNew : Ev := fun r => .ok (.val (.node (.dK []) true [])) r
section
variable {X : Cx} {G : GX} {C : Fc} {W : WX} {ow ow' : Ow} {r : Rho} {T T1 T2 : List (D × V)} {s : L2.St} {H H' : Hp} {fa fb fc fk : Ev} {f g : Sv} {fs : Av}
theorem ve_dnew {pos : Pos} : VE X G C W (.Dict [] [] pos) cDNew := by
  refine PE.imp pe_dnewK fun s H Q h => ?_
  obtain ⟨r, T, S, g⟩ := h
  have g : Goes G C W T s Q (.ok (.val (.node (.dK []) true [])) r) := g
  intro p hp
  exact g _ _ ⟨StOk.alloc (ds := []) (vs := []) true (by simpa using S) rfl hp (show Holds G _ p (.dK []) [] from ⟨upd_same, rfl⟩) (fun _ => trivial), trivial⟩
end
end VL

namespace VL
open PySem PySem.Spec PyProof.Rows L2
section
variable {X : Cx} {G : GX} {C : Fc} {W : WX} {ow ow' : Ow} {r : Rho} {T T1 T2 : List (D × V)} {s : L2.St} {H H' : Hp} {fa fb fc fk : Ev} {f : Sv} {g : G2} {fs : Av}
theorem StW.intoG {kd : Kd} (hkd : isR kd ≠ true) {i k : Nat} {ds ds' : List D} {d : D} {a : Addr} {v : V} (S : StW G C ow r (T ++ [(d, v)]) s H) (q : r[i]? = some (some (.node kd true ds))) (ha : s[i]? = some (some (.ref a)))
    (hds : (ds' = ds.set k d ∧ k < ds.length) ∨ (ds' = ds ++ [d] ∧ k = ds.length)) : ∃ vs, Holds G H a kd vs ∧ vs.length = ds.length ∧
    ∀ (kd' : Kd) (ho : HO), OwnO (some ho) → Holds G (upd H a ho) a kd' (if k < ds.length then vs.set k v else vs ++ [v]) →
    StW G C (intoSl ow T.length i k) (r.set i (some (.node kd' true ds'))) T s (upd H a ho) := by
  obtain ⟨v', z1, a', vs, ev, z2, z3, z4⟩ := S.sl i _ q
  rw [ha] at z1
  cases z1
  cases ev
  have oa : ow a = some ⟨.sl i, []⟩ := by simpa using z3.cases.resolve_left hkd
  have hl := z4.length
  refine ⟨vs, z2, hl.symm, fun kd' ho hm hh => ?_⟩
  have exn : ∀ (b : Addr) (o : HO), H b = some o → ¬ OwnO (some o) → upd H a ho b = some o := fun b o z n => by
    rw [upd_ne (fun e => by have m := S.mu a _ oa; rw [e] at z; rw [z] at m; exact n m)]; exact z
  refine StW.write (k := kd) (ow' := intoSl ow T.length i k) hkd S q ha hm (vs' := if k < ds.length then vs.set k v else vs ++ [v]) hh (fun b n => by unfold intoSl; rw [n]) (fun b j p n hj => ?_) (fun b p n => by unfold intoSl; rw [n]) (fun b l y => ?_) (fun b l y n l' y2 => ?_) ?_ ?_ (fun j d' w y => ?_)
  · unfold intoSl; rw [n]; exact if_neg (fun z => hj z.1)
  · obtain ⟨l', y1, y2⟩ := into_fo y
    exact ⟨l', y1, y2.mp⟩
  · obtain ⟨l2, y1, y3⟩ := into_fo y
    rw [y2] at y1
    cases y1
    exact fun z => n (y3.mpr z)
  · unfold intoSl; rw [oa]; simp
  · -- the parts
    have old : ∀ (m : Nat) dm vm, m ≠ k → ds[m]? = some dm → vs[m]? = some vm → Rep G (intoSl ow T.length i k) (upd H a ho) dm (Loc.sub ⟨.sl i, []⟩ (0 + m)) vm := fun m dm vm hm q1 q2 => by
      obtain ⟨vm', y1, y2⟩ := z4.get m dm q1
      rw [q2] at y1
      cases y1
      refine Rep.mono (l := Loc.sub ⟨.sl i, []⟩ (0 + m)) dm (fun b o z w => by rw [upd_ne (apart oa w (.inr (by simp [Loc.sub])))]; exact .inl z) (fun b o z n => exn b o z n) (fun b o _ n => by unfold intoSl; rw [n]) (fun b o p _ n => ?_) y2
      have n' : ow b = some ⟨.sl i, m :: p⟩ := by rw [n]; simp [Loc.sub, Loc.app]
      unfold intoSl
      rw [n']
      have : ¬ (i = i ∧ (m :: p).head? = some k) := by simp [hm]
      simp [Loc.sub, Loc.app, hm]
    have new : Rep G (intoSl ow T.length i k) (upd H a ho) d (Loc.sub ⟨.sl i, []⟩ (0 + k)) v := by
      refine Rep.mono (l := ⟨.tm T.length, []⟩) d (fun b o z w => by rw [upd_ne (apart oa w (.inl (fun z => nomatch z)))]; exact .inl z) (fun b o z n => exn b o z n) (fun b o _ n => by unfold intoSl; rw [n]) (fun b o p _ n => ?_) S.last
      have n' : ow b = some ⟨.tm T.length, [] ++ p⟩ := n
      unfold intoSl
      rw [n']
      simp [Loc.sub, Loc.app]
    rcases hds with ⟨e, hk⟩ | ⟨e, hk⟩
    · subst e
      refine Reps.of_get (by rw [if_pos hk]; simp [hl]) fun m dm vm q1 q2 => ?_
      rw [if_pos hk] at q2
      by_cases hm : m = k
      · subst hm
        rw [List.getElem?_set_self hk] at q1
        rw [List.getElem?_set_self (by omega)] at q2
        cases q1; cases q2
        exact new
      · rw [List.getElem?_set_ne (Ne.symm hm)] at q1 q2
        exact old m dm vm hm q1 q2
    · subst e
      subst hk
      refine Reps.of_get (by rw [if_neg (by omega)]; simp [hl]) fun m dm vm q1 q2 => ?_
      rw [if_neg (by omega)] at q2
      by_cases hm : m < ds.length
      · rw [List.getElem?_append_left hm] at q1
        rw [List.getElem?_append_left (by omega)] at q2
        exact old m dm vm (by omega) q1 q2
      · rw [List.getElem?_append_right (by omega)] at q1
        rw [List.getElem?_append_right (by omega), ← hl] at q2
        have em : m = ds.length := by
          have := (List.getElem?_eq_some_iff.mp q1).1
          simp at this; omega
        subst em
        simp at q1 q2
        subst q1; subst q2
        exact new
  · have hj : j < T.length := (List.getElem?_eq_some_iff.mp y).1
    have z := S.tm j d' w (by rw [List.getElem?_append_left hj]; exact y)
    refine Rep.mono (l := ⟨.tm j, []⟩) d' (fun b o z w => by rw [upd_ne (apart oa w (.inl (fun z => nomatch z)))]; exact .inl z) (fun b o z n => exn b o z n) (fun b o _ n => by unfold intoSl; rw [n]) (fun b o p _ n => ?_) z
    have n' : ow b = some ⟨.tm j, [] ++ p⟩ := n
    unfold intoSl
    rw [n']
    have : ¬ j = T.length := by omega
    simp [Loc.app, this]
def isDk (r : Rho) (i : Nat) : Bool := match r[i]? with
  | some (some (.node (.dK _) _ _)) => true
  | _ => false
theorem isDk_at {i : Nat} (h : isDk r i = true) : ∃ ks o ds, r[i]? = some (some (.node (.dK ks) o ds)) := by
  unfold isDk at h
  split at h
  · rename_i ks o ds e; exact ⟨ks, o, ds, e⟩
  · cases h
def putD (ks : List L2.Key) (xs : List D) (k : L2.Key) (d : D) : D := match dix ks k with
  | some j => .node (.dK ks) true (xs.set j d)
  | none => .node (.dK (ks ++ [k])) true (xs ++ [d])
def okD (ks : List L2.Key) : Prop := ks.Nodup ∧ ks.length < 16777216
instance (ks : List L2.Key) : Decidable (okD ks) := by unfold okD; exact inferInstance
theorem StW.dput {i : Nat} {ks : List L2.Key} {xs : List D} {k : L2.Key} {d : D} {v : V} (S : StW G C ow r (T ++ [(d, v)]) s H) (q : r[i]? = some (some (.node (.dK ks) true xs))) (hok : okD ks) :
    ∃ a H2, s[i]? = some (some (.ref a)) ∧ DPut H a (kV k) v H2 ∧ StOk G C (r.set i (some (putD ks xs k d))) T s H2 := by
  obtain ⟨w0, v1, a, vs0, ev, v2, v3, v4⟩ := S.sl i _ q
  subst ev
  obtain ⟨v2, hkl⟩ : H a = some (.dK (ks.zip vs0)) ∧ ks.length = vs0.length := v2
  have hl4 := v4.length
  have hlt : (ks.zip vs0).length < sizeLine := by rw [List.length_zip, hkl, Nat.min_self, ← hkl, sizeLine_eq]; exact hok.2
  refine ⟨a, _, v1, DPut.k (k := k) (v := v) v2 hlt, ?_⟩
  unfold putD
  cases e : dix ks k with
  | some j =>
    have hj := (dix_lt e).1
    obtain ⟨vs', w1, w2, w3⟩ := StW.intoG (kd := .dK ks) (fun z => nomatch z) S q v1 (.inl ⟨rfl, show j < xs.length by omega⟩)
    obtain ⟨w1, hkl'⟩ : H a = some (.dK (ks.zip vs')) ∧ ks.length = vs'.length := w1
    rw [v2] at w1
    have ez : ks.zip vs0 = ks.zip vs' := by injection w1 with w1; injection w1
    have ev : vs0 = vs' := by
      have e1 := congrArg (List.map (·.2)) ez
      rwa [List.map_snd_zip (by omega), List.map_snd_zip (by omega)] at e1
    subst ev
    have w4 := w3 (.dK ks) (.dK (putK (ks.zip vs0) k v)) trivial (by
      rw [if_pos (by omega), put_some hkl hok.1 e]
      exact ⟨upd_same, by rw [List.length_set]; exact hkl⟩)
    exact ⟨_, w4⟩
  | none =>
    obtain ⟨vs', w1, w2, w3⟩ := StW.intoG (kd := .dK ks) (fun z => nomatch z) S q v1 (.inr ⟨rfl, rfl⟩)
    obtain ⟨w1, hkl'⟩ : H a = some (.dK (ks.zip vs')) ∧ ks.length = vs'.length := w1
    rw [v2] at w1
    have ez : ks.zip vs0 = ks.zip vs' := by injection w1 with w1; injection w1
    have ev : vs0 = vs' := by
      have e1 := congrArg (List.map (·.2)) ez
      rwa [List.map_snd_zip (by omega), List.map_snd_zip (by omega)] at e1
    subst ev
    have w4 := w3 (.dK (ks ++ [k])) (.dK (putK (ks.zip vs0) k v)) trivial (by
      rw [if_neg (Nat.lt_irrefl _), put_none hkl e]
      exact ⟨upd_same, by rw [List.length_append, List.length_append]; simp [hkl]⟩)
    exact ⟨_, w4⟩
def dputK (i : Nat) (x y : R) (r1 : Rho) : SO := match x, (opd r1 y).bind keyD, r1[i]? with
  | .val d, some k, some (some (.node (.dK ks) true xs)) => if okD ks then .nx (r1.set i (some (putD ks xs k d))) else .bad
  | _, _, _ => .bad
def cDPut (i : Nat) (fk fa : Ev) : Sv := fun r => (cSet fa r).st fun x r1 => if isDk r1 i = true then (fk r1).st (dputK i x) else .bad
theorem vs_dput {i : Nat} {x : Str} {k e : Expr} {p tpos pos : Pos} {fk : Ev} (hu : X.A.units + 1 < cLine) (hN : X.N[i]? = some x) (hv : Vis X.env.scope x) (hd : (x == ("__debug__" : Str)) = false) (hcd : (x == ("__classdict__" : Str)) = false) (hk : VE X G C W k fk) (ha : VE X G C W e fa)
    (hs : swapsWith e (some (.Subscript (.Name x p) k tpos)) pos.line X.env = pure false := by rfl) : VS X G C W (.Assign [.Subscript (.Name x p) k tpos] e pos) (cDPut i fk fa) := by
  refine PS.imp (ps_dput hu (pe_var hN hv hd hcd) hk (ve_set ha) hs) fun D s H h => ?_
  obtain ⟨r, T, S, g⟩ := h
  refine oneS (fa := cSet fa) S g fun x v r1 H1 P g1 => ?_
  split at g1
  · rename_i hi
    obtain ⟨ks, o, ds, hr⟩ := isDk_at hi
    obtain ⟨ow1, S1⟩ := P.1
    obtain ⟨w, v1, a, vs, ev, v2, v3, v4⟩ := S1.sl i _ hr
    subst ev
    refine ⟨_, v1, ?_⟩
    refine ⟨r1, T ++ pushR x v, ⟨ow1, S1⟩, ?_⟩
    cases e1 : fk r1 with
    | exc c r2 => rw [e1] at g1; exact fun H' S' => g1 s H' S'.drop
    | bad => rw [e1] at g1; exact g1.elim
    | ok y r2 =>
      rw [e1] at g1
      simp only [st_ok] at g1
      intro u H2 P2
      unfold dputK at g1
      split at g1
      · rename_i d k' ks' xs' e2 q
        split at g1
        · rename_i hok
          cases e3 : opd r2 y with
          | none => rw [e3] at e2; cases e2
          | some z =>
            rw [e3] at e2
            have e2 : keyD z = some k' := e2
            obtain ⟨ow2, S2⟩ := P2.1
            have eu := keyD_rep e2 (opd_rep (T := T ++ pushR (.val d) v) (T2 := []) (by rw [List.append_nil]; exact S2) P2.2 e3)
            have S3 : StW G C ow2 r2 (T ++ [(d, v)]) s H2 := StW.drop (T := T ++ [(d, v)]) (T2 := pushR y u) S2
            obtain ⟨a', H3, z1, z2, z3⟩ := S3.dput (k := k') q hok
            rw [v1] at z1
            cases z1
            subst eu
            exact ⟨a, H3, rfl, z2, g1 _ _ z3⟩
        · exact g1.elim
      · exact g1.elim
  · exact g1.elim
def daugK (i j : Nat) (ks : List L2.Key) (z : R) (r3 : Rho) : SO := match z, r3[i]? with
  | .val d, some (some (.node (.dK ks') true xs)) => if atom d = true ∧ ks' = ks ∧ okD ks then .nx (r3.set i (some (.node (.dK ks) true (xs.set j d)))) else .bad
  | _, _ => .bad
def cDAug (i : Nat) (g : G2) (fk fb : Ev) : Sv := fun r => if isDk r i = true then (fk r).st fun y r1 => match (opd r1 y).bind keyD, r1[i]? with
  | some k, some (some (.node (.dK ks) _ xs)) => (match dix ks k with
    | some j => (match xs[j]? with
      | some d => if atom d = true then (fb r1).st fun y2 r2 => (g (.val d) y2 r2).st (daugK i j ks) else .bad
      | none => .bad)
    | none => .bad)
  | _, _ => .bad else .bad
def dgetZ (i : Nat) (y z : R) (r2 : Rho) : EO := match (opd r2 y).bind keyD, opd r2 z, r2[i]? with
  | some k, some dz, some (some (.node (.dK ks) _ xs)) => (match dix ks k with
    | some j => (match xs[j]? with
      | some d => if atom d = true then .ok (.val d) r2 else .bad
      | none => .bad)
    | none => if atom dz = true then .ok (.val dz) r2 else .bad)
  | _, _, _ => .bad
def cDGetZ (i : Nat) (fk fz : Ev) : Ev := fun r => if isDk r i = true then (fk r).bd fun y r1 => (fz r1).bd fun z r2 => dgetZ i y z r2 else .bad
theorem ve_dget2 {i : Nat} {x : Str} {a b : Expr} {p apos cpos : Pos} (hu : X.A.units + 1 < cLine) (hN : X.N[i]? = some x) (hv : Vis X.env.scope x) (hd : (x == ("__debug__" : Str)) = false) (hcd : (x == ("__classdict__" : Str)) = false) (ha : VE X G C W a fa) (hb : VE X G C W b fb) (m : M2 X (.Name x p) "get" apos a b cpos) :
    VE X G C W (.Call (.Attribute (.Name x p) "get" apos) [a, b] [] cpos) (cDGetZ i fa fb) := by
  refine PE.imp (pe_dget2 hu (pe_var hN hv hd hcd) ha hb m) fun s H Q h => ?_
  obtain ⟨r, T, S, g⟩ := h
  have g : Goes G C W T s Q (cDGetZ i fa fb r) := g
  unfold cDGetZ at g
  split at g
  · rename_i hi
    obtain ⟨ks0, o0, ds0, hr⟩ := isDk_at hi
    obtain ⟨ow0, S0⟩ := S
    obtain ⟨w, v1, a0, vs, ev, v2, _, _⟩ := S0.sl i _ hr
    subst ev
    obtain ⟨v2, _⟩ : H a0 = some (.dK (ks0.zip vs)) ∧ ks0.length = vs.length := v2
    refine ⟨_, v1, a0, rfl, .inl ⟨_, .inl v2⟩, ?_⟩
    refine two ⟨ow0, S0⟩ g fun y z u w r2 H2 S2 ly lz q => ?_
    obtain ⟨ow, S2⟩ := S2
    unfold dgetZ at q
    split at q
    · rename_i k dz ks o xs e1 e2 e3
      cases e4 : opd r2 y with
      | none => rw [e4] at e1; cases e1
      | some yd =>
        rw [e4] at e1
        have e1 : keyD yd = some k := e1
        have eu := keyD_rep e1 (opd_rep S2 ly e4)
        have rz := opd_rep (T := T ++ pushR y u) (T2 := []) (by rw [List.append_nil, List.append_assoc]; exact S2) lz e2
        have S3 : StW G C ow r2 T s H2 := S2.drop
        obtain ⟨w2, x1, a2, vs2, ev2, x2, x3, x4⟩ := S3.sl i _ e3
        subst ev2
        rw [v1] at x1
        cases x1
        obtain ⟨x2, hkl⟩ : H2 a0 = some (.dK (ks.zip vs2)) ∧ ks.length = vs2.length := x2
        have dg := DGet.k (k := k) x2
        rw [valV_zip k hkl] at dg
        subst eu
        refine ⟨_, dg, ?_⟩
        split at q
        · rename_i j ej
          split at q
          · rename_i d ed
            split at q
            · rename_i ad
              obtain ⟨wv, ew, rw'⟩ := x4.get j d ed
              rw [ej]
              have e5 : (some j).bind (fun j => vs2[j]?) = some wv := ew
              rw [e5]
              exact goes_val q ⟨ow, S3⟩ ad fun _ _ => rw'.of_atom ad
            · exact q.elim
          · exact q.elim
        · rename_i en
          split at q
          · rename_i az
            rw [en]
            exact goes_val q ⟨ow, S3⟩ az fun _ _ => rz.of_atom az
          · exact q.elim
    · exact q.elim
  · exact g.elim
end
end VL

namespace VL
open PySem PySem.Spec PyProof.Rows L2
def leP (p q : Int × Int) : Bool := decide (p.1 < q.1) || (decide (p.1 = q.1) && decide (p.2 ≤ q.2))
theorem leP_iff {p q : Int × Int} : leP p q = true ↔ p.1 < q.1 ∨ (p.1 = q.1 ∧ p.2 ≤ q.2) := by
  unfold leP
  rw [Bool.or_eq_true, Bool.and_eq_true, decide_eq_true_eq, decide_eq_true_eq, decide_eq_true_eq]
theorem leP_lexB {p q : Int × Int} : SrtO.lexB q p = false ↔ leP p q = true := by
  rw [leP_iff, ← Bool.not_eq_true, SrtO.lexB_iff]
  omega
def insP (x : Int × Int) : List (Int × Int) → List (Int × Int)
  | [] => [x]
  | y :: ys => if leP x y = true then x :: y :: ys else y :: insP x ys
def srtP : List (Int × Int) → List (Int × Int)
  | [] => []
  | x :: xs => insP x (srtP xs)
theorem insP_perm (x : Int × Int) : ∀ ys : List (Int × Int), (insP x ys).Perm (x :: ys)
  | [] => List.Perm.refl _
  | y :: ys => by
    unfold insP
    split
    · exact List.Perm.refl _
    · exact ((insP_perm x ys).cons y).trans (List.Perm.swap x y ys)
theorem srtP_perm : ∀ xs : List (Int × Int), (srtP xs).Perm xs
  | [] => List.Perm.refl _
  | x :: xs => (insP_perm x (srtP xs)).trans ((srtP_perm xs).cons x)
theorem leP_trans {x y z : Int × Int} (h : leP x y = true) (h' : leP y z = true) : leP x z = true := by
  rw [leP_iff] at *
  omega
theorem leP_total {x y : Int × Int} (h : ¬ leP x y = true) : leP y x = true := by
  rw [leP_iff] at *
  omega
theorem insP_up (x : Int × Int) : ∀ ys : List (Int × Int), ys.Pairwise (fun p q => leP p q = true) → (insP x ys).Pairwise (fun p q => leP p q = true)
  | [], _ => by simp [insP]
  | y :: ys, h => by
    unfold insP
    have h1 := List.pairwise_cons.mp h
    split
    · rename_i hx
      refine List.pairwise_cons.mpr ⟨fun z hz => ?_, h⟩
      rcases List.mem_cons.mp hz with e | e
      · rw [e]; exact hx
      · exact leP_trans hx (h1.1 z e)
    · rename_i hx
      refine List.pairwise_cons.mpr ⟨fun z hz => ?_, insP_up x ys h1.2⟩
      rcases List.mem_cons.mp ((insP_perm x ys).mem_iff.mp hz) with e | e
      · rw [e]; exact leP_total hx
      · exact h1.1 z e
theorem srtP_up : ∀ xs : List (Int × Int), (srtP xs).Pairwise (fun p q => leP p q = true)
  | [] => List.Pairwise.nil
  | x :: xs => insP_up x _ (srtP_up xs)
theorem upP_unique : ∀ {xs ys : List (Int × Int)}, xs.Perm ys → xs.Pairwise (fun p q => leP p q = true) → ys.Pairwise (fun p q => leP p q = true) → xs = ys
  | [], ys, p, _, _ => by rw [List.nil_perm.mp p]
  | x :: xs, [], p, _, _ => by have := p.length_eq; simp at this
  | x :: xs, y :: ys, p, h1, h2 => by
    have h1' := List.pairwise_cons.mp h1
    have h2' := List.pairwise_cons.mp h2
    have e1 : x = y ∨ leP x y = true := by
      rcases List.mem_cons.mp (p.mem_iff.mpr (List.mem_cons_self : y ∈ y :: ys)) with e | e
      · exact .inl e.symm
      · exact .inr (h1'.1 y e)
    have e2 : x = y ∨ leP y x = true := by
      rcases List.mem_cons.mp (p.mem_iff.mp (List.mem_cons_self : x ∈ x :: xs)) with e | e
      · exact .inl e
      · exact .inr (h2'.1 x e)
    have e : x = y := by
      rcases e1 with e | e1
      · exact e
      · rcases e2 with e | e2
        · exact e
        · rw [leP_iff] at e1 e2
          exact Prod.ext (by omega) (by omega)
    subst e
    rw [upP_unique ((List.perm_cons x).mp p) h1'.2 h2'.2]
def keysI : List L2.Key → Option (List Int)
  | [] => some []
  | .inl i :: ks => (match keysI ks with
    | some ns => some (i :: ns)
    | none => none)
  | _ => none
theorem keysI_map (ns : List Int) : keysI (ns.map Sum.inl) = some ns := by
  induction ns with
  | nil => rfl
  | cons n ns ih =>
    show (match keysI (ns.map Sum.inl) with | some ns => some (n :: ns) | none => none) = _
    rw [ih]
theorem keysI_eq : ∀ {ks : List L2.Key} {ns : List Int}, keysI ks = some ns → ks = ns.map Sum.inl
  | [], ns, e => by cases e; rfl
  | .inl i :: ks, ns, e => by
    unfold keysI at e
    split at e
    · rename_i ms e2
      cases e
      rw [keysI_eq e2]; rfl
    · cases e
  | .inr z :: ks, ns, e => by unfold keysI at e; cases e
def pairD (p : Int × Int) : D := .node .tup false [.int p.1, .int p.2]
theorem frzs_pairs (ps : List (Int × Int)) : frzs (ps.map pairD) = ps.map pairD := by
  rw [frzs_map, List.map_map]
  rfl
def gSortedD : List R → Rho → EO := fun xs r => match xs with
  | [x] => (match opd r x with
    | some (.node (.dK ks) _ _) => (match keysI ks with
      | some ns => .ok (.val (.node .lst true ((srt ns).map .int))) r
      | none => .bad)
    | _ => .bad)
  | _ => .bad
def cSortItems (i : Nat) : Ev := fun r => match r[i]? with
  | some (some (.node (.dK ks) _ xs)) => (match keysI ks, intsOf xs with
    | some a, some b => .ok (.val (.node .lst true ((srtP (a.zip b)).map pairD))) r
    | _, _ => .bad)
  | _ => .bad
section
variable {X : Cx} {G : GX} {C : Fc} {W : WX} {ow ow' : Ow} {r : Rho} {T T1 T2 : List (D × V)} {s : L2.St} {H H' : Hp} {fa fb fc fk : Ev} {f : Sv} {g : G2} {fs : Av}
theorem reps_pairs {G : GX} {ow : Ow} {H : Hp} : ∀ (zs : List (Addr × Int × Int)) (l : VL.Loc) (i : Nat), (∀ z ∈ zs, H z.1 = some (.tup [.int z.2.1, .int z.2.2]) ∧ ow z.1 = none) → Reps G ow H ((zs.map (·.2)).map pairD) l i (zs.map fun z => V.ref z.1)
  | [], _, _, _ => rfl
  | z :: zs, l, i, h => ⟨_, _, rfl, ⟨z.1, _, rfl, (h z List.mem_cons_self).1, (h z List.mem_cons_self).2, _, _, rfl, rfl, _, _, rfl, rfl, rfl⟩, reps_pairs zs l (i + 1) fun y hy => h y (List.mem_cons_of_mem _ hy)⟩
theorem zip_keys : ∀ {ns ms : List Int}, (ns.map (Sum.inl : Int → L2.Key)).zip (ms.map V.int) = (ns.zip ms).map fun q => (Sum.inl q.1, V.int q.2)
  | [], _ => rfl
  | _ :: _, [] => rfl
  | n :: ns, m :: ms => by
    show (Sum.inl n, V.int m) :: (ns.map Sum.inl).zip (ms.map V.int) = (Sum.inl n, V.int m) :: _
    rw [zip_keys]
    rfl
theorem ve_sortItems {i : Nat} {x f : Str} {p p2 apos cpos pos : Pos} (hc : X.calm = true) (hN : X.N[i]? = some x) (hv : Vis X.env.scope x) (hd : (x == ("__debug__" : Str)) = false) (hcd : (x == ("__classdict__" : Str)) = false)
    (hg : Gl X f) (hm : X.mg f = none) (hb : bootBuiltins f = some (.builtin "sorted")) (hn : f ≠ "__name__" := by decide) (hdb : (f == ("__debug__" : Str)) = false := by decide)
    (hbase : attributeBase (.Name x p) "items" X.env (eval (.Name x p) X.env) = eval (.Name x p) X.env := by rfl) (hline : (apos.endLine == cpos.line) = true := by rfl)
    (hs : starEach [.Call (.Attribute (.Name x p) "items" apos) [] [] cpos] X.env = (false, eval (.Call (.Attribute (.Name x p) "items" apos) [] [] cpos) X.env) :: starEach [] X.env := by rfl) (hpl : (backTo pos (starEach [] X.env)).any (·.1) = false := by rfl) :
    VE X G C W (.Call (.Name f p2) [.Call (.Attribute (.Name x p) "items" apos) [] [] cpos] [] pos) (cSortItems i) := by
  refine PE.imp (pe_callB (cr_sortedItemsK hc) hg hm hb (pa_cons (pe_bm0 PySem.F.plainAttrs_dict PySem.F.slot_dict_items PySem.F.type_dict_items mt_itemsK (pe_var hN hv hd hcd) hbase hline) pa_nil hs) hn hdb hs hpl) fun s H Q h => ?_
  obtain ⟨r, T, S, g⟩ := h
  have g : Goes G C W T s Q (cSortItems i r) := g
  unfold cSortItems at g
  split at g
  · rename_i ks o xs q
    split at g
    · rename_i na nb e1 e2
      obtain ⟨ow, S⟩ := S
      obtain ⟨v, v1, a, vs, ev, v2, v3, v4⟩ := S.sl i _ q
      subst ev
      obtain ⟨v2, hkl⟩ : H a = some (.dK (ks.zip vs)) ∧ ks.length = vs.length := v2
      have ek := keysI_eq e1
      have ev := ints_rep e2 v4
      rw [ek, ev, zip_keys] at v2
      refine ⟨_, v1, .inr (.inr (.inl ⟨rfl, .inl ⟨_, v2⟩⟩)), a, _, rfl, rfl, v2, fun p0 hp0 => ?_⟩
      refine ⟨p0, a, na.zip nb, rfl, upd_same, by rw [upd_ne (ne_of_none v2 hp0)]; exact v2, fun H2 l zs he pz up hl hz => ?_⟩
      have S1 : StW G C ow r T s H2 := S.ext ((Ext.new hp0).trans fun b o z => .inl (he b o z)) ((tabs_none S.tabs hp0).ext he)
      have ez : zs.map (·.2) = srtP (na.zip nb) := upP_unique (pz.trans (srtP_perm _).symm) (List.Pairwise.imp (fun h => leP_lexB.mp h) up) (srtP_up _)
      rw [← ez] at g
      refine S1.made (l := ⟨.fo, []⟩) (i := 0) (frzs_pairs _) (reps_pairs zs _ _ fun z hzm => ⟨hz z hzm, ?_⟩) g l hl
      cases eo : ow z.1 with
      | none => rfl
      | some lo =>
        have m := S1.mu _ _ eo
        rw [hz z hzm] at m
        exact m.elim
    · exact g.elim
  · exact g.elim
end
end VL

namespace VL
open PySem PySem.Spec PyProof.Rows L2
abbrev kI (ks : List Int) : List L2.Key := ks.map Sum.inl
def dD (ks : List Int) (f : Int → D) : D := .node (.dK (kI ks)) true (ks.map f)
def addK (ks : List Int) (x : Int) : List Int := if x ∈ ks then ks else ks ++ [x]
def upF (f : Int → D) (x : Int) (d : D) : Int → D := fun y => if y = x then d else f y
theorem kI_nodup {ks : List Int} (h : ks.Nodup) : (kI ks).Nodup := by
  unfold List.Nodup kI
  rw [List.pairwise_map]
  exact List.Pairwise.imp (fun h e => h (by injection e)) h
theorem kI_ok {ks : List Int} (h : ks.Nodup) (hl : ks.length < 16777216) : okD (kI ks) := ⟨kI_nodup h, by rw [List.length_map]; exact hl⟩
theorem kI_mem {ks : List Int} {x : Int} : Sum.inl x ∈ kI ks ↔ x ∈ ks := by
  unfold kI
  rw [List.mem_map]
  exact ⟨fun ⟨y, h, e⟩ => by injection e with e; exact e ▸ h, fun h => ⟨x, h, rfl⟩⟩
theorem dix_in {ks : List Int} {x : Int} (h : x ∈ ks) : ∃ j, dix (kI ks) (Sum.inl x) = some j ∧ ks[j]? = some x := by
  cases e : dix (kI ks) (Sum.inl x) with
  | none => exact absurd (kI_mem.mpr h) (dix_none.mp e)
  | some j =>
    refine ⟨j, rfl, ?_⟩
    have e2 := (dix_lt e).2
    unfold kI at e2
    rw [List.getElem?_map] at e2
    cases e3 : ks[j]? with
    | none => rw [e3] at e2; cases e2
    | some y =>
      rw [e3] at e2
      have e4 : (Sum.inl y : L2.Key) = Sum.inl x := Option.some.inj e2
      injection e4 with e4
      rw [e4]
theorem dix_out {ks : List Int} {x : Int} (h : x ∉ ks) : dix (kI ks) (Sum.inl x) = none := dix_none.mpr fun m => h (kI_mem.mp m)
theorem map_upF {ks : List Int} {f : Int → D} {x : Int} {d : D} (h : x ∉ ks) : ks.map (upF f x d) = ks.map f := List.map_congr_left fun y hy => by
  unfold upF
  exact if_neg (fun (e : y = x) => h (e ▸ hy))
theorem set_upF : ∀ {ks : List Int} {f : Int → D} {x : Int} {d : D} {j : Nat}, ks.Nodup → ks[j]? = some x → (ks.map f).set j d = ks.map (upF f x d)
  | [], f, x, d, j, _, h => by simp at h
  | y :: ks, f, x, d, 0, hn, h => by
    simp at h
    subst h
    show d :: ks.map f = upF f y d y :: ks.map (upF f y d)
    rw [map_upF (List.nodup_cons.mp hn).1]
    unfold upF
    rw [if_pos rfl]
  | y :: ks, f, x, d, j + 1, hn, h => by
    have h : ks[j]? = some x := by simpa using h
    have hy : y ≠ x := fun e => (List.nodup_cons.mp hn).1 (e ▸ List.mem_of_getElem? h)
    show f y :: (ks.map f).set j d = upF f x d y :: ks.map (upF f x d)
    rw [set_upF (List.nodup_cons.mp hn).2 h]
    unfold upF
    rw [if_neg hy]
theorem putD_int {ks : List Int} {f : Int → D} {x : Int} {d : D} (hn : ks.Nodup) : putD (kI ks) (ks.map f) (Sum.inl x) d = dD (addK ks x) (upF f x d) := by
  unfold putD addK
  by_cases h : x ∈ ks
  · obtain ⟨j, e, e2⟩ := dix_in h
    rw [e, if_pos h]
    show D.node _ true ((ks.map f).set j d) = _
    rw [set_upF hn e2]
    rfl
  · rw [dix_out h, if_neg h]
    show D.node (.dK (kI ks ++ [Sum.inl x])) true (ks.map f ++ [d]) = .node (.dK (kI (ks ++ [x]))) true ((ks ++ [x]).map (upF f x d))
    have e1 : kI (ks ++ [x]) = kI ks ++ [Sum.inl x] := by unfold kI; rw [List.map_append]; rfl
    have e2 : (ks ++ [x]).map (upF f x d) = ks.map f ++ [d] := by
      rw [List.map_append, map_upF h]
      show _ ++ [upF f x d x] = _
      unfold upF
      rw [if_pos rfl]
    rw [e1, e2]
theorem addK_nodup {ks : List Int} {x : Int} (h : ks.Nodup) : (addK ks x).Nodup := by
  unfold addK
  split
  · exact h
  · rename_i hx
    rw [List.nodup_append]
    exact ⟨h, List.nodup_cons.mpr ⟨fun h => (List.not_mem_nil h), List.nodup_nil⟩, fun a ha b hb e => hx (by rw [List.mem_singleton.mp hb] at e; exact e ▸ ha)⟩
theorem addK_mem {ks : List Int} {x y : Int} : y ∈ addK ks x ↔ y ∈ ks ∨ y = x := by
  unfold addK
  split
  · rename_i h
    exact ⟨.inl, fun h' => h'.elim id fun e => e ▸ h⟩
  · rw [List.mem_append, List.mem_singleton]
theorem addK_len (ks : List Int) (x : Int) : (addK ks x).length ≤ ks.length + 1 := by
  unfold addK
  split
  · omega
  · simp
theorem isDk_dD {r : Rho} {i : Nat} {ks : List Int} {f : Int → D} (h : r[i]? = some (some (dD ks f))) : isDk r i = true := by
  unfold isDk
  rw [h]
  rfl
theorem dput_ok {fa fk : Ev} {r r1 r2 : Rho} {i : Nat} {ks : List Int} {f : Int → D} {x : Int} {d : D} (h1 : fa r = .ok (.val d) r1) (h2 : r1[i]? = some (some (dD ks f))) (h3 : ∃ y, fk r1 = .ok y r2 ∧ opd r2 y = some (.int x)) (h4 : r2[i]? = some (some (dD ks f))) (hn : ks.Nodup) (hl : ks.length < 16777216) :
    cDPut i fk fa r = .nx (r2.set i (some (dD (addK ks x) (upF f x d)))) := by
  obtain ⟨y, h3, h5⟩ := h3
  unfold cDPut
  rw [q_set, h1, bd_ok]
  show (if isDk r1 i = true then (fk r1).st (dputK i (.val d)) else .bad) = _
  rw [if_pos (isDk_dD h2), h3]
  show dputK i (.val d) y r2 = _
  unfold dputK
  rw [h5, h4]
  show (if okD (kI ks) then SO.nx (r2.set i (some (putD (kI ks) (ks.map f) (Sum.inl x) d))) else .bad) = _
  rw [if_pos (kI_ok hn hl), putD_int hn]
theorem dget2_ok {fk fz : Ev} {r r1 r2 : Rho} {i : Nat} {ks : List Int} {f : Int → D} {x : Int} {y : R} {d : D} {z : R} (h2 : r[i]? = some (some (dD ks f))) (h3 : fk r = .ok y r1) (h4 : fz r1 = .ok z r2) (h5 : opd r2 y = some (.int x)) (h6 : opd r2 z = some d) (h7 : r2[i]? = some (some (dD ks f))) (ha : atom d = true) (hf : ∀ x ∈ ks, atom (f x) = true) :
    cDGetZ i fk fz r = .ok (.val (if x ∈ ks then f x else d)) r2 := by
  unfold cDGetZ
  rw [if_pos (isDk_dD h2), h3, bd_ok, h4, bd_ok]
  unfold dgetZ
  rw [h5, h6, h7]
  show (match dix (kI ks) (Sum.inl x) with | some j => (match (ks.map f)[j]? with | some d => if atom d = true then EO.ok (.val d) r2 else .bad | none => .bad) | none => if atom d = true then .ok (.val d) r2 else .bad) = _
  by_cases h : x ∈ ks
  · obtain ⟨j, e, e2⟩ := dix_in h
    rw [e]
    simp only [List.getElem?_map, e2, Option.map_some]
    rw [if_pos (hf x h), if_pos h]
  · rw [dix_out h]
    show (if atom d = true then EO.ok (.val d) r2 else .bad) = _
    rw [if_pos ha, if_neg h]
theorem zip_mapS (f : Int → Int) : ∀ ks : List Int, ks.zip (ks.map f) = ks.map fun x => (x, f x)
  | [] => rfl
  | k :: ks => by
    show (k, f k) :: ks.zip (ks.map f) = (k, f k) :: _
    rw [zip_mapS f ks]
theorem sortItems_ok {r : Rho} {i : Nat} {ks : List Int} {f : Int → Int} (h : r[i]? = some (some (dD ks fun x => .int (f x)))) : cSortItems i r = .ok (.val (.node .lst true ((srtP (ks.map fun x => (x, f x))).map pairD))) r := by
  unfold cSortItems
  rw [h]
  show (match keysI (kI ks), intsOf (ks.map fun x => D.int (f x)) with | some a, some b => EO.ok (.val (.node .lst true ((srtP (a.zip b)).map pairD))) r | _, _ => .bad) = _
  have e : (ks.map fun x => D.int (f x)) = (ks.map f).map D.int := by rw [List.map_map]; rfl
  rw [keysI_map, e, intsOf_map]
  show EO.ok (.val (.node .lst true ((srtP (ks.zip (ks.map f))).map pairD))) r = _
  rw [zip_mapS]
theorem lcL_step {t : Tg} {fe : Ev} {vs : List Nat} {d e : D} {ds acc : List D} {r r1 r3 : Rho} (h1 : tgt t d r = some r1) (h3 : cSet fe r1 = .ok (.val e) r3) (h4 : acc.length < 16777216) :
    lcL t none fe vs (d :: ds) acc r = lcL t none fe vs ds (acc ++ [e]) (wipeR r3 vs) := by
  conv => lhs; unfold lcL
  rw [h1]
  show (match cSet fe r1 with
        | .ok (.val e) r3 => if acc.length < 16777216 then lcL t none fe vs ds (acc ++ [e]) (wipeR r3 vs) else .bad
        | _ => LO.bad) = _
  rw [h3]
  exact if_pos h4
theorem lcL_all {α : Type} {t : Tg} {fe : Ev} {vs : List Nat} (st : α → Rho) (P : α → List D → Prop) : ∀ (ds : List D) (a : α) (acc : List D), acc.length + ds.length < 16777216 → P a acc →
    (∀ a acc d, d ∈ ds → P a acc → ∃ r1 r3 e a', tgt t d (st a) = some r1 ∧ cSet fe r1 = .ok (.val e) r3 ∧ wipeR r3 vs = st a' ∧ P a' (acc ++ [e])) →
    ∃ a' acc', lcL t none fe vs ds acc (st a) = .ok acc' (st a') ∧ P a' acc' ∧ acc'.length = acc.length + ds.length
  | [], a, acc, _, p, _ => ⟨a, acc, rfl, p, rfl⟩
  | d :: ds, a, acc, hl, p, h => by
    obtain ⟨r1, r3, e, a1, h1, h3, h4, p1⟩ := h a acc d List.mem_cons_self p
    rw [List.length_cons] at hl
    obtain ⟨a2, acc2, e2, p2, l2⟩ := lcL_all st P ds a1 (acc ++ [e]) (by rw [List.length_append, List.length_singleton]; omega) p1 fun a acc d hd => h a acc d (List.mem_cons_of_mem _ hd)
    refine ⟨a2, acc2, ?_, p2, by rw [l2, List.length_append, List.length_singleton, List.length_cons]; omega⟩
    rw [lcL_step h1 h3 (by omega), h4, e2]
end VL

namespace VL
open PySem PySem.Spec PyProof.Rows L2
section
variable {X : Cx} {G : GX} {C : Fc} {W : WX} {ow ow' : Ow} {r : Rho} {T T1 T2 : List (D × V)} {s : L2.St} {H H' : Hp} {fa fb fc fk : Ev} {fs : Av}
end
end VL

namespace VL
open PySem PySem.Spec PyProof.Rows L2
theorem first_lex : ∀ (ns ms : List Int) (i : Nat) (e r : Nat → Bool), (∀ j, e (i + j) = decide (ns.getD j 0 = ms.getD j 0) ∧ r (i + j) = decide (ns.getD j 0 < ms.getD j 0)) → PySem.SeqAt.firstLt e r (decide (ns.length < ms.length)) (List.range' i (min ns.length ms.length)) = HT.lexLt ns ms
  | [], [], i, e, r, _ => rfl
  | [], m :: ms, i, e, r, _ => by
    rw [HT.lexLt_nil_cons, show min ([] : List Int).length (m :: ms).length = 0 by simp]
    show decide (([] : List Int).length < (m :: ms).length) = true
    simp
  | n :: ns, [], i, e, r, _ => by
    rw [HT.lexLt_cons_nil, show min (n :: ns).length ([] : List Int).length = 0 by simp]
    show decide ((n :: ns).length < ([] : List Int).length) = false
    simp
  | n :: ns, m :: ms, i, e, r, h => by
    have e0 := h 0
    rw [Nat.add_zero] at e0
    have e1 : e i = decide (n = m) := e0.1
    have r1 : r i = decide (n < m) := e0.2
    have ih := first_lex ns ms (i + 1) e r fun j => by
      have := h (j + 1)
      rw [show i + 1 + j = i + (j + 1) by omega]
      exact this
    rw [show min (n :: ns).length (m :: ms).length = min ns.length ms.length + 1 by simp [Nat.succ_min_succ], List.range'_succ, HT.lexLt_cons]
    rw [show decide ((n :: ns).length < (m :: ms).length) = decide (ns.length < ms.length) from decide_eq_decide.mpr (by simp)]
    by_cases hm : n = m
    · rw [if_pos hm, PySem.SeqAt.firstLt_yes (by rw [e1, decide_eq_true hm])]
      exact ih
    · rw [if_neg hm, PySem.SeqAt.firstLt_no (by rw [e1, decide_eq_false hm]), r1]
theorem ints_get : ∀ {vs : List Value} {ns : List Int}, IntsAre vs ns → ∀ {j : Nat} {v : Value}, vs[j]? = some v → ∃ t, v = .int (ns.getD j 0) t
  | _, _, .nil, j, v, h => by simp at h
  | _, _, .cons n t r, 0, v, h => by
    simp at h
    exact ⟨t, h.symm⟩
  | _, _, .cons n t r, j + 1, v, h => by
    obtain ⟨u, e⟩ := ints_get r (j := j) (v := v) (by simpa using h)
    exact ⟨u, e⟩
def IsIl (h : Heap) (v : Value) (ns : List Int) : Prop := ∃ (a : Addr) (items : List Value) (n : Nat), v = .ref a ∧ h.get? a = some (seqObj "list" items.toArray n) ∧ IntsAre items ns
theorem IsIl.keeps {h h' : Heap} {v : Value} {ns : List Int} (x : IsIl h v ns) (k : ∀ b o, v = .ref b → h.get? b = some o → h'.get? b = some o) : IsIl h' v ns := by
  obtain ⟨a, items, n, e, g, i⟩ := x
  exact ⟨a, items, n, e, k _ _ e g, i⟩
theorem IsIl.type {M : Model} {h : Heap} {v : Value} {ns : List Int} (x : IsIl h v ns) : PySem.W.Looks M h (typeOf v) (.type "list") := by
  obtain ⟨a, items, n, rfl, g, i⟩ := x
  exact (PySem.W.Looks.ld g).andThen .now
section
variable {prog : Program} {w : World} {A : Around} {E : Value → Shared → Prop} {s : Shared}
theorem lt_il {v u : Value} {ns ms : List Int} {Q : Bool → Shared → Prop} (hu : A.units < cLine) (hv : IsIl s.heap v ns) (hw : IsIl s.heap u ms) (h : Q (HT.lexLt ns ms) s) : wpAny (model prog w) A (keyLt' oneType' v u) Q E s := by
  have tv : PySem.W.Looks (model prog w) s.heap (typeOf v) (.type "list") := hv.type
  have sp : PySem.W.Looks (model prog w) s.heap (specialOf v "__lt__") (some (.builtin "list.__lt__")) := tv.andThen (by
    have e : typeLookup (.type "list") "__lt__" = pure (some (.builtin "list.__lt__")) := PySem.F.slot_list_lt.lookup
    rw [e]
    exact .now)
  obtain ⟨a, items, n, rfl, ga, ia⟩ := hv
  obtain ⟨b, items2, n2, rfl, gb, ib⟩ := hw
  rw [keyLt'_oneType, oneLt'_eq]
  simp only [if_true]
  refine wpAny_bind (wpAny_cRoomFor hu ?_)
  have la : s.heap.IsList a items.toArray := ⟨_, ga, rfl, n, rfl⟩
  have lb : s.heap.IsList b items2.toArray := ⟨_, gb, rfl, n2, rfl⟩
  refine wpAny_bind (NtL.csib (E := E) sp (PySem.F.slot_list_lt.bind _) ?_)
  refine PySem.SeqAt.call_list_lt (e := fun j => decide (ns.getD j 0 = ms.getD j 0)) (r := fun j => decide (ns.getD j 0 < ms.getD j 0)) la lb (fun j h1 h2 => ?_) (fun j h1 h2 _ => ?_) ?_
  · obtain ⟨t, e1⟩ := ints_get ia (j := j) (v := items.toArray[j]) (by rw [List.getElem_toArray]; exact List.getElem?_eq_getElem _)
    obtain ⟨t2, e2⟩ := ints_get ib (j := j) (v := items2.toArray[j]) (by rw [List.getElem_toArray]; exact List.getElem?_eq_getElem _)
    rw [e1, e2]
    exact PySem.SeqAt.EqAt.int_int _ t _ t2
  · obtain ⟨t, e1⟩ := ints_get ia (j := j) (v := items.toArray[j]) (by rw [List.getElem_toArray]; exact List.getElem?_eq_getElem _)
    obtain ⟨t2, e2⟩ := ints_get ib (j := j) (v := items2.toArray[j]) (by rw [List.getElem_toArray]; exact List.getElem?_eq_getElem _)
    rw [e1, e2]
    exact fun prog w E Q h => HT.rcLt_int _ _ _ t _ t2 prog w E Q h
  · have el := first_lex ns ms 0 (fun j => decide (ns.getD j 0 = ms.getD j 0)) (fun j => decide (ns.getD j 0 < ms.getD j 0)) (fun j => by rw [Nat.zero_add]; exact ⟨rfl, rfl⟩)
    have l1 := ia.length
    have l2 := ib.length
    rw [List.size_toArray, List.size_toArray, l1, l2, List.range_eq_range', el]
    exact wpAny_truthy_bool h
end
section
variable {prog : Program} {w : World} {A : Around} {s : Shared}
theorem il_cmp {vs : List Value} {k : Value → List Int} (hu : A.units < cLine) (hv : ∀ v ∈ vs, IsIl s.heap v (k v)) : SrtO.Cmp prog w A s oneType' (fun p => p.1 ∈ vs) (SrtO.lt2 fun v u => HT.lexLt (k v) (k u)) := by
  intro p q hp hq
  exact lt_il (Q := fun r s' => s' = s ∧ r = HT.lexLt (k p.1) (k q.1)) (E := fun _ _ => False) hu (hv p.1 hp) (hv q.1 hq) ⟨rfl, rfl⟩
theorem il_sortable {a : Addr} {vs : List Value} {k : Value → List Int} (h2 : 2 ≤ vs.length) (hu : A.units < cLine) (hv : ∀ v ∈ vs, IsIl s.heap v (k v)) (ha : ∀ v ∈ vs, v ≠ .ref a) :
    SrtO.SortableO prog w A s a vs fun v u => HT.lexLt (k v) (k u) := by
  intro h' keep
  have hv' : ∀ v ∈ vs, IsIl h' v (k v) := fun v hm => (hv v hm).keeps fun b o e g => keep b o (fun z => ha v hm (by rw [e, z])) g
  refine ⟨oneType', fun Q E hq => ?_, il_cmp (s := { s with heap := h' }) hu hv'⟩
  exact PySem.W.kas_kind (s := { s with heap := h' }) (T := .type "list") h2 (fun v hm => (hv' v hm).type) (by first | rfl | decide +kernel) (by simp) hq
end
def rSortedLL (K : PySem.W.Frag) : List V → Hp → VK → Prop := fun vs H Q => ∃ (a : Addr) (ts : List Addr) (k : Addr → List Int), vs = [.ref a] ∧ SqL K H a (ts.map V.ref) ∧ (∀ t ∈ ts, H t = some (.lst ((k t).map V.int))) ∧
  ∀ (ts' : List Addr) (p : Addr), ts'.Perm ts → ts'.Pairwise (fun p q => HT.lexLt (k q) (k p) = false) → H p = none → Q (.ref p) (upd H p (.lst (ts'.map V.ref)))
theorem cr_sortedLL {X : Cx} (hu : X.A.units + 64 < cLine) : CallR X (.builtin "sorted") (rSortedLL X.K) := by
  intro pins s σ H vs us Q I r h
  obtain ⟨a, ts, k, rfl, hs, hN, q⟩ := h
  obtain ⟨its, rv, hl, hz⟩ := I.list hs
  rw [Vals.ref1 r]
  have ei := nts_of rv
  have hv : ∀ u ∈ its, IsIl s.heap u (k (adO u)) := fun u hm => by
    rw [ei] at hm
    obtain ⟨t, ht, rfl⟩ := List.mem_map.mp hm
    obtain ⟨_, its2, n2, rv2, hob2⟩ := I.hok t _ (hN t ht)
    exact ⟨t, its2, n2, rfl, hob2, rv2.ints⟩
  have hlt : ∀ u ∈ its, ∃ t o, u = .ref t ∧ s.heap.get? t = some o := fun u hm => by
    obtain ⟨t, i2, n2, e, g, _⟩ := hv u hm
    exact ⟨t, _, e, g⟩
  refine SrtO.sorted_ord (NtL.swo_lexL fun u => k (adO u)) hl.isList (by rw [← rv.length]; exact hz) (fun h2 h₁ a' ha' kk => ?_) fun out h1 h2 => ?_
  · refine il_sortable (s := { s with heap := h₁ }) h2 (by simp only [Around.in1_units]; omega) (fun u hm => (hv u hm).keeps fun b o e g => (kk b o g).2) fun u hm z => ?_
    obtain ⟨t, o, e, g⟩ := hlt u hm
    rw [e] at z
    exact (kk t o g).1 (Value.ref.inj z)
  · obtain ⟨ep, he'⟩ := sortedAll_at s.heap its out.toArray
    have eo : out = (out.map adO).map Value.ref := ref_map fun u hm => by
      have hm' : u ∈ its := h2.perm.mem_iff.mp hm
      rw [ei] at hm'
      obtain ⟨t, _, e⟩ := List.mem_map.mp hm'
      exact ⟨t, e.symm⟩
    have hp : (out.map adO).Perm ts := by
      have p1 := h2.perm.map adO
      rw [ei, ad_map] at p1
      exact p1
    have hs' : (out.map adO).Pairwise (fun p q => HT.lexLt (k q) (k p) = false) := List.pairwise_map.mpr (h1.imp fun {x y} z => z)
    have hlen : ((out.map adO).map V.ref).length ≤ sizeLine := by
      rw [List.length_map, hp.length_eq]
      rw [List.length_map] at hz
      exact hz
    have rvo : Vals ((out.map adO).map V.ref) out := by
      have z := of_nts (out.map adO)
      rw [← eo] at z
      exact z
    refine ⟨.ref _, _, I.laid (o := .lst ((out.map adO).map V.ref)) (t' := s.toks) (fun b u e => sortedAll_old e) (Nat.le_succ _) ⟨hlen, out, ep, rvo, he'⟩, rfl, q _ _ hp hs' (I.hok.fresh (Nat.le_succ _))⟩
def insL (x : List Int) : List (List Int) → List (List Int)
  | [] => [x]
  | y :: ys => if HT.lexLt y x = false then x :: y :: ys else y :: insL x ys
def srtL : List (List Int) → List (List Int)
  | [] => []
  | x :: xs => insL x (srtL xs)
abbrev UpL (xs : List (List Int)) : Prop := xs.Pairwise fun p q => HT.lexLt q p = false
theorem insL_perm (x : List Int) : ∀ ys : List (List Int), (insL x ys).Perm (x :: ys)
  | [] => List.Perm.refl _
  | y :: ys => by
    unfold insL
    split
    · exact List.Perm.refl _
    · exact ((insL_perm x ys).cons y).trans (List.Perm.swap x y ys)
theorem srtL_perm : ∀ xs : List (List Int), (srtL xs).Perm xs
  | [] => List.Perm.refl _
  | x :: xs => (insL_perm x (srtL xs)).trans ((srtL_perm xs).cons x)
theorem insL_up (x : List Int) : ∀ ys : List (List Int), UpL ys → UpL (insL x ys)
  | [], _ => by simp [insL, UpL]
  | y :: ys, h => by
    unfold insL
    have h1 := List.pairwise_cons.mp h
    split
    · rename_i hx
      refine List.pairwise_cons.mpr ⟨fun z hz => ?_, h⟩
      rcases List.mem_cons.mp hz with e | e
      · rw [e]; exact hx
      · exact NtL.lex_tr _ _ _ hx (h1.1 z e)
    · rename_i hx
      rw [Bool.not_eq_false] at hx
      refine List.pairwise_cons.mpr ⟨fun z hz => ?_, insL_up x ys h1.2⟩
      rcases List.mem_cons.mp ((insL_perm x ys).mem_iff.mp hz) with e | e
      · rw [e]; exact NtL.lex_asym _ _ hx
      · exact h1.1 z e
theorem srtL_up : ∀ xs : List (List Int), UpL (srtL xs)
  | [] => List.Pairwise.nil
  | x :: xs => insL_up x _ (srtL_up xs)
theorem lex_eq : ∀ {xs ys : List Int}, HT.lexLt xs ys = false → HT.lexLt ys xs = false → xs = ys
  | [], [], _, _ => rfl
  | [], y :: ys, h, _ => by rw [HT.lexLt_nil_cons] at h; cases h
  | x :: xs, [], _, h => by rw [HT.lexLt_nil_cons] at h; cases h
  | x :: xs, y :: ys, h1, h2 => by
    rw [HT.lexLt_cons] at h1 h2
    by_cases e : x = y
    · rw [if_pos e] at h1
      rw [if_pos e.symm] at h2
      rw [e, lex_eq h1 h2]
    · rw [if_neg e] at h1
      rw [if_neg (Ne.symm e)] at h2
      have a := of_decide_eq_false h1
      have b := of_decide_eq_false h2
      omega
theorem upL_unique : ∀ {xs ys : List (List Int)}, xs.Perm ys → UpL xs → UpL ys → xs = ys
  | [], ys, p, _, _ => by rw [List.nil_perm.mp p]
  | x :: xs, [], p, _, _ => by have := p.length_eq; simp at this
  | x :: xs, y :: ys, p, h1, h2 => by
    have h1' := List.pairwise_cons.mp h1
    have h2' := List.pairwise_cons.mp h2
    have e1 : x = y ∨ HT.lexLt y x = false := by
      rcases List.mem_cons.mp (p.mem_iff.mpr (List.mem_cons_self : y ∈ y :: ys)) with e | e
      · exact .inl e.symm
      · exact .inr (h1'.1 y e)
    have e2 : x = y ∨ HT.lexLt x y = false := by
      rcases List.mem_cons.mp (p.mem_iff.mp (List.mem_cons_self : x ∈ x :: xs)) with e | e
      · exact .inl e
      · exact .inr (h2'.1 x e)
    have e : x = y := by
      rcases e1 with e | e1
      · exact e
      · rcases e2 with e | e2
        · exact e
        · exact lex_eq e2 e1
    subst e
    rw [upL_unique ((List.perm_cons x).mp p) h1'.2 h2'.2]
abbrev il (o : Bool) (ns : List Int) : D := .node .lst o (ns.map .int)
def intssOf : List D → Option (List (List Int))
  | [] => some []
  | .node .lst _ xs :: ds => (match intsOf xs, intssOf ds with
    | some ns, some nss => some (ns :: nss)
    | _, _ => none)
  | _ => none
theorem intssOf_map (o : Bool) : ∀ nss : List (List Int), intssOf (nss.map (il o)) = some nss
  | [] => rfl
  | ns :: nss => by
    show (match intsOf (ns.map .int), intssOf (nss.map (il o)) with | some ns, some nss => some (ns :: nss) | _, _ => none) = _
    rw [intsOf_map, intssOf_map o nss]
def gSortedL : List R → Rho → EO := fun xs r => match xs with
  | [x] => (match opd r x with
    | some (.node .lst _ ds) => (match intssOf ds with
      | some nss => .ok (.val (.node .lst true ((srtL nss).map (il false)))) (touch r x)
      | none => .bad)
    | _ => .bad)
  | _ => .bad
def vI : V → Int
  | .int i => i
  | _ => 0
def kAt (H : Hp) (t : Addr) : List Int := match H t with
  | some (.lst vs) => vs.map vI
  | _ => []
theorem kAt_of {H : Hp} {t : Addr} {ns : List Int} (h : H t = some (.lst (ns.map V.int))) : kAt H t = ns := by
  unfold kAt
  rw [h]
  show (ns.map V.int).map vI = ns
  rw [List.map_map]
  exact (List.map_congr_left fun _ _ => rfl).trans (List.map_id ns)
theorem frzs_il (nss : List (List Int)) : frzs (nss.map (il false)) = nss.map (il false) := by
  rw [frzs_map, List.map_map]
  refine List.map_congr_left fun ns _ => ?_
  show D.node .lst false (frzs (ns.map D.int)) = _
  rw [frzs_ints]
theorem intsOf_frzs : ∀ {ds : List D} {ns : List Int}, intsOf ds = some ns → frzs ds = ns.map D.int
  | [], ns, e => by cases e; rfl
  | d :: ds, ns, e => by
    cases d with
    | int i =>
      unfold intsOf at e
      split at e
      · rename_i ms e2
        cases e
        show D.int i :: frzs ds = _
        rw [intsOf_frzs e2]; rfl
      · cases e
    | _ => cases e
section
variable {X : Cx} {G : GX} {C : Fc} {W : WX} {ow ow' : Ow} {r : Rho} {T T1 T2 : List (D × V)} {s : L2.St} {H H' : Hp}
theorem lists_rep : ∀ {ds : List D} {nss : List (List Int)} {l : VL.Loc} {i : Nat} {ws : List V}, intssOf ds = some nss → Reps G ow H (frzs ds) l i ws → ∃ zs : List (Addr × List Int), zs.map (·.2) = nss ∧ ws = zs.map (fun z => V.ref z.1) ∧ ∀ z ∈ zs, H z.1 = some (.lst (z.2.map V.int)) ∧ ow z.1 = none
  | [], nss, l, i, ws, e, h => by
    cases e
    exact ⟨[], rfl, h, fun z hz => by cases hz⟩
  | d :: ds, nss, l, i, ws, e, h => by
    cases d with
    | node k o xs =>
      cases k with
      | lst =>
        unfold intssOf at e
        split at e
        · rename_i ns nss' e1 e2
          cases e
          obtain ⟨v, ws', ev, h1, h2⟩ := h
          obtain ⟨zs, z1, z2, z3⟩ := lists_rep e2 h2
          obtain ⟨a, us, ea, hA, oA, rA⟩ := h1
          rw [intsOf_frzs e1] at rA
          have eu := ints_rep (intsOf_map ns) rA
          subst eu
          have oA : ow a = none := oA
          refine ⟨(a, ns) :: zs, by rw [List.map_cons, z1], by rw [ev, ea, z2]; rfl, fun z hz => ?_⟩
          rcases List.mem_cons.mp hz with e | e
          · rw [e]; exact ⟨hA, oA⟩
          · exact z3 z e
        · cases e
      | _ => cases e
    | _ => cases e
theorem reps_il : ∀ (ts : List Addr) (l : VL.Loc) (i : Nat), (∀ t ∈ ts, H t = some (.lst ((kAt H t).map V.int)) ∧ ow t = none) → Reps G ow H ((ts.map (kAt H)).map (il false)) l i (ts.map V.ref)
  | [], _, _, _ => rfl
  | t :: ts, l, i, h => ⟨_, _, rfl, ⟨t, _, rfl, (h t List.mem_cons_self).1, (h t List.mem_cons_self).2, reps_ints _ _ _⟩, reps_il ts l (i + 1) fun u hu => h u (List.mem_cons_of_mem _ hu)⟩
theorem cs_sortedL (hu : X.A.units + 65 < cLine) : CallS X (.builtin "sorted") gSortedL := by
  refine ⟨_, cr_sortedLL (by omega), fun G hG C W r T s H xs vs Q S l q => ?_⟩
  unfold gSortedL at q
  split at q
  · rename_i x
    obtain ⟨v, ev, lx, ep⟩ := one_arg l
    rw [ep] at S
    subst ev
    obtain ⟨ow, S⟩ := S
    split at q
    · rename_i o ds e1
      split at q
      · rename_i nss e2
        obtain ⟨ow', a, ws, S', ea, h1, rx, _⟩ := StW.parts S lx e1
        subst ea
        obtain ⟨zs, z1, z2, z3⟩ := lists_rep e2 (rx ⟨.fo, []⟩)
        have ek : ∀ z ∈ zs, kAt H z.1 = z.2 := fun z hz => kAt_of (z3 z hz).1
        have hN : ∀ t ∈ zs.map (·.1), H t = some (.lst ((kAt H t).map V.int)) ∧ ow' t = none := fun t ht => by
          obtain ⟨z, hz, rfl⟩ := List.mem_map.mp ht
          rw [ek z hz]
          exact z3 z hz
        have ew : ws = (zs.map (·.1)).map V.ref := by rw [z2, List.map_map]; rfl
        refine ⟨a, zs.map (·.1), kAt H, rfl, by rw [← ew]; exact SqL.of h1, fun t ht => (hN t ht).1, fun ts' p hp hs hn => ?_⟩
        have es : ts'.map (kAt H) = srtL nss := by
          refine upL_unique ((hp.map (kAt H)).trans ?_) (List.pairwise_map.mpr hs) (srtL_up nss)
          have e3 : (zs.map (·.1)).map (kAt H) = nss := by
            rw [List.map_map, ← z1]
            exact List.map_congr_left fun z hz => ek z hz
          rw [e3]
          exact (srtL_perm nss).symm
        rw [← es] at q
        exact S'.made (l := ⟨.fo, []⟩) (i := 0) (frzs_il _) (reps_il ts' _ _ fun t ht => hN t (hp.mem_iff.mp ht)) q p hn
      · exact q.elim
    · exact q.elim
  · exact q.elim
end
theorem sortedL_ok {fa : Ev} {r r1 : Rho} {o : Bool} {b : Bool} {nss : List (List Int)} (h : fa r = .ok (.val (.node .lst o (nss.map (il b)))) r1) : cB gSortedL (cCons fa cNil) r = .ok (.val (.node .lst true ((srtL nss).map (il false)))) r1 := by
  rw [q_B, q_cons, h]
  show (match intssOf (nss.map (il b)) with | some nss => EO.ok (.val (.node .lst true ((srtL nss).map (il false)))) r1 | none => .bad) = _
  rw [intssOf_map]
section
variable {X : Cx} {G : GX} {C : Fc} {W : WX} {ow ow' : Ow} {r : Rho} {T T1 T2 : List (D × V)} {s : L2.St} {H H' : Hp} {fa fb fc : Ev}
end
end VL

namespace RT
open PySem PySem.Spec PyProof.Rows L2
section
variable {prog : Program} {w : World} {A : Around} {E : Value → Shared → Prop} {s : Shared}
end
end RT
namespace RT
open PySem PySem.Spec PyProof.Rows L2
section
variable {prog : Program} {w : World} {A : Around} {E : Value → Shared → Prop} {s : Shared}
end
end RT

namespace L2
open PySem PySem.Spec PyProof.Rows RT
section
variable {X : Cx}
end
end L2
namespace VL
open PySem PySem.Spec PyProof.Rows L2
def gLRev (x : R) (r : Rho) : EO := match opd r x with
  | some (.node .lst _ xs) => .ok (.val (.node .lst true (frzs xs).reverse)) (touch r x)
  | some (.node .rd _ xs) => .ok (.val (.node .lst true (frzs xs).reverse)) (touch r x)
  | some (.node .tup _ xs) => if xs.isEmpty = true then .bad else .ok (.val (.node .lst true (frzs xs).reverse)) (touch r x)
  | _ => .bad
def cLRev (fa : Ev) : Ev := fun r => (fa r).bd gLRev
section
variable {X : Cx} {G : GX} {C : Fc} {W : WX} {ow ow' : Ow} {r : Rho} {T T1 T2 : List (D × V)} {s : L2.St} {H H' : Hp} {fa fb fc : Ev}
end
theorem lrev_ok {fa : Ev} {r r1 : Rho} {x : R} {k : Kd} {o : Bool} {xs : List D} (h : fa r = .ok x r1) (ho : opd r1 x = some (.node k o xs)) (hk : k = .lst ∨ k = .rd ∨ (k = .tup ∧ xs ≠ [])) (f : frzs xs = xs) (t : touch r1 x = r1) : cLRev fa r = .ok (.val (.node .lst true xs.reverse)) r1 := by
  unfold cLRev
  rw [h, bd_ok]
  unfold gLRev
  rw [ho]
  rcases hk with z | z | ⟨z, hne⟩ <;> subst z
  · show EO.ok (.val (.node .lst true (frzs xs).reverse)) (touch r1 x) = _
    rw [f, t]
  · show EO.ok (.val (.node .lst true (frzs xs).reverse)) (touch r1 x) = _
    rw [f, t]
  · show (if xs.isEmpty = true then EO.bad else .ok (.val (.node .lst true (frzs xs).reverse)) (touch r1 x)) = _
    rw [if_neg (by cases xs with | nil => exact absurd rfl hne | cons _ _ => exact Bool.false_ne_true), f, t]
end VL

namespace VL
open PySem PySem.Spec PyProof.Rows L2
section
variable {X : Cx} {G : GX} {C : Fc} {W : WX} {ow ow' : Ow} {r : Rho} {T T1 T2 : List (D × V)} {s : L2.St} {H H' : Hp} {fa fb fc : Ev}
end
end VL

namespace VH
abbrev nt (k : Nat) : D := .int (k : Nat)
abbrev I (o : Bool) (xs : List Int) : D := .node .lst o (xs.map .int)
abbrev L (o : Bool) (ks : List Nat) : D := .node .lst o (ks.map nt)
class Fz (d : D) (d' : outParam D) : Prop where
  e : frz d = d'
class Fzs (ds : List D) (ds' : outParam (List D)) : Prop where
  e : frzs ds = ds'
instance : Fz (.int i) (.int i) := ⟨rfl⟩
instance : Fz (.bl i) (.bl i) := ⟨rfl⟩
instance : Fz .non .non := ⟨rfl⟩
instance : Fz (.str i) (.str i) := ⟨rfl⟩
instance : Fz (.exc i) (.exc i) := ⟨rfl⟩
instance : Fz (.cls i) (.cls i) := ⟨rfl⟩
instance : Fz (.ty i) (.ty i) := ⟨rfl⟩
instance [h : Fzs xs ys] : Fz (.node k o xs) (.node k false ys) := ⟨by show D.node k false (frzs xs) = _; rw [h.e]⟩
instance : Fz (script ns) (script ns) := ⟨by
  show D.node .rd false (frzs (ns.map D.int)) = _
  rw [frzs_ints]; rfl⟩
instance : Fzs [] [] := ⟨rfl⟩
instance [h : Fz x y] [h2 : Fzs xs ys] : Fzs (x :: xs) (y :: ys) := ⟨by show frz x :: frzs xs = _; rw [h.e, h2.e]⟩
instance [h : Fzs xs xs'] [h2 : Fzs ys ys'] : Fzs (xs ++ ys) (xs' ++ ys') := ⟨by rw [frzs_append, h.e, h2.e]⟩
theorem frzs_nt (ks : List Nat) : frzs (ks.map nt) = ks.map nt := by
  rw [frzs_map, List.map_map]
  exact List.map_congr_left fun _ _ => rfl
instance : Fzs (List.map nt ks) (List.map nt ks) := ⟨frzs_nt ks⟩
instance : Fzs (List.map D.int ks) (List.map D.int ks) := ⟨frzs_ints ks⟩
instance : Fzs (List.map pr ks) (List.map pr ks) := ⟨frzs_pr ks⟩
theorem frzs_take (n : Nat) (xs : List D) : frzs (xs.take n) = (frzs xs).take n := by rw [frzs_map, frzs_map, List.map_take]
theorem frzs_drop (n : Nat) (xs : List D) : frzs (xs.drop n) = (frzs xs).drop n := by rw [frzs_map, frzs_map, List.map_drop]
theorem frzs_set (xs : List D) (n : Nat) (d : D) : frzs (xs.set n d) = (frzs xs).set n (frz d) := by rw [frzs_map, frzs_map, List.map_set]
theorem frzs_replicate (n : Nat) (d : D) : frzs (List.replicate n d) = List.replicate n (frz d) := by rw [frzs_map, List.map_replicate]
instance [h : Fzs xs ys] : Fzs (xs.take n) (ys.take n) := ⟨by rw [frzs_take, h.e]⟩
instance [h : Fzs xs ys] : Fzs (xs.drop n) (ys.drop n) := ⟨by rw [frzs_drop, h.e]⟩
instance [h : Fzs xs ys] [h2 : Fz d e] : Fzs (xs.set n d) (ys.set n e) := ⟨by rw [frzs_set, h.e, h2.e]⟩
instance [h2 : Fz d e] : Fzs (List.replicate n d) (List.replicate n e) := ⟨by rw [frzs_replicate, h2.e]⟩
theorem fz {d d' : D} [h : Fz d d'] : frz d = d' := h.e
class Nl (d : D) : Prop where
  e : noL d = true
class Nls (ds : List D) : Prop where
  e : noLs ds = true
instance : Nl (.int i) := ⟨rfl⟩
instance : Nl (.bl i) := ⟨rfl⟩
instance : Nl .non := ⟨rfl⟩
instance : Nl (.str i) := ⟨rfl⟩
instance : Nl (.exc i) := ⟨rfl⟩
instance : Nl (.cls i) := ⟨rfl⟩
instance : Nl (.ty i) := ⟨rfl⟩
instance [h : Nls xs] : Nl (.node k true xs) := ⟨by show ((true || isTup k) && noLs xs) = true; rw [h.e]; rfl⟩
instance (priority := low) [h : Nls xs] : Nl (.node .tup o xs) := ⟨by show ((o || true) && noLs xs) = true; rw [h.e]; cases o <;> rfl⟩
instance : Nls [] := ⟨rfl⟩
instance [h : Nl x] [h2 : Nls xs] : Nls (x :: xs) := ⟨by show (noL x && noLs xs) = true; rw [h.e, h2.e]; rfl⟩
theorem noLs_of {xs : List D} (h : ∀ x ∈ xs, noL x = true) : noLs xs = true := by
  induction xs with
  | nil => rfl
  | cons x xs ih =>
    show (noL x && noLs xs) = true
    rw [h x List.mem_cons_self, ih fun y hy => h y (List.mem_cons_of_mem _ hy)]; rfl
theorem noLs_app {xs ys : List D} (h : noLs xs = true) (h2 : noLs ys = true) : noLs (xs ++ ys) = true := by
  induction xs with
  | nil => exact h2
  | cons x xs ih =>
    have h : (noL x && noLs xs) = true := h
    rw [Bool.and_eq_true] at h
    show (noL x && noLs (xs ++ ys)) = true
    rw [h.1, ih h.2]; rfl
instance [h : Nls xs] [h2 : Nls ys] : Nls (xs ++ ys) := ⟨noLs_app h.e h2.e⟩
theorem noLs_enc {α : Type} {f : α → D} (h : ∀ a, noL (f a) = true) (xs : List α) : noLs (xs.map f) = true := noLs_of fun x hx => by
  obtain ⟨a, _, rfl⟩ := List.mem_map.mp hx
  exact h a
instance : Nls (List.map nt ks) := ⟨noLs_enc (fun _ => rfl) _⟩
instance : Nls (List.map D.int ks) := ⟨noLs_enc (fun _ => rfl) _⟩
instance : Nls (List.map pr ks) := ⟨noLs_prs _⟩
instance [h : Nl d] : Nls (List.replicate n d) := ⟨noLs_of fun x hx => by rw [List.eq_of_mem_replicate hx]; exact h.e⟩
class Fq (k : outParam Nat) (d : D) : Prop where
  e : FP k d
class Fqs (k : outParam Nat) (ds : List D) : Prop where
  e : ∀ x ∈ ds, FP k x
instance : Fq 0 (.int i) := ⟨fp_int i 0⟩
instance : Fq 0 (.bl i) := ⟨fp_bl i 0⟩
instance : Fq 0 .non := ⟨fp_non 0⟩
instance [h : Fqs k xs] : Fq (k + 1) (.node .lst o xs) := ⟨fp_lst h.e⟩
instance [h : Fqs k xs] : Fq (k + 1) (.node .tup o xs) := ⟨fp_tup h.e⟩
instance : Fqs 0 [] := ⟨fun x hx => by cases hx⟩
instance [h : Fq k x] [h2 : Fqs m xs] : Fqs (max k m) (x :: xs) := ⟨fun y hy => by
  rcases List.mem_cons.mp hy with e | hy
  · rw [e]; exact h.e.mono (Nat.le_max_left _ _)
  · exact (h2.e y hy).mono (Nat.le_max_right _ _)⟩
instance [h : Fqs k xs] [h2 : Fqs m ys] : Fqs (max k m) (xs ++ ys) := ⟨fun y hy => by
  rcases List.mem_append.mp hy with hy | hy
  · exact (h.e y hy).mono (Nat.le_max_left _ _)
  · exact (h2.e y hy).mono (Nat.le_max_right _ _)⟩
theorem fqs_enc {α : Type} {f : α → D} {k : Nat} (h : ∀ a, FP k (f a)) (xs : List α) : ∀ x ∈ xs.map f, FP k x := fun x hx => by
  obtain ⟨a, _, rfl⟩ := List.mem_map.mp hx
  exact h a
instance : Fqs 0 (List.map nt ks) := ⟨fqs_enc (fun _ => fp_int _ 0) _⟩
instance : Fqs 0 (List.map D.int ks) := ⟨fqs_enc (fun _ => fp_int _ 0) _⟩
instance : Fqs 1 (List.map pr ks) := ⟨fp_prs ks⟩
def sq3 : Kd → Bool
  | .lst => true
  | .rd => true
  | .tup => true
  | _ => false
def sq2 : Kd → Bool
  | .lst => true
  | .rd => true
  | _ => false
section
variable {fa fb fc : Ev} {fs : Av} {r r1 r2 r3 : Rho} {x y : R} {d e z : D} {b c : Bool} {i j : Int}
theorem cc_d (d : D) (r : Rho) : cC d r = .ok (.val d) r := rfl
theorem set_val (h : fa r = .ok (.val d) r1) : cSet fa r = .ok (.val d) r1 := by
  rw [q_set, h, bd_ok]
theorem set_loc {i : Nat} {d d' : D} (h : r[i]? = some (some d)) (a : atom d = false) (f : Fz d d') (h2 : r.set i (some d') = r1) : cSet (cVar i) r = .ok (.val d') r1 := by
  rw [q_set, cvar_loc h a, bd_ok]
  show (match opd r (.loc i) with | some d => EO.ok (.val (frz d)) (settle r (.loc i)) | none => .bad) = _
  rw [opd_loc' h, q_settle2, h]
  show EO.ok (R.val (frz d)) (r.set i (some (frz d))) = _
  rw [f.e, h2]
theorem cons_ok {xs : List R} (h : fa r = .ok x r1) (h2 : fs r1 = .ok xs r2) : cCons fa fs r = .ok (x :: xs) r2 := by
  rw [q_cons, h]
  show (match fs r1 with | .ok xs r2 => AO.ok (x :: xs) r2 | .exc c r2 => .exc c r2 | .bad => .bad) = _
  rw [h2]
theorem nil_ok (r : Rho) : cNil r = .ok [] r := rfl
theorem lst_ok {xs : List R} {ds : List D} (h : fs r = .ok xs r1) (h2 : valsR xs = some ds) (hl : ds.length ≤ 16777216) : cLst fs r = .ok (.val (.node .lst true ds)) r1 := by
  rw [q_lst, h]
  show (match valsR xs with | some ds => if ds.length ≤ 16777216 then EO.ok (.val (.node .lst true ds)) r1 else .bad | none => .bad) = _
  rw [h2]
  show (if ds.length ≤ 16777216 then EO.ok (.val (.node .lst true ds)) r1 else .bad) = _
  rw [if_pos hl]
theorem tup_ok {xs : List R} {ds : List D} (h : fs r = .ok xs r1) (h2 : valsR xs = some ds) (hl : ds.length ≤ 16777216) : cTup fs r = .ok (.val (.node .tup false ds)) r1 := by
  rw [q_tup, h]
  show (match valsR xs with | some ds => if ds.length ≤ 16777216 then EO.ok (.val (.node .tup false ds)) r1 else .bad | none => .bad) = _
  rw [h2]
  show (if ds.length ≤ 16777216 then EO.ok (.val (.node .tup false ds)) r1 else .bad) = _
  rw [if_pos hl]
theorem call_go {n : Nat} {F : List D → FO} {xs : List R} {ds ds' : List D} (h : fs r = .ok xs r1) (h2 : opds r1 xs = some ds) (hf : Fzs ds ds') (hn : xs.length = n) (hF : F ds' = .ok d) (nl : Nl d) : cCall n F fs r = .ok (.val d) r1 := by
  rw [q_call, h]
  show (if xs.length = n then callK F xs r1 else .bad) = _
  rw [if_pos hn, q_callK, h2]
  show (match F (frzs ds) with | .ok d => if noL d = true then EO.ok (.val d) r1 else .ok (.val d) (settles r1 xs) | .exc c => .exc c r1 | .bad => .bad) = _
  rw [hf.e, hF]
  show (if noL d = true then EO.ok (.val d) r1 else .ok (.val d) (settles r1 xs)) = _
  rw [if_pos nl.e]
theorem call_set {n : Nat} {F : List D → FO} {xs : List R} {ds ds' : List D} (h : fs r = .ok xs r1) (h2 : opds r1 xs = some ds) (hf : Fzs ds ds') (hn : xs.length = n) (hF : F ds' = .ok d) (nl : noL d = false) (hs : settles r1 xs = r2) : cCall n F fs r = .ok (.val d) r2 := by
  rw [q_call, h]
  show (if xs.length = n then callK F xs r1 else .bad) = _
  rw [if_pos hn, q_callK, h2]
  show (match F (frzs ds) with | .ok d => if noL d = true then EO.ok (.val d) r1 else .ok (.val d) (settles r1 xs) | .exc c => .exc c r1 | .bad => .bad) = _
  rw [hf.e, hF]
  show (if noL d = true then EO.ok (.val d) r1 else .ok (.val d) (settles r1 xs)) = _
  rw [if_neg (by rw [nl]; decide), hs]
theorem call_exc {n k : Nat} {F : List D → FO} {xs : List R} {ds ds' : List D} (h : fs r = .ok xs r1) (h2 : opds r1 xs = some ds) (hf : Fzs ds ds') (hn : xs.length = n) (hF : F ds' = .exc k) : cCall n F fs r = .exc k r1 := by
  rw [q_call, h]
  show (if xs.length = n then callK F xs r1 else .bad) = _
  rw [if_pos hn, q_callK, h2]
  show (match F (frzs ds) with | .ok d => if noL d = true then EO.ok (.val d) r1 else .ok (.val d) (settles r1 xs) | .exc c => .exc c r1 | .bad => .bad) = _
  rw [hf.e, hF]
theorem expr_exc {k : Nat} (h : fa r = .exc k r1) : cExpr fa r = .exc k r1 := by
  rw [q_expr, h]; rfl
theorem len_go {k : Kd} {o : Bool} {xs : List D} (h : fa r = .ok x r1) (ho : opd r1 x = some (.node k o xs)) (hk : sq3 k = true) : cB (b1 lenD) (cCons fa cNil) r = .ok (.val (.int xs.length)) r1 :=
  b1_ok h ho (by cases k <;> first | rfl | cases hk) rfl
theorem lenE_go {α : Type} {k : Kd} {o : Bool} {f : α → D} {xs : List α} (h : fa r = .ok x r1) (ho : opd r1 x = some (.node k o (xs.map f))) (hk : sq3 k = true) : cB (b1 lenD) (cCons fa cNil) r = .ok (.val (.int xs.length)) r1 := by
  have e := len_go h ho hk
  rw [List.length_map] at e
  exact e
theorem neg_ok {n : Int} (h : fa r = .ok (.val (.int n)) r1) : cNeg fa r = .ok (.val (.int (-n))) r1 := by
  unfold cNeg
  rw [h]
  rfl
theorem max_ok (h1 : fa r = .ok (.val (.int i)) r1) (h2 : fb r1 = .ok (.val (.int j)) r2) : cB gMax2 (cCons fa (cCons fb cNil)) r = .ok (.val (.int (max i j))) r2 := by
  rw [q_B, cons_ok h1 (cons_ok h2 (nil_ok r2))]
  show gMax2 [.val (.int i), .val (.int j)] r2 = _
  rw [q_max2]
  congr 3
  by_cases hn : j > i
  · rw [if_pos hn]; omega
  · rw [if_neg hn]; omega
theorem min_ok (h1 : fa r = .ok (.val (.int i)) r1) (h2 : fb r1 = .ok (.val (.int j)) r2) : cB gMin2 (cCons fa (cCons fb cNil)) r = .ok (.val (.int (min i j))) r2 := by
  rw [q_B, cons_ok h1 (cons_ok h2 (nil_ok r2))]
  show gMin2 [.val (.int i), .val (.int j)] r2 = _
  rw [q_min2]
  congr 3
  by_cases hn : j < i
  · rw [if_pos hn]; omega
  · rw [if_neg hn]; omega
theorem and_no (h : fa r = .ok (.val (.bl false)) r1) : cAnd fa fb r = .ok (.val (.bl false)) r1 := by
  rw [q_and, h, bd_ok]
theorem and_go (h : fa r = .ok (.val (.bl true)) r1) {o : EO} (h2 : fb r1 = o) : cAnd fa fb r = o := by
  rw [q_and, h, bd_ok]; exact h2
theorem or_yes (h : fa r = .ok (.val (.bl true)) r1) : cOr fa fb r = .ok (.val (.bl true)) r1 := by
  rw [q_or, h, bd_ok]
theorem or_go (h : fa r = .ok (.val (.bl false)) r1) {o : EO} (h2 : fb r1 = o) : cOr fa fb r = o := by
  rw [q_or, h, bd_ok]; exact h2
theorem and_b (h : fa r = .ok (.val (.bl b)) r) (h2 : fb r = .ok (.val (.bl c)) r) : cAnd fa fb r = .ok (.val (.bl (b && c))) r := by
  rw [q_and, h, bd_ok]
  cases b with
  | true => exact h2
  | false => rfl
theorem or_b (h : fa r = .ok (.val (.bl b)) r) (h2 : fb r = .ok (.val (.bl c)) r) : cOr fa fb r = .ok (.val (.bl (b || c))) r := by
  rw [q_or, h, bd_ok]
  cases b with
  | true => rfl
  | false => exact h2
theorem tru_bl (h : fa r = .ok (.val (.bl b)) r1) : cTru fa r = .ok (.val (.bl b)) r1 := by
  unfold cTru
  rw [h]
  rfl
theorem ix_go {k : Kd} {o : Bool} {xs : List D} {n : Int} (h : fa r = .ok x r1) (h2 : fb r1 = .ok (.val (.int n)) r2) (ho : opd r2 x = some (.node k o xs)) (hk : sq3 k = true) (hd : atI xs n = some d) (fd : Fz d e) (t : touch r2 x = r3) (ht : atom d = true → r3 = r2) : cBin gIx fa fb r = .ok (.val e) r3 := by
  refine bin_ok h h2 ?_
  have z : gIx x (.val (.int n)) r2 = pick r2 x d := by
    rw [q_ix, ho]
    cases k <;> first | (cases hk; done) | (show (match atI xs n with | some d => pick r2 x d | none => EO.bad) = _; rw [hd])
  rw [z, q_pick]
  by_cases a : atom d = true
  · rw [if_pos a, ht a, ← fd.e, frz_atom a]
  · rw [if_neg a, fd.e, t]
theorem at_enc {α : Type} {f : α → D} {xs : List α} {i : Nat} (h : i < xs.length) : atI (xs.map f) (i : Int) = some (f xs[i]) := by
  rw [VL.atI_nat, List.getElem?_map, List.getElem?_eq_getElem h]; rfl
theorem touch_v (d : D) (r : Rho) : touch r (.val d) = r := rfl
theorem touch_l {i : Nat} {k : Kd} {o : Bool} {ys : List D} (h : r[i]? = some (some (.node k o ys))) (f : Fzs ys ys) : touch r (.loc i) = r := touch_fz h f.e
theorem addL_go {o o' : Bool} {xs ys xs' ys' : List D} (h1 : fa r = .ok x r1) (h2 : fb r1 = .ok y r2) (e1 : opd r2 x = some (.node .lst o xs)) (e2 : opd r2 y = some (.node .lst o' ys)) (f1 : Fzs xs xs') (f2 : Fzs ys ys') (hl : xs.length + ys.length ≤ 16777216) (t1 : touch r2 y = r2) (t2 : touch r2 x = r2) : cBin gAdd fa fb r = .ok (.val (.node .lst true (xs' ++ ys'))) r2 := by
  refine bin_ok h1 h2 ?_
  rw [q_addL e1 e2 hl, f1.e, f2.e, t1, t2]
theorem listOf_go {o : Bool} {k : Kd} {xs xs' : List D} (h : fa r = .ok x r1) (ho : opd r1 x = some (.node k o xs)) (hk : sq3 k = true) (f : Fzs xs xs') (t : touch r1 x = r2) : cB gListOf (cCons fa cNil) r = .ok (.val (.node .lst true xs')) r2 := by
  rw [q_B, cons_ok h (nil_ok r1), q_abd1, q_listOf, ho]
  cases k <;> first | (cases hk; done) | (show EO.ok (.val (.node .lst true (frzs xs))) (touch r1 x) = _; rw [f.e, t])
theorem isi_go {n : String} {E : ETab} (h : fa r = .ok x r1) (ho : opd r1 x = some d) (hb : isi1 E d (.ty n) = some b) : cB (gIsi E) (cCons fa (cCons (cC (.ty n)) cNil)) r = .ok (.val (.bl b)) r1 := by
  rw [q_B, cons_ok h (cons_ok (cc_d _ _) (nil_ok r1)), q_abd1]
  show (match opd r1 x with | some d => (match isi1 E d (.ty n) with | some b => EO.ok (.val (.bl b)) r1 | none => .bad) | none => .bad) = _
  rw [ho]
  show (match isi1 E d (.ty n) with | some b => EO.ok (.val (.bl b)) r1 | none => .bad) = _
  rw [hb]
theorem eqD_go (h1 : fa r = .ok x r1) (h2 : fb r1 = .ok y r2) (e1 : opd r2 x = some d) (e2 : opd r2 y = some e) (h : eqD d e = some (.bl b)) : cBin gEq fa fb r = .ok (.val (.bl b)) r2 := bin_ok h1 h2 (g2_ok e1 e2 h rfl)
theorem neD_go (h1 : fa r = .ok x r1) (h2 : fb r1 = .ok y r2) (e1 : opd r2 x = some d) (e2 : opd r2 y = some e) (h : neD d e = some (.bl b)) : cBin gNe fa fb r = .ok (.val (.bl b)) r2 := bin_ok h1 h2 (g2_ok e1 e2 h rfl)
theorem seq_go {f g : Sv} {o : SO} (h : f r = .nx r1) (h2 : g r1 = o) : cSeq f g r = o := (seq_nx h).trans h2
theorem skip_go (r : Rho) : cSkip r = .nx r := rfl
theorem asg_go {i : Nat} (h : cSet fa r = .ok (.val d) r1) (h2 : r1.set i (some d) = r2) : cAsg (.nm i) fa r = .nx r2 := by
  rw [q_asg, h]
  show SO.nx (r1.set i (some d)) = _
  rw [h2]
theorem asgT_go {t : Tg} (h : cSet fa r = .ok (.val d) r1) (h2 : tgt t d r1 = some r2) : cAsg t fa r = .nx r2 := by
  rw [q_asg, h]
  show asgK t (.val d) r1 = _
  rw [q_asgK, h2]
theorem expr_go (h : fa r = .ok x r1) : cExpr fa r = .nx r1 := by
  rw [q_expr, h]; rfl
theorem app_go {i : Nat} {ds : List D} (hi : isLst r i = true) (h : cSet fa r = .ok (.val d) r1) (h2 : r1[i]? = some (some (.node .lst true ds))) (hl : ds.length < 16777216) (h3 : r1.set i (some (.node .lst true (ds ++ [d]))) = r2) : cExpr (cApp i fa) r = .nx r2 := by
  rw [q_expr, q_app, if_pos hi, h, bd_ok]
  show (appK i (.val d) r1).st _ = _
  rw [q_appK, h2]
  show (if ds.length < 16777216 then EO.ok (.val .non) (r1.set i (some (.node .lst true (ds ++ [d])))) else .bad).st _ = _
  rw [if_pos hl, h3]
  rfl
theorem ext_go {i : Nat} {o : Bool} {ds es ds' es' : List D} (hi : isLst r i = true) (h : fa r = .ok x r1) (ho : opd r1 x = some (.node .lst o es)) (ht : touch r1 x = r1) (h2 : r1[i]? = some (some (.node .lst true ds))) (f1 : Fzs ds ds') (f2 : Fzs es es') (hl : ds.length + es.length ≤ 16777216) (h3 : r1.set i (some (.node .lst true (ds' ++ es'))) = r2) : cExpr (cExt i fa) r = .nx r2 := by
  rw [q_expr]
  have e : cExt i fa r = (fa r).bd (extK i) := by
    unfold cExt; rw [if_pos hi]
  rw [e, h, bd_ok]
  have e2 : extK i x r1 = .ok (.val .non) r2 := by
    unfold extK
    rw [ho]
    simp only
    rw [ht, h2]
    simp only
    rw [if_pos hl, f1.e, f2.e, List.set_set, h3]
  rw [e2]
  rfl
theorem ret_go (h : fa r = .ok x r1) : cRet fa r = .rt x r1 := ret_ok h
theorem for_go {t : Tg} {fi : Iv} {f : Sv} {ds : List D} {o : SO} (h : fi r = .ok ds r1) (h2 : forL t f ds r1 = o) : cFor t fi f r = o := for_ok h h2
theorem aug_go {i : Nat} {a c : Int} (h : r[i]? = some (some (.int a))) (h2 : fa r = .ok (.val (.int c)) r1) (h3 : r1.set i (some (.int (a + c))) = r2) : cAug i (g2 iAdd) fa r = .nx r2 := by
  rw [q_aug, h]
  show (if true = true then (fa r).st fun y r1 => (g2 iAdd (.val (.int a)) y r1).st fun z r2 => match z with
    | .val d' => SO.nx (r2.set i (some d'))
    | .loc _ => .bad else .bad) = _
  rw [h2]
  show SO.nx (r1.set i (some (.int (a + c)))) = _
  rw [h3]
theorem augG_go {i : Nat} {g : G2} (h : r[i]? = some (some d)) (a : atom d = true) (h2 : fa r = .ok y r1) (h4 : g (.val d) y r1 = .ok (.val e) r2) (h3 : r2.set i (some e) = r3) : cAug i g fa r = .nx r3 := by
  rw [q_aug, h]
  show (if atom d = true then (fa r).st fun y r1 => (g (.val d) y r1).st fun z r2 => match z with
    | .val d' => SO.nx (r2.set i (some d'))
    | .loc _ => .bad else .bad) = _
  rw [if_pos a, h2]
  show (g (.val d) y r1).st _ = _
  rw [h4]
  show SO.nx (r2.set i (some e)) = _
  rw [h3]
theorem par_go {is : List Nat} {xs : List R} {ds : List D} (h : fs r = .ok xs r1) (h2 : valsR xs = some ds) (hl : is.length = ds.length) (h3 : setAll r1 is ds = r2) : cPar is fs r = .nx r2 := by
  rw [← h3]; exact par_ok h h2 hl
theorem setIx_go {i : Nat} {fk : Ev} {k : Int} {jj : Nat} {ds : List D} (h : cSet fa r = .ok (.val d) r1) (h1 : isLst r1 i = true) (h2 : fk r1 = .ok (.val (.int k)) r2) (h3 : r2[i]? = some (some (.node .lst true ds))) (h4 : ixN ds.length k = some jj) (h5 : r2.set i (some (.node .lst true (ds.set jj d))) = r3) : cSetIx i fk fa r = .nx r3 := by
  rw [q_setIx, h, q_st1, if_pos h1, h2, q_st1, q_setIxK]
  show (match opd r2 (.val (.int k)), r2[i]? with
  | some (.int k), some (some (.node .lst true ds)) => (match ixN ds.length k with
    | some j => SO.nx (r2.set i (some (.node .lst true (ds.set j d))))
    | none => .bad)
  | _, _ => .bad) = _
  rw [h3]
  show (match ixN ds.length k with
    | some j => SO.nx (r2.set i (some (.node .lst true (ds.set j d))))
    | none => .bad) = _
  rw [h4]
  show SO.nx (r2.set i (some (.node .lst true (ds.set jj d)))) = _
  rw [h5]
theorem ixN_nat {n k : Nat} (h : k < n) : ixN n (k : Int) = some k := by
  unfold ixN
  rw [if_pos (by omega), if_pos (by omega), Int.toNat_natCast]
theorem wh_go {ft : Ev} {f : Sv} {n : Nat} (h : ft r = .ok (.val (.bl true)) r1) (h2 : f r1 = .nx r2) : whileL ft f (n + 1) r = whileL ft f n r2 := by
  conv => lhs; unfold whileL
  rw [h]
  show (match f r1 with | .nx r2 => whileL ft f n r2 | .ct r2 => whileL ft f n r2 | .bk r2 => .nx r2 | o => o) = _
  rw [h2]
theorem wh_no {ft : Ev} {f : Sv} {n : Nat} (h : ft r = .ok (.val (.bl false)) r1) : whileL ft f (n + 1) r = .nx r1 := by
  unfold whileL
  rw [h]
  rfl
end
theorem it_rngI {fa : Ev} {r r1 : Rho} {n : Int} (h : fa r = .ok (.val (.int n)) r1) (h1 : within n = true) : iRng rngI1 (cCons fa cNil) r = .ok (rngD 0 1 n.toNat) r1 := by
  rw [q_iRng, cons_ok h (nil_ok r1)]
  show rngI1 r1 [.val (.int n)] = _
  rw [q_rng1, if_pos h1]
theorem it_rng2 {fa fb : Ev} {r r1 r2 : Rho} {n m : Int} (h : fa r = .ok (.val (.int n)) r1) (h2 : fb r1 = .ok (.val (.int m)) r2) (hn : within n = true) (hm : within m = true) : iRng rngI2 (cCons fa (cCons fb cNil)) r = .ok (rngD n 1 (m - n).toNat) r2 := by
  rw [q_iRng, cons_ok h (cons_ok h2 (nil_ok r2))]
  show rngI2 r2 [.val (.int n), .val (.int m)] = _
  rw [q_rng2, if_pos (by rw [hn, hm]; rfl)]
theorem it_lstG {fa : Ev} {r r1 : Rho} {o : Bool} {k : Kd} {ds : List D} (h : cSet fa r = .ok (.val (.node k o ds)) r1) (hk : sq2 k = true) : iLst fa r = .ok ds r1 := by
  rw [q_iLst, h]
  cases k <;> first | (cases hk; done) | rfl
theorem it_enumG {fa : Ev} {r r1 : Rho} {o : Bool} {ds ds' : List D} (h : fa r = .ok (.val (.node .lst o ds)) r1) (f : Fzs ds ds') : iRng gEn (cCons fa cNil) r = .ok (enumD 0 ds') r1 := by
  rw [q_iEn (cons_ok h (nil_ok r1)), f.e]
theorem rng_nt (n : Nat) : rngD 0 1 n = (List.range n).map nt := by
  unfold rngD
  refine List.map_congr_left fun i _ => ?_
  show D.int ((0 : Int) + (i : Nat) * 1) = D.int (i : Nat)
  congr 1; omega
end VH
namespace VH
section
variable {fa fb fc : Ev} {fs : Av} {f g h : Sv} {r r1 r2 r3 : Rho} {x y : R} {d e z : D} {b c : Bool} {i j : Int} {o : SO}
theorem set_0 {a : Option D} {x : Option D} {l : Rho} : (a :: l).set 0 x = x :: l := rfl
theorem set_s {a : Option D} {x : Option D} {l l' : Rho} {n : Nat} (h : l.set n x = l') : (a :: l).set (n + 1) x = a :: l' := by
  rw [List.set_cons_succ, h]
theorem setAll_n (r : Rho) : setAll r [] [] = r := rfl
theorem setAll_c {i : Nat} {is : List Nat} {ds : List D} (h : r.set i (some d) = r1) (h2 : setAll r1 is ds = r2) : setAll r (i :: is) (d :: ds) = r2 := by
  show setAll (r.set i (some d)) is ds = _
  rw [h, h2]
theorem tgt_nm {i : Nat} (h : r.set i (some d) = r1) : tgt (.nm i) d r = some r1 := by
  show some (r.set i (some d)) = _
  rw [h]
theorem tgt_tp {is : List Nat} {o : Bool} {ds : List D} (hl : is.length = ds.length) (h : setAll r is ds = r1) : tgt (.tp is) (.node .tup o ds) r = some r1 := by
  show (if is.length = ds.length then some (setAll r is ds) else none) = _
  rw [if_pos hl, h]
theorem tgt_tl {is : List Nat} {o : Bool} {ds : List D} (hl : is.length = ds.length) (h : setAll r is ds = r1) : tgt (.tl is) (.node .lst o ds) r = some r1 := by
  show (if is.length = ds.length then some (setAll r is ds) else none) = _
  rw [if_pos hl, h]
theorem seq_as (h1 : cSeq f (cSeq g h) r = o) : cSeq (cSeq f g) h r = o := by
  rw [← h1]
  simp only [q_seq]
  cases f r <;> rfl
theorem seq_ret (h1 : fa r = .ok x r1) (h2 : SO.rt x r1 = o) : cSeq (cRet fa) h r = o := by
  rw [seq_rt (ret_ok h1), h2]
theorem seq_yes (h1 : fa r = .ok (.val (.bl b)) r1) (hb : b = true) (h2 : cSeq f h r1 = o) : cSeq (cIfS fa f g) h r = o := by
  subst hb
  rw [← h2]
  simp only [q_seq]
  rw [ifs_yes h1 rfl]
theorem seq_no (h1 : fa r = .ok (.val (.bl b)) r1) (hb : b = false) (h2 : cSeq g h r1 = o) : cSeq (cIfS fa f g) h r = o := by
  subst hb
  rw [← h2]
  simp only [q_seq]
  rw [ifs_not h1 rfl]
theorem ifs_y (h1 : fa r = .ok (.val (.bl b)) r1) (hb : b = true) (h2 : f r1 = o) : cIfS fa f g r = o := by
  subst hb
  exact ifs_yes h1 h2
theorem ifs_n (h1 : fa r = .ok (.val (.bl b)) r1) (hb : b = false) (h2 : g r1 = o) : cIfS fa f g r = o := by
  subst hb
  exact ifs_not h1 h2
theorem seq_sk (h2 : h r = o) : cSeq cSkip h r = o := by
  rw [q_seq, q_skip]; exact h2
theorem seq_ra {k : Nat} (h2 : SO.exc k r = o) : cSeq (cRaise k) h r = o := by
  rw [q_seq, q_raise]; exact h2
theorem runF_go {n : Nat} {ds : List D} (h1 : startR n ds = r) (h2 : f r = .rt x r1) (ho : opd r1 x = some d) : runF n f ds = .ok d := by
  subst h1
  exact runF_ok h2 ho
theorem runF_nx {n : Nat} {ds : List D} (h1 : startR n ds = r) (h2 : f r = .nx r1) : runF n f ds = .ok .non := by
  subst h1
  unfold runF
  rw [h2]
theorem runF_exc {n k : Nat} {ds : List D} (h1 : startR n ds = r) (h2 : f r = .exc k r1) : runF n f ds = .exc k := by
  subst h1
  unfold runF
  rw [h2]
theorem forL_c {t : Tg} {ds : List D} (h1 : tgt t d r = some r1) (h2 : f r1 = .nx r2) (h3 : forL t f ds r2 = o) : forL t f (d :: ds) r = o := (forL_cons h1 h2).trans h3
end
theorem mulOk_l {i j : Int} (h : i.natAbs < 2 ^ 64) : mulOk i j = true := by
  unfold mulOk
  rw [decide_eq_true h]; rfl
end VH
namespace VH
theorem set_any {r : Rho} {i : Nat} {d : D} (h : r[i]? = some (some d)) (f : frz d = d) : cSet (cVar i) r = .ok (.val d) r := by
  cases ha : atom d with
  | true => rw [q_set, cvar_at h ha, bd_ok]
  | false => exact set_loc h ha ⟨f⟩ (set_same h)
theorem start_c {n : Nat} {d : D} {ds : List D} {r : Rho} (h : startR n ds = r) : startR (n + 1) (d :: ds) = some d :: r := by
  subst h
  unfold startR
  simp
theorem start_n {n : Nat} {r : Rho} (h : startR n [] = r) : startR (n + 1) [] = none :: r := by
  subst h
  unfold startR
  simp [List.replicate_succ]
theorem start_z : startR 0 [] = [] := rfl
end VH
namespace VH
end VH
namespace VH
end VH
namespace VH
theorem touch_g {r r1 : Rho} {i : Nat} {k : Kd} {o : Bool} {ys ys' : List D} (h : r[i]? = some (some (.node k o ys))) (f : Fzs ys ys') (h2 : r.set i (some (.node k o ys')) = r1) : touch r (.loc i) = r1 := by
  rw [q_touch2, h, ← h2, ← f.e]
  rfl
end VH
namespace VH
theorem se_n (r : Rho) : settles r [] = r := rfl
theorem se_v {r r1 : Rho} {d : D} {xs : List R} (h : settles r xs = r1) : settles r (.val d :: xs) = r1 := h
theorem se_l {r r1 r2 : Rho} {i : Nat} {d d' : D} {xs : List R} (h : r[i]? = some (some d)) (f : Fz d d') (h2 : r.set i (some d') = r1) (h3 : settles r1 xs = r2) : settles r (.loc i :: xs) = r2 := by
  rw [q_settles1, q_settle2, h, ← h3, ← h2, ← f.e]
end VH
namespace VH
theorem not_t {fa : Ev} {r r1 : Rho} (h : fa r = .ok (.val (.bl true)) r1) : cNot fa r = .ok (.val (.bl false)) r1 := not_ok h
theorem not_f {fa : Ev} {r r1 : Rho} (h : fa r = .ok (.val (.bl false)) r1) : cNot fa r = .ok (.val (.bl true)) r1 := not_ok h
end VH
namespace VH
theorem wh_y {ft : Ev} {f : Sv} {n : Nat} {r r1 r2 : Rho} {b : Bool} {o : SO} (h : ft r = .ok (.val (.bl b)) r1) (hb : b = true) (h2 : f r1 = .nx r2) (h3 : whileL ft f n r2 = o) : whileL ft f (n + 1) r = o := by
  subst hb
  exact (wh_go h h2).trans h3
theorem wh_n {ft : Ev} {f : Sv} {n : Nat} {r r1 : Rho} {b : Bool} (h : ft r = .ok (.val (.bl b)) r1) (hb : b = false) : whileL ft f (n + 1) r = .nx r1 := by
  subst hb
  exact wh_no h
theorem int_bl {fa : Ev} {r r1 : Rho} {b : Bool} (h : fa r = .ok (.val (.bl b)) r1) : cB (b1 intD) (cCons fa cNil) r = .ok (.val (.int (if b then 1 else 0))) r1 := b1_ok h rfl rfl rfl
theorem int_int {fa : Ev} {r r1 : Rho} {i : Int} (h : fa r = .ok (.val (.int i)) r1) : cB (b1 intD) (cCons fa cNil) r = .ok (.val (.int i)) r1 := b1_ok h rfl rfl rfl
theorem call_any {n : Nat} {F : List D → FO} {fs : Av} {r r1 : Rho} {d : D} {xs : List R} {ds ds' : List D} (h : fs r = .ok xs r1) (h2 : opds r1 xs = some ds) (hf : Fzs ds ds') (hn : xs.length = n) (hF : F ds' = .ok d) (hs : settles r1 xs = r1) : cCall n F fs r = .ok (.val d) r1 := by
  cases nl : noL d with
  | true => exact call_go h h2 hf hn hF ⟨nl⟩
  | false => exact call_set h h2 hf hn hF nl hs
theorem lt_fuel {n : Nat} (h : n < 1000000000) : n < fuel := Nat.lt_of_lt_of_le h fuel_ge
end VH
namespace VH
end VH
namespace VH
theorem nx_to {f : Sv} {r r1 r2 : Rho} (h : f r = .nx r1) (h2 : r1 = r2) : f r = .nx r2 := by rw [← h2]; exact h
end VH
namespace VH
theorem augS_go {fa : Ev} {r r1 r2 : Rho} {i : Nat} {a c : Int} (h : r[i]? = some (some (.int a))) (h2 : fa r = .ok (.val (.int c)) r1) (h3 : r1.set i (some (.int (a - c))) = r2) : cAug i VL.gSub fa r = .nx r2 :=
  augG_go h rfl h2 (g2_ok rfl rfl rfl rfl) h3
theorem augM_go {fa : Ev} {r r1 r2 : Rho} {i : Nat} {a c : Int} (h : r[i]? = some (some (.int a))) (h2 : fa r = .ok (.val (.int c)) r1) (hm : mulOk a c = true) (h3 : r1.set i (some (.int (a * c))) = r2) : cAug i VL.gMul fa r = .nx r2 :=
  augG_go h rfl h2 (by rw [q_mulI, if_pos hm]) h3
theorem pop_go {r r2 : Rho} {i : Nat} {xs ys : List D} {d : D} (h : r[i]? = some (some (.node .lst true ys))) (e : ys = xs ++ [d]) (f : Fzs (xs ++ [d]) (xs ++ [d])) (h3 : r.set i (some (.node .lst true xs)) = r2) : cPop i r = .ok (.val d) r2 := by
  subst e
  rw [← h3]
  exact pop_fz h f.e
theorem lrev_go {fa : Ev} {r r1 : Rho} {o : Bool} {xs : List D} {x : R} {d : D} (h : fa r = .ok x r1) (ho : opd r1 x = some (.node .tup o (d :: xs))) (f : Fzs (d :: xs) (d :: xs)) (t : touch r1 x = r1) : cLRev fa r = .ok (.val (.node .lst true (d :: xs).reverse)) r1 :=
  lrev_ok (k := .tup) (o := o) (xs := d :: xs) h ho (.inr (.inr ⟨rfl, fun h => by cases h⟩)) f.e t
theorem lrevL_go {fa : Ev} {r r1 : Rho} {o : Bool} {xs : List D} {x : R} (h : fa r = .ok x r1) (ho : opd r1 x = some (.node .lst o xs)) (f : Fzs xs xs) (t : touch r1 x = r1) : cLRev fa r = .ok (.val (.node .lst true xs.reverse)) r1 :=
  lrev_ok (k := .lst) (o := o) (xs := xs) h ho (.inl rfl) f.e t
end VH
namespace VH
theorem frzs_reverse (xs : List D) : frzs xs.reverse = (frzs xs).reverse := by rw [frzs_map, frzs_map, List.map_reverse]
instance [h : Fzs xs ys] : Fzs xs.reverse ys.reverse := ⟨by rw [frzs_reverse, h.e]⟩
end VH
namespace VH
theorem nt_lst (o : Bool) (xs : List Nat) : D.node .lst o (xs.map nt) = .node .lst o ((xs.map fun x => ((x : Nat) : Int)).map .int) := by
  rw [List.map_map]; rfl
theorem cast_inj {xs ys : List Nat} : (xs.map fun x => ((x : Nat) : Int)) = (ys.map fun x => ((x : Nat) : Int)) ↔ xs = ys := by
  constructor
  · intro h
    have := congrArg (List.map Int.toNat) h
    simpa [List.map_map, Function.comp_def] using this
  · intro h; rw [h]
theorem neL (o o' : Bool) (xs ys : List Nat) : neD (L o xs) (L o' ys) = some (.bl (!decide (xs = ys))) := by
  rw [L, L, nt_lst, nt_lst, ne_lints]
  congr 3
  exact decide_eq_decide.mpr cast_inj
theorem eqL (o o' : Bool) (xs ys : List Nat) : eqD (L o xs) (L o' ys) = some (.bl (decide (xs = ys))) := by
  rw [L, L, nt_lst, nt_lst, eq_lints]
  congr 2
  exact decide_eq_decide.mpr cast_inj
section
variable {fa fl fh : Ev} {r r1 r2 r3 : Rho} {x : R} {k : Kd} {o : Bool} {xs xs' : List D} {i j : Int}
theorem cutD_ss (xs : List D) (h1 : 0 ≤ i) (h2 : 0 ≤ j) : VL.cutD xs (some i) (some j) = (xs.drop i.toNat).take (j.toNat - i.toNat) := by
  obtain ⟨a, rfl⟩ : ∃ a : Nat, i = a := ⟨i.toNat, by omega⟩
  obtain ⟨b, rfl⟩ : ∃ b : Nat, j = b := ⟨j.toNat, by omega⟩
  exact cutD_some xs a b
theorem cutD_ns (xs : List D) (h2 : 0 ≤ j) : VL.cutD xs none (some j) = xs.take j.toNat := by
  obtain ⟨b, rfl⟩ : ∃ b : Nat, j = b := ⟨j.toNat, by omega⟩
  exact cutD_to xs b
theorem cutD_sn (xs : List D) (h1 : 0 ≤ i) : VL.cutD xs (some i) none = xs.drop i.toNat := by
  obtain ⟨b, rfl⟩ : ∃ b : Nat, i = b := ⟨i.toNat, by omega⟩
  exact cutD_of xs b
theorem part_ok {f : Ev} {r r1 : Rho} {i : Int} {k : Option Int → Rho → EO} (h : f r = .ok (.val (.int i)) r1) : VL.part (some f) r k = k (some i) r1 := by
  show (f r).bd _ = _
  rw [h]
  rfl
theorem sl_ss (h : fa r = .ok x r1) (ho : opd r1 x = some (.node k o xs)) (hk : sq2 k = true) (f : Fzs xs xs') (h1 : fl r1 = .ok (.val (.int i)) r1) (h2 : fh r1 = .ok (.val (.int j)) r1) (t : touch r1 x = r2) (p1 : 0 ≤ i) (p2 : 0 ≤ j) : cSl fa (some fl) (some fh) r = .ok (.val (.node .lst true ((xs'.drop i.toNat).take (j.toNat - i.toNat)))) r2 := by
  rw [q_sl, h, bd_ok, part_ok h1, part_ok h2, q_gSl, ho]
  cases k <;> first | (cases hk; done) | (show EO.ok (.val (.node .lst true (VL.cutD (frzs xs) (some i) (some j)))) (touch r1 x) = _; rw [f.e, t, cutD_ss _ p1 p2])
theorem sl_ns (h : fa r = .ok x r1) (ho : opd r1 x = some (.node k o xs)) (hk : sq2 k = true) (f : Fzs xs xs') (h2 : fh r1 = .ok (.val (.int j)) r1) (t : touch r1 x = r2) (p2 : 0 ≤ j) : cSl fa none (some fh) r = .ok (.val (.node .lst true (xs'.take j.toNat))) r2 := by
  rw [q_sl, h, bd_ok, q_part0, part_ok h2, q_gSl, ho]
  cases k <;> first | (cases hk; done) | (show EO.ok (.val (.node .lst true (VL.cutD (frzs xs) none (some j)))) (touch r1 x) = _; rw [f.e, t, cutD_ns _ p2])
theorem sl_sn (h : fa r = .ok x r1) (ho : opd r1 x = some (.node k o xs)) (hk : sq2 k = true) (f : Fzs xs xs') (h1 : fl r1 = .ok (.val (.int i)) r1) (t : touch r1 x = r2) (p1 : 0 ≤ i) : cSl fa (some fl) none r = .ok (.val (.node .lst true (xs'.drop i.toNat))) r2 := by
  rw [q_sl, h, bd_ok, part_ok h1, q_part0, q_gSl, ho]
  cases k <;> first | (cases hk; done) | (show EO.ok (.val (.node .lst true (VL.cutD (frzs xs) (some i) none))) (touch r1 x) = _; rw [f.e, t, cutD_sn _ p1])
theorem pow_go {fb : Ev} {v : Int} (h1 : fa r = .ok (.val (.int i)) r1) (h2 : fb r1 = .ok (.val (.int j)) r2) (hp : powOk i j = true) (hv : i ^ j.toNat = v) : cBin gPow fa fb r = .ok (.val (.int v)) r2 := by
  rw [← hv]
  exact bin_ok h1 h2 (pow_ok i j hp r2)
theorem sum_go {ns : List Int} (h : fa r = .ok x r1) (ho : opd r1 x = some (.node .lst o (ns.map .int))) : cB (b1 VL.sumD) (cCons fa cNil) r = .ok (.val (.int ns.sum)) r1 := by
  refine b1_ok h ho ?_ rfl
  show (intsOf (ns.map D.int)).map _ = _
  rw [intsOf_map]; rfl
end
theorem lcL_all {α : Type} {enc g : α → D} {t : Tg} {fe : Ev} {vs : List Nat} {r0 : Rho} : ∀ (xs : List α) (acc : List D), acc.length + xs.length < 16777216 →
    (∀ a ∈ xs, ∃ r2, tgt t (enc a) r0 = some r2 ∧ ∃ r3, cSet fe r2 = .ok (.val (g a)) r3 ∧ wipeR r3 vs = r0) → lcL t none fe vs (xs.map enc) acc r0 = .ok (acc ++ xs.map g) r0
  | [], acc, _, _ => by simp [lcL]
  | a :: xs, acc, hl, hs => by
    simp only [List.length_cons] at hl
    obtain ⟨r2, e1, r3, e2, e3⟩ := hs a List.mem_cons_self
    rw [List.map_cons]
    unfold lcL
    rw [e1]
    show (match cSet fe r2 with | .ok (.val e) r3 => if acc.length < 16777216 then lcL t none fe vs (xs.map enc) (acc ++ [e]) (wipeR r3 vs) else .bad | _ => LO.bad) = _
    rw [e2]
    show (if acc.length < 16777216 then lcL t none fe vs (xs.map enc) (acc ++ [g a]) (wipeR r3 vs) else LO.bad) = _
    rw [if_pos (by omega), e3, lcL_all xs (acc ++ [g a]) (by rw [List.length_append, List.length_singleton]; omega) (fun x hx => hs x (List.mem_cons_of_mem _ hx)), List.append_assoc]
    rfl
theorem lc_all {α : Type} {enc g : α → D} {fi : Iv} {t : Tg} {fe : Ev} {vs : List Nat} {r r1 r0 : Rho} (xs : List α) (hi : fi r = .ok (xs.map enc) r1) (h0 : wipeR r1 vs = r0) (hl : xs.length < 16777216)
    (hs : ∀ a ∈ xs, ∃ r2, tgt t (enc a) r0 = some r2 ∧ ∃ r3, cSet fe r2 = .ok (.val (g a)) r3 ∧ wipeR r3 vs = r0) : cLc vs t fi none fe r = .ok (.val (.node .lst true (xs.map g))) (backR r1 r0 vs) := by
  rw [q_lc, hi]
  show (match lcL t none fe vs (xs.map enc) [] (wipeR r1 vs) with | .ok acc r2 => EO.ok (.val (.node .lst true acc)) (backR r1 r2 vs) | .bad => .bad) = _
  rw [h0, lcL_all xs [] (by simpa using hl) hs]
  rfl
end VH

namespace VL
open PySem PySem.Spec PyProof PyProof.Rows L2
section
variable {X : Cx}
end
section
variable {X : Cx} {G : GX} {C : Fc} {W : WX} {ow ow' : Ow} {r : Rho} {T T1 T2 : List (D × V)} {s : L2.St} {H H' : Hp} {fa fb fc : Ev}
end
end VL

namespace VH
section
variable {fa fb fl fh : Ev} {fs : Av} {r r1 r2 r3 : Rho} {x : R} {d : D} {b : Bool} {i j : Int} {k : Kd} {o : Bool} {xs xs' : List D}
theorem isiC_go {c : Nat} {E : ETab} (h : fa r = .ok x r1) (ho : opd r1 x = some d) (hb : isi1 E d (.cls c) = some b) : cB (gIsi E) (cCons fa (cCons (cC (.cls c)) cNil)) r = .ok (.val (.bl b)) r1 := by
  rw [q_B, cons_ok h (cons_ok (cc_d _ _) (nil_ok r1)), q_abd1]
  show (match opd r1 x with | some d => (match isi1 E d (.cls c) with | some b => EO.ok (.val (.bl b)) r1 | none => .bad) | none => .bad) = _
  rw [ho]
  show (match isi1 E d (.cls c) with | some b => EO.ok (.val (.bl b)) r1 | none => .bad) = _
  rw [hb]
theorem it_rng3 {fc : Ev} {z : Int} (h : fa r = .ok (.val (.int i)) r1) (h2 : fb r1 = .ok (.val (.int j)) r2) (h3 : fc r2 = .ok (.val (.int z)) r3) (hc : (decide (z ≠ 0) && decide (z.natAbs < 1073741824) && Builtin.Range.small i j z) = true) : iRng rngI3 (cCons fa (cCons fb (cCons fc cNil))) r = .ok (rngD i z (turns i j z)) r3 := by
  rw [q_iRng, cons_ok h (cons_ok h2 (cons_ok h3 (nil_ok r3)))]
  show (if (decide (z ≠ 0) && decide (z.natAbs < 1073741824) && Builtin.Range.small i j z) = true then IO.ok (rngD i z (turns i j z)) r3 else .bad) = _
  rw [if_pos hc]
theorem try_go {tb : Nat → Option Bool} {f g : Sv} {c jj : Nat} (h : f r = .exc c r1) (ht : tb c = some true) (h0 : r1.set jj (some (.exc c)) = r2) (h2 : g r2 = .nx r3) {r4 : Rho} (h3 : r3.set jj none = r4) : cTry tb (some jj) f g r = .nx r4 := by
  rw [q_try, h]
  show (match tb c with | some true => inClause (some jj) (g (putE (some jj) c r1)) | some false => SO.exc c r1 | none => SO.bad) = _
  rw [ht]
  show inClause (some jj) (g (r1.set jj (some (.exc c)))) = _
  rw [h0, h2]
  show SO.nx (r3.set jj none) = _
  rw [h3]
end
theorem int_nat {z : Int} (h : 0 ≤ z) : ∃ q : Nat, z = (q : Int) := ⟨z.toNat, by omega⟩
end VH
namespace VH
end VH
namespace VH
theorem ixA_go {fa fb : Ev} {r r1 r2 : Rho} {x : R} {k : Kd} {o : Bool} {xs : List D} {n : Int} {d : D} (h : fa r = .ok x r1) (h2 : fb r1 = .ok (.val (.int n)) r2) (ho : opd r2 x = some (.node k o xs)) (hk : sq3 k = true) (hd : atI xs n = some d) (a : atom d = true) : cBin gIx fa fb r = .ok (.val d) r2 := by
  refine bin_ok h h2 ?_
  have z : gIx x (.val (.int n)) r2 = pick r2 x d := by
    rw [q_ix, ho]
    cases k <;> first | (cases hk; done) | (show (match atI xs n with | some d => pick r2 x d | none => EO.bad) = _; rw [hd])
  rw [z, q_pick, if_pos a]
theorem mulL_go {fa fb : Ev} {r r1 r2 : Rho} {o : Bool} {xs xs' : List D} {n : Int} (h : fa r = .ok (.val (.node .lst o xs)) r1) (h2 : fb r1 = .ok (.val (.int n)) r2) (f : Fzs xs xs') (h0 : 0 ≤ n) (h1 : n < 1000000) (hl : xs.length * n.toNat ≤ 16777216) : cBin gMul fa fb r = .ok (.val (.node .lst true (List.replicate n.toNat xs').flatten)) r2 := by
  refine bin_ok h h2 ?_
  rw [q_mulL ⟨h0, by omega, hl⟩, f.e]
end VH

namespace L2
open PySem PySem.Spec PyProof.Rows
section
variable {P : Program} {w : World} {A : Around} {E : Value → Shared → Prop} {s : Shared}
end
section
variable {X : Cx}
end
end L2
namespace VL
open PySem PySem.Spec PyProof.Rows L2
section
variable {X : Cx} {G : GX} {C : Fc} {W : WX} {ow ow' : Ow} {r : Rho} {T T1 T2 : List (D × V)} {s : L2.St} {H H' : Hp} {fa fb fc : Ev}
end
end VL

namespace L2
open PySem PySem.Spec PyProof.Rows
section
variable {X : Cx} {CX : CXT} {k : Nat} {f C : Addr} {fd : FuncData} {ps : List Str} {sp : Sp} {E : L2.St → XK} {x m : Str} {p pos apos : Pos} {e o : Expr} {es : List Expr} {ta : TE} {t : TA}
end
end L2
namespace VL
open PySem PySem.Spec PyProof.Rows L2
section
variable {P : Program} {w : World} {K : PySem.W.Frag} {mg : Str → Option Value} {base : Heap} {G : GX}
end
section
variable {X : Cx} {G : GX} {C : Fc} {W : WX} {ow ow' : Ow} {r : Rho} {T T1 T2 : List (D × V)} {s : L2.St} {H H' : Hp} {fa fo : Ev} {fs : Av}
variable {fb fd fk fz : Ev}
end
end VL
namespace VH
section
variable {fa fb fo fk fz fd : Ev} {fs : Av} {r r1 r2 r3 : Rho} {x : R} {d e : D}
end
end VH

namespace LamY
open PySem PySem.Spec PyProof.Rows L2 LamX
structure LamS1 (sc scope : Scope) (a : Str) : Prop where
  kind : scope.kind = .function
  co : scope.isCoroutine = false
  gen : scope.isGenerator = false
  par : scope.names.lookup a = some .local
  own : ∀ y ∈ scope.names, (y.2 = .local → y.1 = a) ∧ y.2 ≠ .cell
  free : ∀ y ∈ scope.names, y.2 = .free → sc.names.lookup y.1 = some .cell ∨ sc.names.lookup y.1 = some .free
theorem LamS1.has {X : Cx} {scope : Scope} {a : Str} (L : LamS1 X.env.scope scope a) (ok : X.Ok) : ∀ y ∈ scope.names, y.2 = .free → ∃ c, X.env.cells.lookup y.1 = some c := fun y hy e => by
  rcases L.free y hy e with k | k
  · exact ok.has _ (.inl k)
  · exact ok.has _ (.inr k)
section
variable {X : Cx} {pins : List (Addr × Obj)} {σ : L2.St} {H : Hp} {s : Shared}
end
end LamY

namespace LamY
open PySem PySem.Spec PySem.Calls PySem.W PyProof.Rows L2 LamX SrtO
section
variable {prog : Program} {w : World} {A : Around} {E : Value → Shared → Prop} {s : Shared} {a kS : Addr} {keys : Array Value} {e e1 : Nat} {P : PySem.Fin → Shared → Prop} {vs : List Value} {k : Value → List Int}
end
end LamY

namespace LamY
open PySem PySem.Spec PySem.Calls PySem.W PyProof.Rows L2 LamX SrtO
section
variable {X : Cx} {pins pins' : List (Addr × Obj)} {σ : L2.St} {H : Hp} {s : Shared}
end
section
variable {X : Cx} {pins : List (Addr × Obj)} {σ : L2.St} {H1 : Hp} {s : Shared}
end
end LamY

namespace LamY
open PySem PySem.Spec PySem.Calls PySem.W PyProof.Rows L2 LamX SrtO
section
variable {X : Cx} {pins : List (Addr × Obj)} {σ : L2.St} {H : Hp} {s : Shared}
end
end LamY

namespace LamY
open PySem PySem.Spec PySem.Calls PySem.W PyProof.Rows L2 LamX SrtO
section
variable {X : Cx} {pins : List (Addr × Obj)} {σ : L2.St} {H1 : Hp} {s : Shared}
end
end LamY
namespace VL
open PySem PySem.Spec PySem.Calls PySem.W PyProof.Rows L2 LamX LamY
section
variable {X : Cx} {G : GX} {C : Fc} {W : WX} {ow ow' : Ow} {r : Rho} {T T1 T2 : List (D × V)} {s : L2.St} {H H' : Hp} {fa fe fk : Ev}
end
end VL

namespace VL
open PySem PySem.Spec PyProof.Rows L2 LamX LamY
structure FunC (K : PySem.W.Frag) (x qual : Str) (st : Stmt) (f : Addr) (fd : FuncData) (cdv : Value) : Prop where
  ex : ∃ (oc : Value) (od : Option Addr) (kV doc pm : Value) (an : Option Addr) (ct : Value) (osl : Array (Option Value)),
    fd = PySem.W.fnOf x qual (defArgs st) (defBody st) (defScope st) .none kV doc pm an cdv ct ∧ K.lookup f = some ⟨oc, od, .func fd, osl⟩ ∧ PySem.W.codeIn K cdv qual = true
  kp : PySem.W.keepIn K (.ref f) = true
section
variable {P : Program} {w : World} {K : PySem.W.Frag} {mg : Str → Option Value} {base : Heap} {G : GX}
theorem FunC.fn {x qual : Str} {st : Stmt} {f : Addr} {fd : FuncData} {cdv : Value} (F : FunC K x qual st f fd cdv) : Fun K x qual st f fd := by
  obtain ⟨oc, od, kV, doc, pm, an, ct, osl, e, lk, hcd⟩ := F.ex
  exact ⟨⟨oc, od, kV, doc, pm, an, cdv, ct, osl, e, lk, hcd⟩, F.kp⟩
theorem FunC.okX {x qual : Str} {st : Stmt} {f : Addr} {fd : FuncData} {N ps : List Str} {k : Nat} {sp : Sp} {cdv : Value} (F : FunC K x qual st f fd cdv) (S : FnScope N ps (defScope st)) (len : ∀ vs H Q E, sp vs H Q E → vs.length = ps.length)
    (hbody : ∀ (A : Around) (outer : List Env) (s : Shared) (H : Hp) (vs : List V) (Q : VK) (E : XK), Room k (A.deeper (envOfC qual (defScope st) s.heap.objs.size f cdv)) → sp vs H Q E →
      ∃ t, PSs (cxOf (L2.CX P w) P w K mg base N qual (defScope st) f cdv A outer s H E) (defBody st) t ∧ t { nx := fun _ H' => Q .non H', rt := Q } (start N vs) H) : FnOk P w K mg base (L2.CX P w) (k + 1) f fd ps sp := by
  obtain ⟨oc, od, kV, doc, pm, an, ct, osl, rfl, lk, hcd⟩ := F.ex
  exact fn_of lk hcd S len fun A outer s H vs Q E hr hsp => hbody A outer s H vs Q E hr hsp
end
end VL

namespace VL
open PySem PySem.Spec PyProof.Rows L2
section
variable {X : Cx}
end
end VL

namespace VL
open PySem PySem.Spec PyProof.Rows L2
section
variable {X : Cx} {G : GX} {C : Fc} {W : WX} {ow : Ow} {r : Rho} {T : List (D × V)} {s : L2.St} {H : Hp} {fk f1 f2 ft : Ev}
end
end VL

namespace VL
open PySem PySem.Spec PyProof.Rows L2
section
variable {X : Cx} {G : GX} {C : Fc} {W : WX} {ow ow' : Ow} {r : Rho} {T T1 T2 : List (D × V)} {s : L2.St} {H H' : Hp} {fa : Ev}
end
end VL

namespace VL
open PySem PySem.Spec PyProof.Rows L2
section
variable {X : Cx} {G : GX} {C C' : Fc} {W : WX} {ow ow' : Ow} {r : Rho} {T T1 T2 : List (D × V)} {s : L2.St} {H H' : Hp} {fa fk : Ev}
def scV : D → V
  | .int i => .int i
  | .bl b => .bl b
  | .str x => .str x
  | _ => .non
def Fc.lk (C : Fc) (H : Hp) (ow : Ow) (i : Nat) (a : Addr) : Fc := ⟨H, fun b => ∃ l, ow b = some l ∧ l.b ≠ .fo ∧ b ≠ a, C.fo, (i, .ref a) :: (i, .ref a) :: C.pin⟩
mutual
theorem Rep.unlk {G : GX} {H H' : Hp} {ow ow' : Ow} {a : Addr} {od : Obj} {kvs : List (L2.Key × V)} (hne : ∀ b, b ≠ a → H' b = H b) (how : ∀ b, b ≠ a → ow' b = ow b) (ha : H a = some (.frz od (.dK kvs))) : ∀ (d : D) {l : Loc} {v : V}, Rep G ow H d l v → Rep G ow' H' d l v
  | .any, _, _, _ => trivial
  | .non, _, _, h => h
  | .bl _, _, _, h => h
  | .int _, _, _, h => h
  | .str _, _, _, h => h
  | .exc c, _, _, h => by
    obtain ⟨b, e, q⟩ := h
    have nb : b ≠ a := fun z => by subst z; rw [ha] at q; cases q
    exact ⟨b, e, by rw [hne b nb]; exact q⟩
  | .ty _, _, _, h => h
  | .cls _, _, _, h => h
  | .node k o xs, l, v, h => by
    obtain ⟨b, vs, ev, h1, h2, h3⟩ := h
    have h3' := Reps.unlk hne how ha xs h3
    cases k with
    | lst =>
      have h1 : H b = some (.lst vs) := h1
      have nb : b ≠ a := fun z => by subst z; rw [ha] at h1; cases h1
      exact ⟨b, vs, ev, (hne b nb).trans h1, by rw [how b nb]; exact h2, h3'⟩
    | tup =>
      have h1 : H b = some (.tup vs) := h1
      have nb : b ≠ a := fun z => by subst z; rw [ha] at h1; cases h1
      exact ⟨b, vs, ev, (hne b nb).trans h1, by rw [how b nb]; exact h2, h3'⟩
    | rd =>
      refine ⟨b, vs, ev, ?_, trivial, h3'⟩
      rcases h1 with ⟨o2, h1⟩ | h1
      · have nb : b ≠ a := fun z => by subst z; rw [ha] at h1; cases h1
        exact .inl ⟨o2, (hne b nb).trans h1⟩
      · exact .inr h1
    | dK ks =>
      obtain ⟨h1, h4⟩ : H b = some (.dK (ks.zip vs)) ∧ ks.length = vs.length := h1
      have nb : b ≠ a := fun z => by subst z; rw [ha] at h1; cases h1
      exact ⟨b, vs, ev, ⟨(hne b nb).trans h1, h4⟩, by rw [how b nb]; exact h2, h3'⟩
    | dT ks =>
      obtain ⟨h1, h4⟩ : H b = some (.dT (ks.zip vs)) ∧ ks.length = vs.length := h1
      have nb : b ≠ a := fun z => by subst z; rw [ha] at h1; cases h1
      exact ⟨b, vs, ev, ⟨(hne b nb).trans h1, h4⟩, by rw [how b nb]; exact h2, h3'⟩
    | ins c fs =>
      obtain ⟨⟨dx, h1⟩, h4⟩ : (∃ dx, H b = some (.ins (G c) dx (fs.zip vs))) ∧ fs.length = vs.length := h1
      have nb : b ≠ a := fun z => by subst z; rw [ha] at h1; cases h1
      exact ⟨b, vs, ev, ⟨⟨dx, (hne b nb).trans h1⟩, h4⟩, by rw [how b nb]; exact h2, h3'⟩
theorem Reps.unlk {G : GX} {H H' : Hp} {ow ow' : Ow} {a : Addr} {od : Obj} {kvs : List (L2.Key × V)} (hne : ∀ b, b ≠ a → H' b = H b) (how : ∀ b, b ≠ a → ow' b = ow b) (ha : H a = some (.frz od (.dK kvs))) : ∀ (ds : List D) {l : Loc} {i : Nat} {vs : List V}, Reps G ow H ds l i vs → Reps G ow' H' ds l i vs
  | [], _, _, _, h => h
  | d :: ds, _, _, _, h => by
    obtain ⟨v, ws, e, h1, h2⟩ := h
    exact ⟨v, ws, e, Rep.unlk hne how ha d h1, Reps.unlk hne how ha ds h2⟩
end
end
end VL

namespace VL
open PySem PySem.Spec PyProof.Rows L2
def prOf : D → Option (Int × Int)
  | .node .tup _ [.int a, .int b] => some (a, b)
  | _ => none
def prsOf : List D → Option (List (Int × Int))
  | [] => some []
  | d :: ds => match prOf d, prsOf ds with
    | some p, some ps => some (p :: ps)
    | _, _ => none
theorem prsOf_map : ∀ ps : List (Int × Int), prsOf (ps.map pairD) = some ps
  | [] => rfl
  | p :: ps => by
    show (match prOf (pairD p), prsOf (ps.map pairD) with | some p, some ps => some (p :: ps) | _, _ => none) = _
    rw [prsOf_map ps]
    rfl
def gSortedP : List R → Rho → EO := fun xs r => match xs with
  | [x] => (match opd r x with
    | some (.node .lst _ ds) => (match prsOf ds with
      | some ps => .ok (.val (.node .lst true ((srtP ps).map pairD))) (touch r x)
      | none => .bad)
    | _ => .bad)
  | _ => .bad
def kPr (H : Hp) (v : V) : Int × Int := match v with
  | .ref t => (match H t with
    | some (.tup [.int a, .int b]) => (a, b)
    | _ => (0, 0))
  | _ => (0, 0)
theorem kPr_of {H : Hp} {t : Addr} {p : Int × Int} (h : H t = some (.tup [.int p.1, .int p.2])) : kPr H (.ref t) = p := by
  unfold kPr
  simp only [h]
theorem prOf_eq {d : D} {p : Int × Int} (h : prOf d = some p) : ∃ o, d = .node .tup o [.int p.1, .int p.2] := by
  unfold prOf at h
  split at h
  · cases h; exact ⟨_, rfl⟩
  · cases h
section
variable {X : Cx} {G : GX} {C C' : Fc} {W : WX} {ow ow' : Ow} {r : Rho} {T T1 T2 : List (D × V)} {s : L2.St} {H H' : Hp} {fa fk : Ev}
theorem prs_rep : ∀ {ds : List D} {ps : List (Int × Int)} {l : VL.Loc} {i : Nat} {ws : List V}, prsOf ds = some ps → Reps G ow H (frzs ds) l i ws → ∃ zs : List (Addr × Int × Int), zs.map (·.2) = ps ∧ ws = zs.map (fun z => V.ref z.1) ∧ ∀ z ∈ zs, H z.1 = some (.tup [.int z.2.1, .int z.2.2]) ∧ ow z.1 = none
  | [], ps, l, i, ws, e, h => by
    cases e
    exact ⟨[], rfl, h, fun z hz => nomatch hz⟩
  | d :: ds, ps, l, i, ws, e, h => by
    unfold prsOf at e
    split at e
    · rename_i p ps' e1 e2
      cases e
      obtain ⟨o, ed⟩ := prOf_eq e1
      subst ed
      obtain ⟨v, ws', ev, h1, h2⟩ := h
      obtain ⟨zs, z1, z2, z3⟩ := prs_rep e2 h2
      obtain ⟨a, us, ea, hA, oA, rA⟩ := h1
      obtain ⟨v1, u1, e3, r1, rA⟩ := rA
      obtain ⟨v2, u2, e4, r2, rA⟩ := rA
      have e5 : u2 = [] := rA
      have r1 : v1 = .int p.1 := r1
      have r2 : v2 = .int p.2 := r2
      subst e5 e4 e3 r1 r2
      exact ⟨(a, p) :: zs, by rw [List.map_cons, z1], by rw [ev, ea, z2]; rfl, fun z hz => by
        rcases List.mem_cons.mp hz with e | e
        · rw [e]; exact ⟨hA, oA⟩
        · exact z3 z e⟩
    · cases e
theorem cs_sortedP : CallS X (.builtin "sorted") gSortedP := by
  refine ⟨_, cr_sortedPO, fun G hG C W r T s H xs vs Q S l q => ?_⟩
  unfold gSortedP at q
  split at q
  · rename_i x
    obtain ⟨v, ev, lx, ep⟩ := one_arg l
    rw [ep] at S
    subst ev
    obtain ⟨ow, S⟩ := S
    split at q
    · rename_i o ds e1
      split at q
      · rename_i ps e2
        obtain ⟨ow', a, ws, S', ea, h1, rx, _⟩ := StW.parts S lx e1
        subst ea
        obtain ⟨zs, z1, z2, z3⟩ := prs_rep e2 (rx ⟨.fo, []⟩)
        have ek : ∀ z ∈ zs, kPr H (.ref z.1) = z.2 := fun z hz => kPr_of (z3 z hz).1
        refine ⟨a, ws, kPr H, rfl, SqL.of h1, fun x hx => ?_, fun ys p hs hp hn => ?_⟩
        · rw [z2] at hx
          obtain ⟨z, hz, rfl⟩ := List.mem_map.mp hx
          exact ⟨z.1, rfl, by rw [ek z hz]; exact (z3 z hz).1⟩
        · have hpm := hp.perm
          have eps : ws.map (kPr H) = ps := by
            rw [z2, List.map_map, ← z1]
            exact List.map_congr_left fun z hz => ek z hz
          have es : ys.map (kPr H) = srtP ps := by
            refine upP_unique ((hpm.map (kPr H)).trans ?_) (List.pairwise_map.mpr (hs.imp fun {u w} y => leP_lexB.mp y)) (srtP_up ps)
            rw [eps]
            exact (srtP_perm ps).symm
          rw [← es] at q
          have hys : ∀ y ∈ ys, ∃ z ∈ zs, y = V.ref z.1 := fun y hy => by
            have := hpm.mem_iff.mp hy
            rw [z2] at this
            obtain ⟨z, hz, e⟩ := List.mem_map.mp this
            exact ⟨z, hz, e.symm⟩
          have rep : ∀ (ys : List V) (l : VL.Loc) (i : Nat), (∀ y ∈ ys, ∃ z ∈ zs, y = V.ref z.1) → Reps G ow' H ((ys.map (kPr H)).map pairD) l i ys := fun ys => by
            induction ys with
            | nil => exact fun _ _ _ => rfl
            | cons y ys ih =>
              intro l i hy
              obtain ⟨z, hz, e⟩ := hy y List.mem_cons_self
              refine ⟨_, _, rfl, ?_, ih l (i + 1) fun w hw => hy w (List.mem_cons_of_mem _ hw)⟩
              subst e
              rw [ek z hz]
              exact ⟨z.1, _, rfl, (z3 z hz).1, (z3 z hz).2, _, _, rfl, rfl, _, _, rfl, rfl, rfl⟩
          exact S'.made (l := ⟨.fo, []⟩) (i := 0) (frzs_pairs _) (rep ys _ _ hys) q p hn
      · exact q.elim
    · exact q.elim
  · exact q.elim
end
theorem sortedP_ok {fa : Ev} {r r1 : Rho} {o : Bool} {ps : List (Int × Int)} (h : fa r = .ok (.val (.node .lst o (ps.map pairD))) r1) : cB gSortedP (cCons fa cNil) r = .ok (.val (.node .lst true ((srtP ps).map pairD))) r1 := by
  rw [q_B, q_cons, h]
  show (match prsOf (ps.map pairD) with | some ps => EO.ok (.val (.node .lst true ((srtP ps).map pairD))) r1 | none => .bad) = _
  rw [prsOf_map]
section
variable {X : Cx} {G : GX} {C C' : Fc} {W : WX} {ow ow' : Ow} {r : Rho} {T T1 T2 : List (D × V)} {s : L2.St} {H H' : Hp} {fa fk : Ev}
def cAsgPP (is js : List Nat) (fa : Ev) : Sv := fun r => (cSet fa r).st fun x r1 => match x with
  | .val (.node .lst _ [.node .tup _ ds1, .node .tup _ ds2]) => if is.length = ds1.length ∧ js.length = ds2.length then .nx (setAll (setAll r1 is ds1) js ds2) else .bad
  | _ => .bad
def tVGP (G : GX) (C : Fc) (is js : List Nat) : TGs := fun vs s H Q => ∃ r T o1 ds1 o2 ds2 v w, vs = [v, w] ∧ is.length = ds1.length ∧ js.length = ds2.length ∧ StOk G C r (T ++ [(.node .tup o2 ds2, w), (.node .tup o1 ds1, v)]) s H ∧ ∀ s' H', StOk G C (setAll (setAll r is ds1) js ds2) T s' H' → Q s' H'
theorem vs_asgPP {es1 es2 : List Expr} {is js : List Nat} {e : Expr} {k1 k2 k : Nat} {p1 p2 tpos pos : Pos} (hc : X.calm = true) (g1 : VG X G C (.Tuple es1 k1 p1) (.tp is)) (g2 : VG X G C (.Tuple es2 k2 p2) (.tp js)) (he : VE X G C W e fa)
    (hs : swapsWithSole [.Tuple [.Tuple es1 k1 p1, .Tuple es2 k2 p2] k tpos] e pos.line X.env = pure false := by rfl) (hw : swappedStores [.Tuple [.Tuple es1 k1 p1, .Tuple es2 k2 p2] k tpos] e X.env = pure none := by rfl)
    (h1 : (assignEach [.Tuple [.Tuple es1 k1 p1, .Tuple es2 k2 p2] k tpos] X.env).map (·.2) = [assign (.Tuple [.Tuple es1 k1 p1, .Tuple es2 k2 p2] k tpos) X.env] := by rfl)
    (hq1 : (assignEach [.Tuple es1 k1 p1, .Tuple es2 k2 p2] X.env).map (·.2) = assign (.Tuple es1 k1 p1) X.env :: (assignEach [.Tuple es2 k2 p2] X.env).map (·.2) := by rfl)
    (hq2 : (assignEach [.Tuple es2 k2 p2] X.env).map (·.2) = assign (.Tuple es2 k2 p2) X.env :: (assignEach [] X.env).map (·.2) := by rfl)
    (hn : (assignEach [.Tuple es1 k1 p1, .Tuple es2 k2 p2] X.env).length = 2 := by rfl) (hst : (assignEach [.Tuple es1 k1 p1, .Tuple es2 k2 p2] X.env).findIdx? (·.1) = none := by rfl) :
    VS X G C W (.Assign [.Tuple [.Tuple es1 k1 p1, .Tuple es2 k2 p2] k tpos] e pos) (cAsgPP is js fa) := by
  have two : PGs X [.Tuple es1 k1 p1, .Tuple es2 k2 p2] (tVGP G C is js) := ⟨fun pins s σ H vs us Q I rr h0 => (pgs_cons g1 (pgs_cons g2 pgs_nil hq2) hq1).run pins s σ H vs us Q I rr (by
    obtain ⟨r, T, o1, ds1, o2, ds2, v, w, ev, l1, l2, S, h0⟩ := h0
    have S' : StOk G C r ((T ++ [(.node .tup o2 ds2, w)]) ++ [(.node .tup o1 ds1, v)]) σ H := by rw [List.append_assoc]; exact S
    refine ⟨v, [w], ev, r, T ++ [(.node .tup o2 ds2, w)], .node .tup o1 ds1, S', ?_⟩
    have e : tgt (.tp is) (.node .tup o1 ds1) r = some (setAll r is ds1) := if_pos l1
    rw [e]
    intro s' H' S1 _
    refine ⟨w, [], rfl, setAll r is ds1, T, .node .tup o2 ds2, S1, ?_⟩
    have e2 : tgt (.tp js) (.node .tup o2 ds2) (setAll r is ds1) = some (setAll (setAll r is ds1) js ds2) := if_pos l2
    rw [e2]
    exact fun s'' H'' S2 _ => ⟨rfl, h0 s'' H'' S2⟩)⟩
  refine PS.imp (ps_asg (ve_set he) (pg_unl hc two hn hst) hs hw h1) fun D s H h => ?_
  obtain ⟨r, T, S, g⟩ := h
  have g : GoesS G C W T D (cAsgPP is js fa r) := g
  refine oneS (fa := cSet fa) S g fun x v r1 H1 P g1 => ?_
  split at g1
  · rename_i o0 o1 ds1 o2 ds2
    split at g1
    · rename_i hl
      obtain ⟨ow1, S1⟩ := P.1
      obtain ⟨a, vs, ev, q1, q2, S2⟩ := StW.spread (T := T) S1
      match vs, q1, q2, S2 with
      | [v1, v2], q1, _, S2 =>
        refine ⟨a, [v1, v2], ev, SqL.of q1, rfl, r1, T, o1, ds1, o2, ds2, v1, v2, rfl, hl.1, hl.2, ?_, g1⟩
        exact StOk.swap (A := [(.node .tup o1 ds1, v1)]) (B := [(.node .tup o2 ds2, v2)]) ⟨_, S2⟩
    · exact g1.elim
  · exact g1.elim
end
end VL

namespace VL
open PySem PySem.Spec PyProof.Rows L2
section
variable {X : Cx} {G : GX} {C C' : Fc} {W : WX} {ow ow' : Ow} {r : Rho} {T T1 T2 : List (D × V)} {s : L2.St} {H H' : Hp} {fa fk : Ev}
def gSlV (x : R) (lo hi : Option Int) (r : Rho) : EO := match x with
  | .val (.node .lst true xs) => .ok (.val (.node .lst true (cutD xs lo hi))) r
  | _ => .bad
def cSlV (fa : Ev) (lo hi : Option Ev) : Ev := fun r => (fa r).bd fun x r1 => part lo r1 fun l r2 => part hi r2 fun h r3 => gSlV x l h r3
theorem zip_get {α β : Type} {xs : List α} {ys : List β} {i : Nat} {p : α × β} : (xs.zip ys)[i]? = some p ↔ xs[i]? = some p.1 ∧ ys[i]? = some p.2 := by
  rw [List.getElem?_zip_eq_some]
theorem cut_get {α : Type} {xs : List α} {a b j : Nat} {x : α} (h : ((xs.drop a).take b)[j]? = some x) : j < b ∧ xs[a + j]? = some x := by
  have hj : j < b := by
    have := (List.getElem?_eq_some_iff.mp h).1
    simp at this; omega
  rw [List.getElem?_take_of_lt hj, List.getElem?_drop] at h
  exact ⟨hj, h⟩
theorem ve_sliceV {a : Expr} {lo hi : Option Expr} {flo fhi : Option Ev} {p2 pos : Pos} (ha : VE X G C W a fa) (hl : VO X G C W lo flo) (hh : VO X G C W hi fhi) : VE X G C W (.Subscript a (.Slice lo hi none p2) pos) (cSlV fa flo fhi) := by
  obtain ⟨tl, l1, l2⟩ := hl
  obtain ⟨th, h1, h2⟩ := hh
  refine PE.imp (pe_slice (sl_list.or sl_tupA) ha l1 h1) fun s H Q h => ?_
  obtain ⟨r, T, S, g⟩ := h
  refine one S g fun x v r1 H1 P g1 => ?_
  refine l2 r1 T (pushR x v) s H1 _ _ _ P.1 g1 fun lo' r2 H2 S2 g2 => ?_
  refine h2 r2 T (pushR x v) s H2 _ _ _ S2 g2 fun hi' r3 H3 S3 g3 => ?_
  unfold gSlV at g3
  split at g3
  · rename_i xs
    obtain ⟨ow, S3⟩ := S3
    have S3 : StW G C ow r3 (T ++ [(.node .lst true xs, v)]) s H3 := S3
    obtain ⟨p, vs, ev, hH, hlen, S'⟩ := S3.spread
    subst ev
    refine .inl ⟨p, vs, rfl, SqL.of hH, fun q hq => ?_⟩
    refine g3 _ _ ⟨StOk.alloc (k := .lst) (ho := .lst (cutV vs lo' hi')) (ds := cutD xs lo' hi') (vs := cutV vs lo' hi') true ⟨permT (VL.spread ow T.length) (fun i => if i < T.length then i else if i < T.length + HT.sIx xs.length 0 lo' then i + 1000000000000 + xs.length else i - HT.sIx xs.length 0 lo'), ?_⟩ ?_ hq holds_lst (fun _ => trivial), trivial⟩
    · refine S'.perm fun j pr q => ?_
      by_cases hj : j < T.length
      · refine ⟨j, ?_, if_pos hj⟩
        rw [List.getElem?_append_left hj] at q ⊢
        exact q
      · rw [List.getElem?_append_right (by omega)] at q
        obtain ⟨q1, q2⟩ := zip_get.mp q
        unfold cutD at q1
        unfold cutV at q2
        rw [← hlen] at q2
        obtain ⟨_, q1⟩ := cut_get q1
        obtain ⟨_, q2⟩ := cut_get q2
        refine ⟨j + HT.sIx xs.length 0 lo', ?_, ?_⟩
        · rw [List.getElem?_append_right (by omega)]
          refine zip_get.mpr ⟨?_, ?_⟩
          · rw [← q1]; congr 1; omega
          · rw [← q2]; congr 1; omega
        · show (if j + _ < T.length then _ else if j + _ < T.length + _ then _ else _) = j
          rw [if_neg (by omega), if_neg (by omega)]; omega
    · unfold cutD cutV
      rw [← hlen, List.length_take, List.length_take, List.length_drop, List.length_drop, hlen]
  · exact g3.elim
end
end VL

namespace VL
open PySem PySem.Spec PyProof.Rows L2
section
variable {X : Cx} {G : GX} {C C' : Fc} {W : WX} {ow ow' : Ow} {r : Rho} {T T1 T2 : List (D × V)} {s : L2.St} {H H' : Hp} {fa fb fc fk fv : Ev} {fs : Av} {f g : Sv}
def augIK (i : Nat) (c : Int) (f : Int → Int → Int) (y : R) (r1 : Rho) : SO := match opd r1 y, r1[i]? with
  | some (.int k), some (some (.node .lst true ds)) => (match ixN ds.length k with
    | some j => (match ds[j]? with
      | some (.int n) => .nx (r1.set i (some (.node .lst true (ds.set j (.int (f n c))))))
      | _ => .bad)
    | none => .bad)
  | _, _ => .bad
def putP (q : List L2.Key × List D) (p : L2.Key × D) : List L2.Key × List D := match dix q.1 p.1 with
  | some j => (q.1, q.2.set j p.2)
  | none => (q.1 ++ [p.1], q.2 ++ [p.2])
structure DOk (q : List L2.Key × List D) : Prop where
  nd : q.1.Nodup
  ln : q.1.length = q.2.length
  sc : q.2.all scal = true
theorem all_set {xs : List D} {d : D} {j : Nat} (h : xs.all scal = true) (hd : scal d = true) : (xs.set j d).all scal = true := by
  rw [List.all_eq_true] at *
  intro x hx
  rcases List.mem_or_eq_of_mem_set hx with z | z
  · exact h x z
  · rw [z]; exact hd
theorem DOk.put {q : List L2.Key × List D} {k : L2.Key} {d : D} (h : DOk q) (hd : scal d = true) : DOk (putP q (k, d)) ∧ putK (q.1.zip (q.2.map scV)) k (scV d) = (putP q (k, d)).1.zip ((putP q (k, d)).2.map scV) := by
  have hl : q.1.length = (q.2.map scV).length := by rw [List.length_map]; exact h.ln
  unfold putP
  cases e : dix q.1 k with
  | some j =>
    refine ⟨⟨h.nd, by show q.1.length = (q.2.set j d).length; rw [List.length_set]; exact h.ln, all_set h.sc hd⟩, ?_⟩
    rw [put_some hl h.nd e]
    show _ = q.1.zip ((q.2.set j d).map scV)
    rw [List.map_set]
  | none =>
    refine ⟨⟨?_, by show (q.1 ++ [k]).length = (q.2 ++ [d]).length; simp [h.ln], ?_⟩, ?_⟩
    · show (q.1 ++ [k]).Nodup
      rw [List.nodup_append]
      refine ⟨h.nd, by simp, fun a ha b hb e2 => ?_⟩
      rw [List.mem_singleton.mp hb] at e2
      exact dix_none.mp e (e2 ▸ ha)
    · show (q.2 ++ [d]).all scal = true
      rw [List.all_append, h.sc]
      simp [hd]
    · rw [put_none hl e]
      show _ = (q.1 ++ [k]).zip ((q.2 ++ [d]).map scV)
      rw [List.map_append]
      rfl
end
end VL

namespace VL
open PySem PySem.Spec PyProof.Rows L2
theorem intsAre_eq : ∀ {vs : List Value} {ns ms : List Int}, IntsAre vs ns → IntsAre vs ms → ns = ms
  | _, _, _, .nil, .nil => rfl
  | _, _, _, .cons n t r, .cons _ _ r2 => by rw [intsAre_eq r r2]
section
variable {prog : Program} {w : World} {A : Around} {E : Value → Shared → Prop} {s : Shared}
theorem eq_il {v u : Value} {ns ms : List Int} (hu : A.units < cLine) (hv : IsIl s.heap v ns) (hw : IsIl s.heap u ms) : PySem.SeqAt.EqAt A s v u (decide (ns = ms)) := by
  obtain ⟨a, items, n, rfl, ga, ia⟩ := hv
  obtain ⟨b, items2, n2, rfl, gb, ib⟩ := hw
  by_cases hab : a = b
  · subst hab
    have e : items = items2 := by
      rw [ga] at gb
      have := Option.some.inj gb
      unfold seqObj at this
      injection this with _ _ q
      injection q with q
      exact congrArg Array.toList q
    subst e
    rw [decide_eq_true (intsAre_eq ia ib)]
    exact PySem.SeqAt.EqAt.same _
  · have la : s.heap.IsList a items.toArray := ⟨_, ga, rfl, n, rfl⟩
    have lb : s.heap.IsList b items2.toArray := ⟨_, gb, rfl, n2, rfl⟩
    have l1 := ia.length
    have l2 := ib.length
    refine PySem.SeqAt.EqAt.of_refs hab ?_
    by_cases hl : items.length = items2.length
    · have r := PySem.SeqAt.RcAt.lists (A := A) (s := s) (e := fun j => decide (ns.getD j 0 = ms.getD j 0)) la lb (by simpa using hl) hu (fun j h1 h2 => by
        obtain ⟨t, e1⟩ := ints_get ia (j := j) (v := items.toArray[j]) (by rw [List.getElem_toArray]; exact List.getElem?_eq_getElem _)
        obtain ⟨t2, e2⟩ := ints_get ib (j := j) (v := items2.toArray[j]) (by rw [List.getElem_toArray]; exact List.getElem?_eq_getElem _)
        rw [e1, e2]
        exact PySem.SeqAt.EqAt.int_int _ t _ t2)
      have e : (List.range items.toArray.size).all (fun j => decide (ns.getD j 0 = ms.getD j 0)) = decide (ns = ms) := by
        rw [List.size_toArray, l1]
        by_cases hn : ns = ms
        · subst hn
          rw [decide_eq_true rfl, List.all_eq_true]
          intro j _
          exact decide_eq_true rfl
        · rw [decide_eq_false hn, List.all_eq_false]
          refine Classical.byContradiction fun hc => hn ?_
          refine List.ext_getElem (by omega) fun j h1 h2 => ?_
          refine Classical.byContradiction fun hj => hc ⟨j, List.mem_range.mpr h1, ?_⟩
          simp only [List.getD_eq_getElem?_getD, List.getElem?_eq_getElem h1, List.getElem?_eq_getElem h2, Option.getD_some, decide_eq_true_eq]
          exact hj
      rw [e] at r
      exact r
    · have r := PySem.SeqAt.RcAt.lists_lengths (A := A) (s := s) la lb (by simpa using hl) hu
      rw [decide_eq_false (fun e : ns = ms => hl (by rw [l1, l2, e]))]
      exact r
end
section
variable {X : Cx} {G : GX} {C : Fc} {W : WX} {ow ow' : Ow} {r : Rho} {T T1 T2 : List (D × V)} {s : L2.St} {H H' : Hp}
end
end VL

namespace VL
open PySem PySem.Spec PyProof.Rows L2
section
variable {X : Cx} {G : GX} {C C' : Fc} {W : WX} {ow ow' : Ow} {r : Rho} {T T1 T2 : List (D × V)} {s : L2.St} {H H' : Hp} {fa fb fc fk : Ev} {fs : Av} {f g : Sv} {i j n : Nat}
def cRvs (i : Nat) : Ev := fun r => match r[i]? with
  | some (some (.node .lst true ds)) => .ok (.val .non) ((r.set i (some (.node .lst true (frzs ds)))).set i (some (.node .lst true (frzs ds).reverse)))
  | _ => .bad
def HbOk (G : GX) (C : Fc) (i j n : Nat) (r : Rho) (T : List (D × V)) (s : L2.St) (H : Hp) : Prop :=
  StOk G C r T s H ∧ ∃ (a : Addr) (vs : List V) (v : V), s[i]? = some (some (.ref a)) ∧ H a = some (.lst vs) ∧ vs[n]? = some v ∧ s[j]? = some (some v)
def GoesB (G : GX) (C : Fc) (T : List (D × V)) (D : Ends) (i j n : Nat) (o : SO) : Prop := match o with
  | .nx r' => ∀ s' H', HbOk G C i j n r' T s' H' → D.nx s' H'
  | _ => False
def tVB (G : GX) (C : Fc) (i j n : Nat) (f : Sv) : TS := fun D s H => ∃ r T, HbOk G C i j n r T s H ∧ GoesB G C T D i j n (f r)
abbrev VB (X : Cx) (G : GX) (C : Fc) (i j : Nat) (st : Stmt) (f : Sv) : Prop := ∀ n, PS X st (tVB G C i j n f)
def cAppH (i : Nat) (fa : Ev) : Sv := fun r => match r[i]? with
  | some (some (.node .lst true ds)) => (match cSet fa (r.set i (some .any)) with
    | .ok (.val d) r2 => if ds.length < 16777216 then .nx (r2.set i (some (.node .lst true (ds ++ [d])))) else .bad
    | _ => .bad)
  | _ => .bad
theorem vb_app {x : Str} {e : Expr} {p apos cpos pos : Pos} (hN : X.N[i]? = some x) (hv : Vis X.env.scope x) (hd : (x == ("__debug__" : Str)) = false) (hcd : (x == ("__classdict__" : Str)) = false)
    (ha : ∀ C' : Fc, (∃ u v, C'.pin = (i, v) :: (i, u) :: C.pin) → VE X G C' W e fa)
    (hbase : attributeBase (.Name x p) "append" X.env (eval (.Name x p) X.env) = eval (.Name x p) X.env := by rfl)
    (hfew : ((backTo cpos (starEach [e] X.env)).all (fun x => !x.1) && (backToKw cpos (keywordEach [] X.env)).all (fun x => x.1.isSome)
      && decide ([e].length + ([] : List Keyword).length + (if ([] : List Keyword).isEmpty then 0 else 1) < 30)) = true := by rfl)
    (hline : (apos.endLine == cpos.line) = true := by rfl) (hs : starEach [e] X.env = (false, eval e X.env) :: starEach [] X.env := by rfl) (hplain : (backTo cpos (starEach [] X.env)).any (·.1) = false := by rfl)
    (hsw : swapsWith (.Call (.Attribute (.Name x p) "append" apos) [e] [] cpos) none pos.line X.env = pure false := by rfl) :
    VB X G C i j (.Expr (.Call (.Attribute (.Name x p) "append" apos) [e] [] cpos) pos) (cAppH i fa) := fun n => by
  have he : PE X e (fun s H Q => ∃ C' : Fc, (∃ u v, C'.pin = (i, v) :: (i, u) :: C.pin) ∧ tV G C' W (cSet fa) s H Q) := ⟨fun pins s σ H Q I w => by
    obtain ⟨C', e', w⟩ := w
    exact (ve_set (ha C' e')).run pins s σ H Q I w⟩
  refine PS.imp (ps_expr (pe_bm PySem.F.plainAttrs_list PySem.F.slot_list_append PySem.F.type_list_append mt_append (pe_var hN hv hd hcd) (pa_cons he pa_nil hs) hbase hfew hline hs hplain) hsw) fun D s H h => ?_
  obtain ⟨r, T, ⟨S, a, vs, v, v1, hA, hn, hj⟩, g⟩ := h
  unfold cAppH at g
  split at g
  · rename_i ds q
    obtain ⟨ow, S0⟩ := S
    have hkr : isR Kd.lst ≠ true := fun z => nomatch z
    have hH : Holds G H a .lst vs := hA
    have one : ∀ {H : Hp} {us : List V}, Holds G H a .lst vs → Holds G H a .lst us → us = vs := fun {H us} h1 h2 => by
      have h1 : H a = some (.lst vs) := h1
      have h2 : H a = some (.lst us) := h2
      rw [h1] at h2
      injection h2 with h2; injection h2 with h2; exact h2.symm
    have S3 := S0.lend v1 v1
    refine ⟨_, v1, .inl ⟨rfl, vs, SqL.of hA⟩, _, ⟨_, _, rfl⟩, r.set i (some .any), T, ⟨_, S3⟩, ?_⟩
    cases e3 : cSet fa (r.set i (some .any)) with
    | bad => simp only [e3] at g; exact g.elim
    | exc c r2 => simp only [e3] at g; exact g.elim
    | ok x r2 =>
      simp only [e3] at g
      cases x with
      | loc l => exact g.elim
      | val dv =>
        simp only at g
        split at g
        · rename_i hz
          intro v' H4 P4
          obtain ⟨⟨ow4, S4⟩, _⟩ := P4
          obtain ⟨S5, hA5, s5⟩ := S0.unlend0 q hkr v1 hH (fun us h => one hH h) S4
          have S5 : StW G C (unl0 ow ow4 i) (r2.set i (some (.node .lst true ds))) (T ++ [(dv, v')]) s H4 := by simpa [pushR] using S5
          have hA5 : H4 a = some (.lst vs) := hA5
          have hil2 : i < r2.length := by
            have := S5.len
            have h2 := (List.getElem?_eq_some_iff.mp v1).1
            simp at this; omega
          obtain ⟨vs', w1, w2, S6⟩ := StW.into S5 (List.getElem?_set_self hil2) v1 (.inr ⟨rfl, rfl⟩)
          have ev : vs' = vs := by
            rw [hA5] at w1
            injection w1 with w1; injection w1 with w1; exact w1.symm
          subst ev
          rw [if_neg (Nat.lt_irrefl _), List.set_set] at S6
          refine ⟨a, vs', v', rfl, rfl, hA5, by rw [w2, sizeLine_eq]; exact hz, ?_⟩
          refine g s _ ⟨⟨_, S6⟩, a, _, v, v1, upd_same, ?_, hj⟩
          rw [List.getElem?_append_left (List.getElem?_eq_some_iff.mp hn).1]
          exact hn
        · exact g.elim
  · exact g.elim
theorem HbOk.fin {ds2 : List D} {d2 : D} (h : HbOk G C i j n r T s H) (hij : i ≠ j) (q : r[i]? = some (some (.node .lst true ds2))) (q2 : r[j]? = some (some d2)) : StOk G C ((r.set j (some .any)).set i (some (.node .lst true (ds2.set n d2)))) T s H := by
  obtain ⟨⟨ow, S⟩, a, vs, v, v1, hA, hn, hj⟩ := h
  obtain ⟨v', z1, S2⟩ := S.pull q2
  rw [hj] at z1
  cases z1
  exact ⟨_, S2.giveBack (k := .lst) (o := true) (by rw [List.getElem?_set_ne (Ne.symm hij)]; exact q) v1 (fun z => nomatch z) hA hn (fun us h2 => by
    have h2 : H a = some (.lst us) := h2
    rw [hA] at h2
    injection h2 with h2; injection h2 with h2; exact h2.symm)⟩
end
end VL

namespace VL
open PySem PySem.Spec PyProof.Rows L2
section
variable {X : Cx} {G : GX} {C C' : Fc} {W : WX} {ow ow' : Ow} {r : Rho} {T T1 T2 : List (D × V)} {s : L2.St} {H H' : Hp} {fa fb fc fk fo : Ev} {fs : Av} {f g : Sv} {i j n : Nat}
end
end VL

namespace VL
open PySem PySem.Spec PyProof.Rows L2
section
variable {X : Cx} {G : GX} {C : Fc} {W : WX} {ow ow' : Ow} {r : Rho} {T T1 T2 : List (D × V)} {s : L2.St} {H H' : Hp} {fa fb fc fk : Ev} {f g : Sv} {fs : Av}
def okT (ks : List (List L2.Key)) : Prop := ks.Nodup ∧ ks.length < 16777216
instance (ks : List (List L2.Key)) : Decidable (okT ks) := by unfold okT; exact inferInstance
end
end VL

namespace VL
open PySem PySem.Spec PyProof.Rows L2
abbrev T3 := Int × Int × Int
section
variable {prog : Program} {w : World} {A : Around}
end
end VL

namespace VL
open PySem PySem.Spec PyProof.Rows L2
section
variable {X : Cx} {G : GX} {C C' : Fc} {W : WX} {ow ow' : Ow} {r : Rho} {T T1 T2 : List (D × V)} {s : L2.St} {H H' : Hp} {fa fk : Ev}
mutual
theorem Rep.unlkT {G : GX} {H H' : Hp} {ow ow' : Ow} {a : Addr} {od : Obj} {kvs : List ((List L2.Key) × V)} (hne : ∀ b, b ≠ a → H' b = H b) (how : ∀ b, b ≠ a → ow' b = ow b) (ha : H a = some (.frz od (.dT kvs))) : ∀ (d : D) {l : Loc} {v : V}, Rep G ow H d l v → Rep G ow' H' d l v
  | .any, _, _, _ => trivial
  | .non, _, _, h => h
  | .bl _, _, _, h => h
  | .int _, _, _, h => h
  | .str _, _, _, h => h
  | .exc c, _, _, h => by
    obtain ⟨b, e, q⟩ := h
    have nb : b ≠ a := fun z => by subst z; rw [ha] at q; cases q
    exact ⟨b, e, by rw [hne b nb]; exact q⟩
  | .ty _, _, _, h => h
  | .cls _, _, _, h => h
  | .node k o xs, l, v, h => by
    obtain ⟨b, vs, ev, h1, h2, h3⟩ := h
    have h3' := Reps.unlkT hne how ha xs h3
    cases k with
    | lst =>
      have h1 : H b = some (.lst vs) := h1
      have nb : b ≠ a := fun z => by subst z; rw [ha] at h1; cases h1
      exact ⟨b, vs, ev, (hne b nb).trans h1, by rw [how b nb]; exact h2, h3'⟩
    | tup =>
      have h1 : H b = some (.tup vs) := h1
      have nb : b ≠ a := fun z => by subst z; rw [ha] at h1; cases h1
      exact ⟨b, vs, ev, (hne b nb).trans h1, by rw [how b nb]; exact h2, h3'⟩
    | rd =>
      refine ⟨b, vs, ev, ?_, trivial, h3'⟩
      rcases h1 with ⟨o2, h1⟩ | h1
      · have nb : b ≠ a := fun z => by subst z; rw [ha] at h1; cases h1
        exact .inl ⟨o2, (hne b nb).trans h1⟩
      · exact .inr h1
    | dK ks =>
      obtain ⟨h1, h4⟩ : H b = some (.dK (ks.zip vs)) ∧ ks.length = vs.length := h1
      have nb : b ≠ a := fun z => by subst z; rw [ha] at h1; cases h1
      exact ⟨b, vs, ev, ⟨(hne b nb).trans h1, h4⟩, by rw [how b nb]; exact h2, h3'⟩
    | dT ks =>
      obtain ⟨h1, h4⟩ : H b = some (.dT (ks.zip vs)) ∧ ks.length = vs.length := h1
      have nb : b ≠ a := fun z => by subst z; rw [ha] at h1; cases h1
      exact ⟨b, vs, ev, ⟨(hne b nb).trans h1, h4⟩, by rw [how b nb]; exact h2, h3'⟩
    | ins c fs =>
      obtain ⟨⟨dx, h1⟩, h4⟩ : (∃ dx, H b = some (.ins (G c) dx (fs.zip vs))) ∧ fs.length = vs.length := h1
      have nb : b ≠ a := fun z => by subst z; rw [ha] at h1; cases h1
      exact ⟨b, vs, ev, ⟨⟨dx, (hne b nb).trans h1⟩, h4⟩, by rw [how b nb]; exact h2, h3'⟩
theorem Reps.unlkT {G : GX} {H H' : Hp} {ow ow' : Ow} {a : Addr} {od : Obj} {kvs : List ((List L2.Key) × V)} (hne : ∀ b, b ≠ a → H' b = H b) (how : ∀ b, b ≠ a → ow' b = ow b) (ha : H a = some (.frz od (.dT kvs))) : ∀ (ds : List D) {l : Loc} {i : Nat} {vs : List V}, Reps G ow H ds l i vs → Reps G ow' H' ds l i vs
  | [], _, _, _, h => h
  | d :: ds, _, _, _, h => by
    obtain ⟨v, ws, e, h1, h2⟩ := h
    exact ⟨v, ws, e, Rep.unlkT hne how ha d h1, Reps.unlkT hne how ha ds h2⟩
end
end
end VL

namespace VL
open PySem PySem.Spec PyProof.Rows L2
theorem lex_irr (x : List Int) : HT.lexLt x x = false := by
  induction x with
  | nil => rfl
  | cons a x ih => rw [HT.lexLt_cons, if_pos rfl, ih]
abbrev NK := Int × List Int
def ltN (p q : NK) : Bool := if p.1 = q.1 then HT.lexLt p.2 q.2 else decide (p.1 < q.1)
theorem ltN_asym {x y : NK} (h : ltN x y = true) : ltN y x = false := by
  unfold ltN at *
  by_cases e : x.1 = y.1
  · rw [if_pos e] at h
    rw [if_pos e.symm]
    exact NtL.lex_asym _ _ h
  · rw [if_neg e, decide_eq_true_eq] at h
    rw [if_neg (Ne.symm e), decide_eq_false_iff_not]
    omega
theorem ltN_tr {x y z : NK} (h1 : ltN y x = false) (h2 : ltN z y = false) : ltN z x = false := by
  unfold ltN at *
  by_cases e : y.1 = x.1
  · rw [if_pos e] at h1
    by_cases e2 : z.1 = y.1
    · rw [if_pos e2] at h2
      rw [if_pos (e2.trans e)]
      exact NtL.lex_tr _ _ _ h1 h2
    · rw [if_neg e2, decide_eq_false_iff_not] at h2
      rw [if_neg (fun q => e2 (q.trans e.symm)), decide_eq_false_iff_not]
      omega
  · rw [if_neg e, decide_eq_false_iff_not] at h1
    by_cases e2 : z.1 = y.1
    · rw [if_neg (fun q => e (e2.symm.trans q)), decide_eq_false_iff_not]
      omega
    · rw [if_neg e2, decide_eq_false_iff_not] at h2
      rw [if_neg (fun q => by omega), decide_eq_false_iff_not]
      omega
theorem swo_ltN {α : Type} (k : α → NK) : SrtO.Swo (fun v u : α => ltN (k v) (k u)) := ⟨fun _ _ h => ltN_asym h, fun _ _ _ h1 h2 => ltN_tr h1 h2⟩
theorem ltN_eq {x y : NK} (h1 : ltN x y = false) (h2 : ltN y x = false) : x = y := by
  unfold ltN at *
  by_cases e : x.1 = y.1
  · rw [if_pos e] at h1
    rw [if_pos e.symm] at h2
    exact Prod.ext e (lex_eq h1 h2)
  · rw [if_neg e, decide_eq_false_iff_not] at h1
    rw [if_neg (Ne.symm e), decide_eq_false_iff_not] at h2
    omega
def insN (x : NK) : List NK → List NK
  | [] => [x]
  | y :: ys => if ltN y x = false then x :: y :: ys else y :: insN x ys
def srtN : List NK → List NK
  | [] => []
  | x :: xs => insN x (srtN xs)
abbrev UpN (xs : List NK) : Prop := xs.Pairwise fun p q => ltN q p = false
theorem insN_perm (x : NK) : ∀ ys : List NK, (insN x ys).Perm (x :: ys)
  | [] => List.Perm.refl _
  | y :: ys => by
    unfold insN
    split
    · exact List.Perm.refl _
    · exact ((insN_perm x ys).cons y).trans (List.Perm.swap x y ys)
theorem srtN_perm : ∀ xs : List NK, (srtN xs).Perm xs
  | [] => List.Perm.refl _
  | x :: xs => (insN_perm x (srtN xs)).trans ((srtN_perm xs).cons x)
theorem insN_up (x : NK) : ∀ ys : List NK, UpN ys → UpN (insN x ys)
  | [], _ => by simp [insN, UpN]
  | y :: ys, h => by
    unfold insN
    have h1 := List.pairwise_cons.mp h
    split
    · rename_i hx
      refine List.pairwise_cons.mpr ⟨fun z hz => ?_, h⟩
      rcases List.mem_cons.mp hz with e | e
      · rw [e]; exact hx
      · exact ltN_tr hx (h1.1 z e)
    · rename_i hx
      rw [Bool.not_eq_false] at hx
      refine List.pairwise_cons.mpr ⟨fun z hz => ?_, insN_up x ys h1.2⟩
      rcases List.mem_cons.mp ((insN_perm x ys).mem_iff.mp hz) with e | e
      · rw [e]; exact ltN_asym hx
      · exact h1.1 z e
theorem srtN_up : ∀ xs : List NK, UpN (srtN xs)
  | [] => List.Pairwise.nil
  | x :: xs => insN_up x _ (srtN_up xs)
theorem upN_unique : ∀ {xs ys : List NK}, xs.Perm ys → UpN xs → UpN ys → xs = ys
  | [], ys, p, _, _ => by rw [List.nil_perm.mp p]
  | x :: xs, [], p, _, _ => by have := p.length_eq; simp at this
  | x :: xs, y :: ys, p, h1, h2 => by
    have h1' := List.pairwise_cons.mp h1
    have h2' := List.pairwise_cons.mp h2
    have e1 : x = y ∨ ltN y x = false := by
      rcases List.mem_cons.mp (p.mem_iff.mpr (List.mem_cons_self : y ∈ y :: ys)) with e | e
      · exact .inl e.symm
      · exact .inr (h1'.1 y e)
    have e2 : x = y ∨ ltN x y = false := by
      rcases List.mem_cons.mp (p.mem_iff.mp (List.mem_cons_self : x ∈ x :: xs)) with e | e
      · exact .inl e
      · exact .inr (h2'.1 x e)
    have e : x = y := by
      rcases e1 with e | e1
      · exact e
      · rcases e2 with e | e2
        · exact e
        · exact ltN_eq e2 e1
    subst e
    rw [upN_unique ((List.perm_cons x).mp p) h1'.2 h2'.2]
def IsNl (h : Heap) (v : Value) (p : NK) : Prop := ∃ (a : Addr) (o : Obj) (u : Value) (t : Tok) (n : Nat), v = .ref a ∧ h.get? a = some o ∧ o.cls = .type "tuple" ∧ o.data = .seq #[.int p.1 t, u] n ∧ IsIl h u p.2
theorem IsNl.keeps {h h' : Heap} {v : Value} {p : NK} (x : IsNl h v p) (k : ∀ b o, h.get? b = some o → (o.cls = .type "tuple" ∨ ∃ ns, IsIl h (.ref b) ns) → h'.get? b = some o) : IsNl h' v p := by
  obtain ⟨a, o, u, t, n, e, ho, hc, hd, hi⟩ := x
  refine ⟨a, o, u, t, n, e, k _ _ ho (.inl hc), hc, hd, hi.keeps fun b o' e' g => k b o' g (.inr ⟨_, e' ▸ hi⟩)⟩
section
variable {prog : Program} {w : World} {A : Around} {E : Value → Shared → Prop} {s : Shared}
theorem ltc_il {v u : Value} {ns ms : List Int} {Q : Bool → Shared → Prop} {E : Value → Shared → Prop} (hu : A.units < cLine) (hv : IsIl s.heap v ns) (hw : IsIl s.heap u ms) (h : Q (HT.lexLt ns ms) s) : wpAny (model prog w) A (compareOp .Lt v u) (PySem.W.BoolBack Q) E s := by
  obtain ⟨a, items, n, rfl, ga, ia⟩ := hv
  obtain ⟨b, items2, n2, rfl, gb, ib⟩ := hw
  have la : s.heap.IsList a items.toArray := ⟨_, ga, rfl, n, rfl⟩
  have lb : s.heap.IsList b items2.toArray := ⟨_, gb, rfl, n2, rfl⟩
  have l1 := ia.length
  have l2 := ib.length
  have el := first_lex ns ms 0 (fun j => decide (ns.getD j 0 = ms.getD j 0)) (fun j => decide (ns.getD j 0 < ms.getD j 0)) (fun j => by rw [Nat.zero_add]; exact ⟨rfl, rfl⟩)
  have z := PySem.SeqAt.RcLt.lists (A := A) (s := s) (e := fun j => decide (ns.getD j 0 = ms.getD j 0)) (r := fun j => decide (ns.getD j 0 < ms.getD j 0)) la lb hu (fun j h1 h2 => by
      obtain ⟨t, e1⟩ := ints_get ia (j := j) (v := items.toArray[j]) (by rw [List.getElem_toArray]; exact List.getElem?_eq_getElem _)
      obtain ⟨t2, e2⟩ := ints_get ib (j := j) (v := items2.toArray[j]) (by rw [List.getElem_toArray]; exact List.getElem?_eq_getElem _)
      rw [e1, e2]
      exact PySem.SeqAt.EqAt.int_int _ t _ t2) (fun j h1 h2 _ => by
      obtain ⟨t, e1⟩ := ints_get ia (j := j) (v := items.toArray[j]) (by rw [List.getElem_toArray]; exact List.getElem?_eq_getElem _)
      obtain ⟨t2, e2⟩ := ints_get ib (j := j) (v := items2.toArray[j]) (by rw [List.getElem_toArray]; exact List.getElem?_eq_getElem _)
      rw [e1, e2]
      exact fun prog w E Q h => HT.rcLt_int _ _ _ t _ t2 prog w E Q h)
  rw [List.size_toArray, List.size_toArray, l1, l2, List.range_eq_range', el] at z
  exact z prog w E _ h
theorem nl_cmp {vs : List Value} {k : Value → NK} (hu : A.units < cLine) (hp : ∀ v ∈ vs, IsNl s.heap v (k v)) : SrtO.Cmp prog w A s (tuples' true) (fun p => p.1 ∈ vs) (SrtO.lt2 fun v u => ltN (k v) (k u)) := by
  intro p q hm hm'
  have h1 := hp _ hm
  have h2 := hp _ hm'
  show wpAny (model prog w) A (keyLt' (tuples' true) p.1 q.1) (fun r s' => s' = s ∧ r = ltN (k p.1) (k q.1)) (fun _ _ => False) s
  unfold ltN
  generalize k p.1 = x at h1 ⊢
  generalize k q.1 = y at h2 ⊢
  obtain ⟨a, o, u, t, n, e, ho, hc, hd, hi⟩ := h1
  obtain ⟨a', o', u', t', n', e', ho', hc', hd', hi'⟩ := h2
  rw [e, e']
  refine PySem.W.kat_lt ho hd ho' hd' ?_
  show PySem.W.KatLex prog w A true (decide (2 < 2)) _ [(.int x.1 t, .int y.1 t'), (u, u')] 0 s
  refine PySem.W.kat_cons (SeqAt.EqAt.int_int x.1 t y.1 t' prog w _ _ ?_)
  refine PySem.W.kat_go (fun e1 => ?_) (fun e1 => ?_)
  · have ex : x.1 = y.1 := by simpa using e1
    refine PySem.W.kat_yes (PySem.W.kat_cons (eq_il hu hi hi' prog w _ _ ?_))
    refine PySem.W.kat_go (fun e2 => ?_) (fun e2 => ?_)
    · have ey : x.2 = y.2 := of_decide_eq_true e2
      refine PySem.W.kat_yes (PySem.W.kat_nil ⟨rfl, ?_⟩)
      rw [if_pos ex, ey]
      exact (lex_irr _).symm
    · have e3 : (if x.1 = y.1 then HT.lexLt x.2 y.2 else decide (x.1 < y.1)) = HT.lexLt x.2 y.2 := if_pos ex
      refine PySem.W.kat_no (PySem.W.kat_one _ _ ?_)
      exact ltc_il (Q := fun r s' => s' = s ∧ r = (if x.1 = y.1 then HT.lexLt x.2 y.2 else decide (x.1 < y.1))) (E := fun _ _ => False) hu hi hi' ⟨rfl, e3.symm⟩
  · have ex : ¬ x.1 = y.1 := by simpa using e1
    have e3 : (if x.1 = y.1 then HT.lexLt x.2 y.2 else decide (x.1 < y.1)) = decide (x.1 < y.1) := if_neg ex
    exact PySem.W.kat_no (oneLt_int ⟨rfl, e3.symm⟩)
theorem nl_firsts {h : Heap} : ∀ {vs : List Value}, (∀ v ∈ vs, ∃ p, IsNl h v p) → ∃ fs : List Value, PySem.W.KatTups h vs fs ∧ fs.length = vs.length ∧ ∀ f ∈ fs, ∃ x t, f = Value.int x t
  | [], _ => ⟨[], PySem.W.KatTups.nil, rfl, fun _ hm => by simp at hm⟩
  | v :: vs, hp => by
    obtain ⟨fs, h1, h2, h3⟩ := nl_firsts (vs := vs) fun v' hm => hp v' (List.mem_cons_of_mem _ hm)
    obtain ⟨p, a, o, u, t, n, e, ho, hc, hd, hi⟩ := hp v List.mem_cons_self
    subst e
    refine ⟨.int p.1 t :: fs, PySem.W.KatTups.cons ho hc hd rfl h1, by rw [List.length_cons, List.length_cons, h2], fun f hm => ?_⟩
    rcases List.mem_cons.mp hm with rfl | hm
    · exact ⟨_, _, rfl⟩
    · exact h3 f hm
theorem nl_sortable {a : Addr} {vs : List Value} {k : Value → NK} (h0 : 0 < vs.length) (hu : A.units < cLine) (hp : ∀ v ∈ vs, IsNl s.heap v (k v)) (ha : ∀ o, s.heap.get? a = some o → o.cls ≠ .type "tuple") (ha2 : ∀ v ∈ vs, ∀ b o n d, v = .ref b → s.heap.get? b = some o → o.data = .seq d n → d[1]? ≠ some (.ref a)) : SrtO.SortableO prog w A s a vs fun v u => ltN (k v) (k u) := by
  intro h' keep
  have hp' : ∀ v ∈ vs, IsNl h' v (k v) := fun v hm => by
    obtain ⟨b, o, u, t, n, e, ho, hc, hd, hi⟩ := hp v hm
    refine ⟨b, o, u, t, n, e, keep b o (fun z => by subst z; exact ha o ho hc) ho, hc, hd, hi.keeps fun b' o' e' g => keep b' o' (fun z => ?_) g⟩
    subst z
    exact ha2 v hm b o n _ e ho hd (by rw [e']; rfl)
  obtain ⟨fs, h1, h2, h3⟩ := nl_firsts fun v hm => ⟨_, hp' v hm⟩
  refine ⟨tuples' true, fun Q E hq => ?_, nl_cmp (s := { s with heap := h' }) hu hp'⟩
  refine PySem.W.kat_kind (s := { s with heap := h' }) (T := .type "int") h1 (by omega) (fun f hm => ?_) (by rfl) ?_
  · obtain ⟨x, t, rfl⟩ := h3 f hm
    exact PySem.W.Looks.now
  · have e : (Value.type "int" != Value.type "tuple") = true := by first | decide +kernel | rfl | decide
    rw [e]
    exact hq
end
def rSortedNL (K : PySem.W.Frag) : List V → Hp → VK → Prop := fun vs H Q => ∃ (a : Addr) (ts : List Addr) (k : Addr → NK) (l : Addr → Addr), vs = [.ref a] ∧ SqL K H a (ts.map V.ref) ∧ (∀ t ∈ ts, H t = some (.tup [.int (k t).1, .ref (l t)]) ∧ H (l t) = some (.lst ((k t).2.map V.int))) ∧
  ∀ (ts' : List Addr) (p : Addr), ts'.Perm ts → ts'.Pairwise (fun p q => ltN (k q) (k p) = false) → H p = none → Q (.ref p) (upd H p (.lst (ts'.map V.ref)))
theorem cr_sortedNL {X : Cx} (hu : X.A.units + 64 < cLine) : CallR X (.builtin "sorted") (rSortedNL X.K) := by
  intro pins s σ H vs us Q I r h
  obtain ⟨a, ts, k, l, rfl, hs, hN, q⟩ := h
  obtain ⟨its, rv, hl, hz⟩ := I.list hs
  rw [Vals.ref1 r]
  have ei := nts_of rv
  have hIl : ∀ t ∈ ts, IsIl s.heap (.ref (l t)) (k t).2 := fun t ht => by
    obtain ⟨_, its2, n2, rv2, hob2⟩ := I.hok (l t) _ (hN t ht).2
    exact ⟨l t, its2, n2, rfl, hob2, rv2.ints⟩
  have hv : ∀ u ∈ its, IsNl s.heap u (k (adO u)) := fun u hm => by
    rw [ei] at hm
    obtain ⟨t, ht, rfl⟩ := List.mem_map.mp hm
    obtain ⟨_, its2, r2, o, ho, hc, n, hd⟩ := I.hok t _ (hN t ht).1
    obtain ⟨u1, u2, rfl, ri, rj⟩ := vals2 r2
    obtain ⟨t2, rfl⟩ := ri
    obtain rfl : u2 = Value.ref (l t) := rj
    exact ⟨t, o, _, t2, n, rfl, ho, hc, hd, hIl t ht⟩
  have hlt : ∀ u ∈ its, ∃ t o, u = .ref t ∧ s.heap.get? t = some o := fun u hm => by
    obtain ⟨t, o, _, _, _, e, g, _⟩ := hv u hm
    exact ⟨t, o, e, g⟩
  refine SrtO.sorted_ord (swo_ltN fun u => k (adO u)) hl.isList (by rw [← rv.length]; exact hz) (fun h2 h₁ a' ha' kk => ?_) fun out h1 h2 => ?_
  · refine nl_sortable (s := { s with heap := h₁ }) (by omega) (by simp only [Around.in1_units]; omega) (fun u hm => (hv u hm).keeps fun b o g _ => (kk b o g).2) (fun o e c => ?_) fun v hm b o n d ev hg hd hc => ?_
    · have e' : some o = some (seqObj "list" its.toArray 0) := e.symm.trans ha'
      cases e'
      exact absurd (Value.type.inj c) (by decide)
    · obtain ⟨b', o', u', t', n', e1, g1, c1, d1, i1⟩ := hv v hm
      rw [ev] at e1
      have eb := Value.ref.inj e1
      subst eb
      have g2 := (kk b o' g1).2
      have eo : o' = o := Option.some.inj (g2.symm.trans hg)
      subst eo
      rw [hd] at d1
      injection d1 with d1 _
      subst d1
      have eu : u' = .ref a' := by simpa using hc
      obtain ⟨a2, i2, n2, e2, g3, _⟩ := i1
      rw [eu] at e2
      exact (kk a2 _ g3).1 (Value.ref.inj e2).symm
  · obtain ⟨ep, he'⟩ := sortedAll_at s.heap its out.toArray
    have eo : out = (out.map adO).map Value.ref := ref_map fun u hm => by
      have hm' : u ∈ its := h2.perm.mem_iff.mp hm
      rw [ei] at hm'
      obtain ⟨t, _, e⟩ := List.mem_map.mp hm'
      exact ⟨t, e.symm⟩
    have hp : (out.map adO).Perm ts := by
      have p1 := h2.perm.map adO
      rw [ei, ad_map] at p1
      exact p1
    have hs' : (out.map adO).Pairwise (fun p q => ltN (k q) (k p) = false) := List.pairwise_map.mpr (h1.imp fun {x y} z => z)
    have hlen : ((out.map adO).map V.ref).length ≤ sizeLine := by
      rw [List.length_map, hp.length_eq]
      rw [List.length_map] at hz
      exact hz
    have rvo : Vals ((out.map adO).map V.ref) out := by
      have z := of_nts (out.map adO)
      rw [← eo] at z
      exact z
    refine ⟨.ref _, _, I.laid (o := .lst ((out.map adO).map V.ref)) (t' := s.toks) (fun b u e => sortedAll_old e) (Nat.le_succ _) ⟨hlen, out, ep, rvo, he'⟩, rfl, q _ _ hp hs' (I.hok.fresh (Nat.le_succ _))⟩
def nlD (b : Bool) (p : NK) : D := .node .tup false [.int p.1, .node .lst b (p.2.map .int)]
def nlOf : D → Option NK
  | .node .tup _ [.int k, .node .lst _ ds] => (match intsOf ds with
    | some ns => some (k, ns)
    | none => none)
  | _ => none
def nlsOf : List D → Option (List NK)
  | [] => some []
  | d :: ds => match nlOf d, nlsOf ds with
    | some p, some ps => some (p :: ps)
    | _, _ => none
theorem nlsOf_map (b : Bool) : ∀ ps : List NK, nlsOf (ps.map (nlD b)) = some ps
  | [] => rfl
  | p :: ps => by
    have e : nlOf (nlD b p) = some p := by
      show (match intsOf (p.2.map D.int) with | some ns => some (p.1, ns) | none => none) = _
      rw [intsOf_map]
    show (match nlOf (nlD b p), nlsOf (ps.map (nlD b)) with | some p, some ps => some (p :: ps) | _, _ => none) = _
    rw [e, nlsOf_map b ps]
theorem frz_nl (b : Bool) (p : NK) : frz (nlD b p) = nlD false p := by
  show D.node .tup false [.int p.1, .node .lst false (frzs (p.2.map D.int))] = _
  rw [frzs_ints]; rfl
theorem frzs_nl (ps : List NK) : frzs (ps.map (nlD false)) = ps.map (nlD false) := by
  rw [frzs_map, List.map_map]
  exact List.map_congr_left fun p _ => frz_nl false p
def gSortedN : List R → Rho → EO := fun xs r => match xs with
  | [x] => (match opd r x with
    | some (.node .lst _ ds) => (match nlsOf ds with
      | some ps => .ok (.val (.node .lst true ((srtN ps).map (nlD false)))) (touch r x)
      | none => .bad)
    | _ => .bad)
  | _ => .bad
def kNl (H : Hp) (t : Addr) : NK := match H t with
  | some (.tup [.int i, .ref l]) => (i, kAt H l)
  | _ => (0, [])
def lNl (H : Hp) (t : Addr) : Addr := match H t with
  | some (.tup [_, .ref l]) => l
  | _ => 0
section
variable {X : Cx} {G : GX} {C : Fc} {W : WX} {ow ow' : Ow} {r : Rho} {T T1 T2 : List (D × V)} {s : L2.St} {H H' : Hp}
theorem nls_rep : ∀ {ds : List D} {ps : List NK} {l : VL.Loc} {i : Nat} {ws : List V}, nlsOf ds = some ps → Reps G ow H (frzs ds) l i ws → ∃ zs : List (Addr × Addr × NK), zs.map (·.2.2) = ps ∧ ws = zs.map (fun z => V.ref z.1) ∧ ∀ z ∈ zs, H z.1 = some (.tup [.int z.2.2.1, .ref z.2.1]) ∧ H z.2.1 = some (.lst (z.2.2.2.map V.int)) ∧ ow z.1 = none ∧ ow z.2.1 = none
  | [], ps, l, i, ws, e, h => by
    cases e
    exact ⟨[], rfl, h, fun z hz => by cases hz⟩
  | d :: ds, ps, l, i, ws, e, h => by
    unfold nlsOf at e
    split at e
    · rename_i p ps' e1 e2
      cases e
      unfold nlOf at e1
      split at e1
      · rename_i o k o2 xs
        split at e1
        · rename_i ns e3
          cases e1
          obtain ⟨v, ws', ev, h1, h2⟩ := h
          obtain ⟨zs, z1, z2, z3⟩ := nls_rep e2 h2
          obtain ⟨a, us, ea, hA, oA, rA⟩ := h1
          obtain ⟨v2, us1, e4, rI, rA⟩ := rA
          obtain ⟨v1, us2, e5, rL, rA⟩ := rA
          subst e4 e5
          have rA : us2 = [] := rA
          subst rA
          obtain ⟨b, ys, eb, hB, oB, rB⟩ := rL
          have hB : H b = some (.lst ys) := hB
          rw [intsOf_frzs e3] at rB
          have eu := ints_rep (intsOf_map ns) rB
          subst eu
          have rI : v2 = .int k := rI
          subst rI
          subst eb
          have hA : H a = some (.tup [.int k, .ref b]) := hA
          have oA : ow a = none := oA
          have oB : ow b = none := oB
          refine ⟨(a, b, (k, ns)) :: zs, by rw [List.map_cons, z1], by rw [ev, ea, z2]; rfl, fun z hz => ?_⟩
          rcases List.mem_cons.mp hz with e | e
          · rw [e]; exact ⟨hA, hB, oA, oB⟩
          · exact z3 z e
        · cases e1
      · cases e1
    · cases e
theorem reps_nl : ∀ (ts : List Addr) (l : VL.Loc) (i : Nat), (∀ t ∈ ts, H t = some (.tup [.int (kNl H t).1, .ref (lNl H t)]) ∧ H (lNl H t) = some (.lst ((kNl H t).2.map V.int)) ∧ ow t = none ∧ ow (lNl H t) = none) → Reps G ow H ((ts.map (kNl H)).map (nlD false)) l i (ts.map V.ref)
  | [], _, _, _ => rfl
  | t :: ts, l, i, h => by
    obtain ⟨h1, h2, h3, h4⟩ := h t List.mem_cons_self
    exact ⟨_, _, rfl, ⟨t, _, rfl, h1, h3, _, _, rfl, rfl, _, _, rfl, ⟨_, _, rfl, h2, h4, reps_ints _ _ _⟩, rfl⟩, reps_nl ts l (i + 1) fun u hu => h u (List.mem_cons_of_mem _ hu)⟩
theorem cs_sortedN (hu : X.A.units + 65 < cLine) : CallS X (.builtin "sorted") gSortedN := by
  refine ⟨_, cr_sortedNL (by omega), fun G hG C W r T s H xs vs Q S l q => ?_⟩
  unfold gSortedN at q
  split at q
  · rename_i x
    obtain ⟨v, ev, lx, ep⟩ := one_arg l
    rw [ep] at S
    subst ev
    obtain ⟨ow, S⟩ := S
    split at q
    · rename_i o ds e1
      split at q
      · rename_i ps e2
        obtain ⟨ow', a, ws, S', ea, h1, rx, _⟩ := StW.parts S lx e1
        subst ea
        obtain ⟨zs, z1, z2, z3⟩ := nls_rep e2 (rx ⟨.fo, []⟩)
        have ek : ∀ z ∈ zs, kNl H z.1 = z.2.2 ∧ lNl H z.1 = z.2.1 := fun z hz => by
          obtain ⟨h1, h2, _, _⟩ := z3 z hz
          constructor
          · unfold kNl
            rw [h1]
            show (z.2.2.1, kAt H z.2.1) = _
            rw [kAt_of h2]
          · unfold lNl
            rw [h1]
        have hN : ∀ t ∈ zs.map (·.1), H t = some (.tup [.int (kNl H t).1, .ref (lNl H t)]) ∧ H (lNl H t) = some (.lst ((kNl H t).2.map V.int)) ∧ ow' t = none ∧ ow' (lNl H t) = none := fun t ht => by
          obtain ⟨z, hz, rfl⟩ := List.mem_map.mp ht
          rw [(ek z hz).1, (ek z hz).2]
          exact z3 z hz
        have ew : ws = (zs.map (·.1)).map V.ref := by rw [z2, List.map_map]; rfl
        refine ⟨a, zs.map (·.1), kNl H, lNl H, rfl, by rw [← ew]; exact SqL.of h1, fun t ht => ⟨(hN t ht).1, (hN t ht).2.1⟩, fun ts' p hp hs hn => ?_⟩
        have es : ts'.map (kNl H) = srtN ps := by
          refine upN_unique ((hp.map (kNl H)).trans ?_) (List.pairwise_map.mpr hs) (srtN_up ps)
          have e3 : (zs.map (·.1)).map (kNl H) = ps := by
            rw [List.map_map, ← z1]
            exact List.map_congr_left fun z hz => (ek z hz).1
          rw [e3]
          exact (srtN_perm ps).symm
        rw [← es] at q
        exact S'.made (l := ⟨.fo, []⟩) (i := 0) (frzs_nl _) (reps_nl ts' _ _ fun t ht => hN t (hp.mem_iff.mp ht)) q p hn
      · exact q.elim
    · exact q.elim
  · exact q.elim
end
end VL

namespace VL
open PySem PySem.Spec PyProof PyProof.Rows L2
section
variable {prog : Program} {w : World} {A : Around} {E : Value → Shared → Prop} {s : Shared}
end
section
variable {X : Cx} {G : GX} {C : Fc} {W : WX} {ow : Ow} {r : Rho} {T : List (D × V)} {s : L2.St} {H : Hp} {fa fb : Ev}
end
section
variable {fa fb : Ev} {r r1 r2 r3 : Rho}
end
end VL

namespace VL
open PySem PySem.Spec PyProof PyProof.Rows L2
section
variable {X : Cx} {G : GX} {C : Fc} {W : WX} {ow : Ow} {r : Rho} {T : List (D × V)} {s : L2.St} {H : Hp} {fa fb : Ev}
end
end VL

namespace VL
open PySem PySem.Spec PyProof PyProof.Rows L2
section
variable {X : Cx} {G : GX} {C : Fc} {W : WX} {ow : Ow} {r : Rho} {T : List (D × V)} {s : L2.St} {H : Hp} {fa : Ev}
end
end VL

namespace VL
open PySem PySem.Spec PyProof PyProof.Rows L2
end VL

namespace VL
open PySem PySem.Spec PyProof PyProof.Rows L2
section
variable {X : Cx} {G : GX} {C : Fc} {W : WX} {ow : Ow} {r : Rho} {T : List (D × V)} {s : L2.St} {H : Hp} {fa fb : Ev}
end
end VL

namespace ZL
open PySem PySem.Spec PyProof PyProof.Rows L2
section
variable {prog : Program} {w : World} {A : Around} {E : Value → Shared → Prop} {s : Shared}
def TA (h : Heap) (base : Addr) (xs ys : Array Value) (as : List Addr) : Prop :=
  as.Pairwise (· < ·) ∧ ∀ (j : Nat) (c : Addr), as[j]? = some c → base ≤ c ∧ c < h.objs.size ∧ ∃ x y, xs[j]? = some x ∧ ys[j]? = some y ∧ IsPair h c x y
theorem TA.keep {h h' : Heap} {base : Addr} {xs ys : Array Value} {as : List Addr} (t : TA h base xs ys as) (hk : ∀ c o, base ≤ c → h.get? c = some o → h'.get? c = some o) : TA h' base xs ys as := by
  refine ⟨t.1, fun j c hj => ?_⟩
  obtain ⟨h1, h2, x, y, h3, h4, h5⟩ := t.2 j c hj
  have h6 := hk c _ h1 h5
  exact ⟨h1, Heap.lt_size h6, x, y, h3, h4, h6⟩
theorem TA.snoc {h : Heap} {base c : Addr} {xs ys : Array Value} {as : List Addr} {x y : Value} (t : TA h base xs ys as) (hb : base ≤ c) (hc : ∀ d ∈ as, d < c) (hl : c < h.objs.size) (hx : xs[as.length]? = some x) (hy : ys[as.length]? = some y) (hp : IsPair h c x y) : TA h base xs ys (as ++ [c]) := by
  refine ⟨List.pairwise_append.mpr ⟨t.1, List.pairwise_singleton _ _, fun a ha b hb => by rw [List.mem_singleton.mp hb]; exact hc a ha⟩, fun j d hj => ?_⟩
  rcases Nat.lt_or_ge j as.length with q | q
  · rw [List.getElem?_append_left q] at hj
    exact t.2 j d hj
  · rw [List.getElem?_append_right q] at hj
    have hj0 : j - as.length = 0 := by
      rcases Nat.eq_zero_or_pos (j - as.length) with e | e
      · exact e
      · rw [List.getElem?_eq_none (by simp; omega)] at hj; cases hj
    rw [hj0] at hj
    cases hj
    have ej : j = as.length := by omega
    subst ej
    exact ⟨hb, hl, x, y, hx, hy, hp⟩
end
end ZL
namespace L2
open PySem PySem.Spec PyProof PyProof.Rows ZL
section
variable {X : Cx}
end
end L2
namespace VL
open PySem PySem.Spec PyProof PyProof.Rows L2
section
variable {X : Cx} {G : GX} {C : Fc} {W : WX} {ow : Ow} {r : Rho} {T : List (D × V)} {s : L2.St} {H : Hp} {fs : Av}
end
end VL

namespace VL
open PySem PySem.Spec PyProof.Rows L2
section
variable {X : Cx} {pins : List (Addr × Obj)} {Wout : WX} {D : Ends}
end

section
variable {X : Cx} {G : GX} {C : Fc} {W : WX} {ow ow' : Ow} {r : Rho} {T T1 T2 : List (D × V)} {s : L2.St} {H H' : Hp}
end
end VL

namespace VL
open PySem PySem.Spec PyProof.Rows L2
section
variable {X : Cx} {a b c d : Expr} {pos : Pos} {ta tb tc td : TE}
end
section
variable {X : Cx} {G : GX} {C : Fc} {W : WX} {ow ow' : Ow} {r : Rho} {T T1 T2 : List (D × V)} {s : L2.St} {H H' : Hp} {fa fb fc fd : Ev} {fs : Av} {f g h : Int → Int → Bool}
end
end VL

namespace VL
open PySem PySem.Spec PyProof.Rows L2
section
variable {X : Cx}
end
section
variable {X : Cx} {G : GX} {C : Fc} {W : WX} {fs : Av} {x : Str} {p pos kp kp2 : Pos} {e : Expr}
end
end VL

namespace VL
open PySem PySem.Spec PyProof.Rows L2
section
variable {G : GX} {C : Fc} {ow : Ow} {r : Rho} {T : List (D × V)} {s : L2.St} {H : Hp}
end
section
variable {X : Cx} {G : GX} {C : Fc} {W : WX} {fk : Ev}
end
end VL

namespace VL
open PySem PySem.Spec PyProof PyProof.Rows L2
structure FnQ (N L gs ps : List Str) (sc : Scope) : Prop where
  fs : FnScope N ps sc
  pl : N.take L.length = L
  lo : ∀ x ∈ L, sc.names.lookup x = some .local ∨ sc.names.lookup x = some .cell
  no : ∀ x ∈ N, (x == ("__debug__" : Str)) = false ∧ (x == ("__classdict__" : Str)) = false
  gl : ∀ x ∈ gs, sc.names.lookup x = some .globalImplicit ∧ (x == ("__debug__" : Str)) = false
section
variable {N L gs ps : List Str} {sc : Scope} {x : Str}
theorem get_mem {l : List Str} {i : Nat} (h : l[i]? = some x) : x ∈ l := List.mem_of_getElem? h
theorem FnQ.nd (q : FnQ N L gs ps sc) : N.Nodup := q.fs.nd
theorem FnQ.n (q : FnQ N L gs ps sc) (i : Nat) (h : L[i]? = some x := by rfl) : N[i]? = some x := by
  have hi : i < L.length := (List.getElem?_eq_some_iff.mp h).1
  rw [← q.pl, List.getElem?_take, if_pos hi] at h
  exact h
theorem FnQ.l (q : FnQ N L gs ps sc) (i : Nat) (h : L[i]? = some x := by rfl) : L2.Loc sc x := q.lo x (get_mem h)
theorem FnQ.v (q : FnQ N L gs ps sc) (i : Nat) (h : L[i]? = some x := by rfl) : Vis sc x := (q.lo x (get_mem h)).elim .inl fun z => .inr (.inl z)
theorem FnQ.d (q : FnQ N L gs ps sc) (i : Nat) (h : N[i]? = some x := by rfl) : (x == ("__debug__" : Str)) = false := (q.no x (get_mem h)).1
theorem FnQ.c (q : FnQ N L gs ps sc) (i : Nat) (h : N[i]? = some x := by rfl) : (x == ("__classdict__" : Str)) = false := (q.no x (get_mem h)).2
theorem FnQ.g (q : FnQ N L gs ps sc) (i : Nat) (h : gs[i]? = some x := by rfl) : sc.names.lookup x = some .globalImplicit := (q.gl x (get_mem h)).1
theorem FnQ.h (q : FnQ N L gs ps sc) (i : Nat) (h : gs[i]? = some x := by rfl) : (x == ("__debug__" : Str)) = false := (q.gl x (get_mem h)).2
end
section
variable {X : Cx} {G : GX} {C : Fc} {W : WX} {ow : Ow} {r : Rho} {T : List (D × V)} {s : L2.St} {H : Hp} {fa fb : Ev} {fs : Av} {L gs ps : List Str}
theorem ve_v {i : Nat} {x : Str} {pos : Pos} (q : FnQ X.N L gs ps X.env.scope) (h : L[i]? = some x := by rfl) : VE X G C W (.Name x pos) (cVar i) :=
  ve_var (q.n i h) (q.v i h) (q.d i (q.n i h)) (q.c i (q.n i h))
theorem vs_s {i : Nat} {x : Str} {e : Expr} {pos pos' : Pos} (q : FnQ X.N L gs ps X.env.scope) (hp : C.pin = []) (he : VE X G C W e fa) (h : L[i]? = some x := by rfl) (hs : swapsWith e (some (.Name x pos')) pos.line X.env = pure false := by rfl)
    (hf : X.fn x = true ∨ X.env.scope.names.lookup x = some .local := by first | exact .inl rfl | exact .inr rfl | assumption) : VS X G C W (.Assign [.Name x pos'] e pos) (cAsg (.nm i) fa) :=
  vs_set q.nd (q.n i h) (q.l i h) (pinV hp i) he hs hf
theorem vs_a {i : Nat} {x : Str} {e : Expr} {op : Operator} {g : G2} {pos' pos : Pos} (q : FnQ X.N L gs ps X.env.scope) (hp : C.pin = []) (ho : OpS X (inplaceOp op) g) (he : VE X G C W e fb) (h : L[i]? = some x := by rfl)
    (hf : X.fn x = true ∨ X.env.scope.names.lookup x = some .local := by first | exact .inl rfl | exact .inr rfl | assumption) : VS X G C W (.AugAssign (.Name x pos') op e pos) (cAug i g fb) :=
  vs_aug q.nd (q.n i h) (q.l i h) (pinV hp i) ho he hf
theorem vg_n {i : Nat} {x : Str} {pos : Pos} (q : FnQ X.N L gs ps X.env.scope) (hp : C.pin = []) (h : L[i]? = some x := by rfl) (hf : X.fn x = true ∨ X.env.scope.names.lookup x = some .local := by first | exact .inl rfl | exact .inr rfl | assumption) : VG X G C (.Name x pos) (.nm i) :=
  vg_name q.nd (q.n i h) (q.l i h) (pinV hp i) hf
theorem vgs_c {i : Nat} {x : Str} {pos : Pos} {es : List Expr} {is : List Nat} (q : FnQ X.N L gs ps X.env.scope) (hp : C.pin = []) (h2 : VGs X G C es is) (h : L[i]? = some x := by rfl)
    (hf : X.fn x = true ∨ X.env.scope.names.lookup x = some .local := by first | exact .inl rfl | exact .inr rfl | assumption)
    (hs : (assignEach (.Name x pos :: es) X.env).map (·.2) = assign (.Name x pos) X.env :: (assignEach es X.env).map (·.2) := by rfl) : VGs X G C (.Name x pos :: es) (i :: is) :=
  vgs_cons q.nd (q.n i h) (q.l i h) (pinV hp i) h2 hf hs
theorem vs_f {tg iter : Expr} {body : List Stmt} {fi : Iv} {t : Tg} {f : Sv} {pos : Pos} {K : Value → Shared → Prop} {E₁ : Value → Shared → Prop} (hi : VI X G C W tg iter fi) (hg : VG X G C tg t) (hb : VSs X G C W body f) (hx : X.xe = fun e s' => wpAny (model X.prog X.w) X.A (leaving X.env e) (fun _ s'' => K e s'') E₁ s' := by rfl) (hc : X.calm = true := by rfl)
    (hs : ∀ x, foldedSetIterable iter X.env x = pure x := by intro _; rfl) : VS X G C W (.For tg iter body [] pos) (cFor t fi f) := vs_for (passes_of hx) hc hi hg hb hs
end
structure DF (K : PySem.W.Frag) (mg : Str → Option Value) (x y : Str) (st : Stmt) (ps : List Str) where
  a : Addr
  fd : FuncData
  F : Fun K y y st a fd
  m : mg x = some (.ref a)
  k : PySem.W.keepIn K (.ref a) = true
  bs : ∀ us : List Value, us.length = ps.length → bindArgs fd ⟨us, []⟩ = pure (ps.zip us)
def DF.of {K : PySem.W.Frag} {mg : Str → Option Value} {h : Heap} {x y : Str} {st : Stmt} {ps : List Str} {a : Addr} {oc kV doc pm cdv ct : Value} {od an : Option Addr} {osl : Array (Option Value)} (X : K.In h) (G : h.Ns mainGlobals mg)
    (n : PySem.W.nsIn K mainGlobals x = some (some (.ref a))) (l : K.lookup a = some ⟨oc, od, .func (PySem.W.fnOf y y (defArgs st) (defBody st) (defScope st) .none kV doc pm an cdv ct), osl⟩)
    (c : PySem.W.codeIn K cdv y = true) (k : PySem.W.keepIn K (.ref a) = true)
    (b : ∀ (kV doc pm : Value) (an : Option Addr) (cdv ct : Value) (us : List Value), us.length = ps.length → bindArgs (PySem.W.fnOf y y (defArgs st) (defBody st) (defScope st) .none kV doc pm an cdv ct) ⟨us, []⟩ = pure (ps.zip us)) : DF K mg x y st ps :=
  ⟨a, _, fun_mk l c k, PySem.W.mg_of X G n, k, b kV doc pm an cdv ct⟩
theorem DF.b {K : PySem.W.Frag} {mg : Str → Option Value} {x y : Str} {st : Stmt} {ps : List Str} (d : DF K mg x y st ps) : Binds K d.fd ps [] := .all d.bs
section
variable {K : PySem.W.Frag} {mg : Str → Option Value} {x y : Str} {st : Stmt} {ps : List Str}
abbrev OkD (P : Program) (w : World) (base : Heap) (k : Nat) (d : DF K mg x y st ps) (sp : Sp) : Prop := FnOk P w K mg base (L2.CX P w) k d.a d.fd ps sp
abbrev OkV (P : Program) (w : World) (base : Heap) (k : Nat) (d : DF K mg x y st ps) (G : GX) (n : Nat) (F : List D → FO) : Prop := OkD P w base k d (spV G n F)
variable {P : Program} {w : World} {base : Heap} {G : GX} {N L gs : List Str} {k n : Nat} {fb : Sv} {d : DF K mg x y st ps}
theorem fnV3 (S : FnQ N L gs ps (defScope st))
    (hbody : ∀ (cdv : Value) (A : Around) (outer : List Env) (s : Shared) (H : Hp) (E : XK) (C : Fc), Room k (A.deeper (envOfC y (defScope st) s.heap.objs.size d.a cdv)) → C.pin = [] → FnQ (cxOf (L2.CX P w) P w K mg base N y (defScope st) d.a cdv A outer s H E).N L gs ps (cxOf (L2.CX P w) P w K mg base N y (defScope st) d.a cdv A outer s H E).env.scope → VSs (cxOf (L2.CX P w) P w K mg base N y (defScope st) d.a cdv A outer s H E) G C (fun cls d _ H => E cls d H) (defBody st) fb) (hps : ps.length = n := by rfl) :
    OkV P w base (k + 1) d G n (runF N.length fb) := by
  subst hps
  exact fnV2 d.F S.fs fun cdv A outer s H E C hr hp => hbody cdv A outer s H E C hr hp S
theorem fnQ3 {q : Nat} (S : FnQ N L gs ps (defScope st))
    (hbody : ∀ (cdv : Value) (A : Around) (outer : List Env) (s : Shared) (H : Hp) (E : XK) (C : Fc), Room k (A.deeper (envOfC y (defScope st) s.heap.objs.size d.a cdv)) → (∀ p ∈ C.pin, p.1 = q) → FnQ (cxOf (L2.CX P w) P w K mg base N y (defScope st) d.a cdv A outer s H E).N L gs ps (cxOf (L2.CX P w) P w K mg base N y (defScope st) d.a cdv A outer s H E).env.scope → VSs (cxOf (L2.CX P w) P w K mg base N y (defScope st) d.a cdv A outer s H E) G C (fun cls d _ H => E cls d H) (defBody st) fb) (hps : ps.length = n + 1 := by rfl) :
    OkD P w base (k + 1) d (spQ G q n (runQ q N.length fb)) :=
  fnQ2 d.F S.fs hps fun cdv A outer s H E C hr hp => hbody cdv A outer s H E C hr hp S
end
section
variable {X : Cx} {G : GX} {C : Fc} {W : WX} {fs : Av} {x y : Str} {st : Stmt} {ps : List Str} {f : DF X.K X.mg x y st ps} {n k k' : Nat} {F : List D → FO} {p pos : Pos} {e : Expr} {es : List Expr}
theorem ve_callD (Fk : FnOk X.prog X.w X.K X.mg X.base (L2.CX X.prog X.w) k f.a f.fd ps (spV G n F)) (hr : Room k' X.A) (hg : Gl X x) (hdb : (x == ("__debug__" : Str)) = false) (ha : VA X G C W (e :: es) fs) (hk : k ≤ k' := by decide) (tk : Takes X W := by exact takes_of rfl rfl rfl rfl)
    (he : starEach (e :: es) X.env = (false, eval e X.env) :: starEach es X.env := by rfl) (hpl : (backTo pos (starEach es X.env)).any (·.1) = false := by rfl) : VE X G C W (.Call (.Name x p) (e :: es) [] pos) (cCall n F fs) :=
  ve_call tk Fk (hr.mono hk) hg f.m f.k f.b ha hdb he hpl
theorem ve_f {N L gs pq : List Str} (Fk : FnOk X.prog X.w X.K X.mg X.base (L2.CX X.prog X.w) k f.a f.fd ps (spV G n F)) (hr : Room k' X.A) (q : FnQ N L gs pq X.env.scope) (i : Nat) (ha : VA X G C W (e :: es) fs) (h : gs[i]? = some x := by rfl) (hk : k ≤ k' := by decide) (tk : Takes X W := by exact takes_of rfl rfl rfl rfl)
    (he : starEach (e :: es) X.env = (false, eval e X.env) :: starEach es X.env := by rfl) (hpl : (backTo pos (starEach es X.env)).any (·.1) = false := by rfl) : VE X G C W (.Call (.Name x p) (e :: es) [] pos) (cCall n F fs) :=
  ve_call tk Fk (hr.mono hk) (q.g i h) f.m f.k f.b ha (q.h i h) he hpl
end
structure KI (mg : Str → Option Value) (x : Str) (i : Int) where
  t : Tok
  m : mg x = some (.int i t)
def KI.of {K : PySem.W.Frag} {mg : Str → Option Value} {h : Heap} {x : Str} {i : Int} {t : Tok} (X : K.In h) (G : h.Ns mainGlobals mg) (n : PySem.W.nsIn K mainGlobals x = some (some (.int i t))) : KI mg x i := ⟨t, PySem.W.mg_of X G n⟩
structure KS (mg : Str → Option Value) (x y : Str) where
  t : Tok
  m : mg x = some (.str y t)
def KS.of {K : PySem.W.Frag} {mg : Str → Option Value} {h : Heap} {x y : Str} {t : Tok} (X : K.In h) (G : h.Ns mainGlobals mg) (n : PySem.W.nsIn K mainGlobals x = some (some (.str y t))) : KS mg x y := ⟨t, PySem.W.mg_of X G n⟩
structure CF (K : PySem.W.Frag) (mg : Str → Option Value) (x : Str) (S : Addr) : Prop where
  m : mg x = some (.ref S)
  ic : PySem.W.isClsIn K S = true
  tc : PySem.W.typeIn K (.ref S) = some (.type "type")
  bc : PySem.W.subIn K (.ref S) (.type "BaseException") = some true
theorem CF.of {K : PySem.W.Frag} {mg : Str → Option Value} {h : Heap} {x : Str} {S : Addr} (X : K.In h) (G : h.Ns mainGlobals mg) (n : PySem.W.nsIn K mainGlobals x = some (some (.ref S)))
    (ic : PySem.W.isClsIn K S = true) (tc : PySem.W.typeIn K (.ref S) = some (.type "type")) (bc : PySem.W.subIn K (.ref S) (.type "BaseException") = some true) : CF K mg x S := ⟨PySem.W.mg_of X G n, ic, tc, bc⟩
theorem CF.f {K : PySem.W.Frag} {mg : Str → Option Value} {x : Str} {S : Addr} (c : CF K mg x S) : ClsF K S := ⟨c.ic, c.tc, c.bc⟩
structure RF (K : PySem.W.Frag) (S : Addr) : Prop where
  x : PySem.W.excIn K S [.type "ValueError", .type "Exception", .type "BaseException", .type "object"] "ValueError.__new__" = true
  kc : PySem.W.keepIn K (.ref S) = true
  hg : PySem.W.findIn K (.ref S) "__getattribute__" = some (some (.builtin "BaseException.__getattribute__"))
  hk : PySem.W.findIn K (.ref S) "__getattr__" = some none
  hd : PySem.W.hasDictIn K S = true
  ha : PySem.W.findIn K (.ref S) "__class__" = some (some (.builtin "object.__class__"))
  hm : PySem.W.mroIn K S (.type "object") = some true
  se : PySem.W.subIn K (.ref S) (.ref S) = some true
structure EF (K : PySem.W.Frag) : Prop where
  hn : PySem.W.specialIn K (.builtin "object.__class__") "__get__" = some (some (.builtin "getset_descriptor.__get__"))
  ht : PySem.W.takesIn K (.builtin "object.__class__") = some true
section
variable {K : PySem.W.Frag} {mg : Str → Option Value} {G : GX} {k j : Nat} {b : Bool} {x y : Str}
theorem exc_of (c : CF K mg x (G k)) (r : RF K (G k)) (e : EF K) : ExcC K (G k) := ⟨r.hg, r.hk, c.bc, r.hd, r.ha, e.hn, e.ht, r.hm⟩
theorem rowC (c : CF K mg x (G k)) (r : RF K (G k)) (e : EF K) (t : CF K mg y (G j)) (h : PySem.W.subIn K (.ref (G k)) (.ref (G j)) = some b) : RowT K G k (.inl j) b := row_cls (exc_of c r e) t.f r.se h
theorem rowT {n : String} (c : CF K mg x (G k)) (r : RF K (G k)) (e : EF K) (h : PySem.W.subIn K (.ref (G k)) (.type n) = some b) (hm : PySem.W.kitMeta n = true := by decide +kernel) : RowT K G k (.inr n) b := row_ty (exc_of c r e) hm h
end
section
variable {X : Cx} {G : GX} {C : Fc} {W : WX} {c : Nat} {x m : Str} {j : Nat} {p p2 pos pos' : Pos}
theorem vs_raiseC (cf : CF X.K X.mg x (G c)) (r : RF X.K (G c)) (hg : Gl X x) (hdb : (x == ("__debug__" : Str)) = false) (tk : Takes X W := by exact takes_of rfl rfl rfl rfl) (hcm : X.calm = true := by rfl) : VS X G C W (.Raise (some (.Call (.Name x p) [.Constant (.str m) j p2] [] pos)) none pos') (cRaise c) :=
  vs_raise hcm tk r.x cf.m r.kc (raises_own cf.bc cf.tc) hg hdb
end
theorem bl_len : bootBuiltins "len" = some (.builtin "len") ∧ ("len" : Str) ≠ "__name__" := ⟨rfl, by decide +kernel⟩
section
variable {X : Cx} {G : GX} {C : Fc} {W : WX} {fa : Ev} {N L gs ps : List Str} {p pos : Pos} {e : Expr}
theorem ve_len (hm : X.mg "len" = none) (hg : Gl X "len") (ha : VE X G C W e fa) (hK : G.K = X.K := by rfl) (he : starEach [e] X.env = (false, eval e X.env) :: starEach [] X.env := by rfl) (hpl : (backTo pos (starEach [] X.env)).any (·.1) = false := by rfl) : VE X G C W (.Call (.Name "len" p) [e] [] pos) (cB (b1 lenD) (cCons fa cNil)) :=
  ve_callB hK cs_len hg hm rfl (va_cons ha va_nil he) bl_len.2 (by decide +kernel) he hpl
end
end VL

namespace VL
open PySem PySem.Spec PyProof.Rows L2
def atP : List Nat → D → Option D
  | [], d => some d
  | m :: p, .node k _ xs => if seqK k = true then (match xs[m]? with | some d => atP p d | none => none) else none
  | _ :: _, _ => none
def setP : List Nat → D → D → D
  | [], e, _ => e
  | m :: p, e, .node k o xs => .node k o (match xs[m]? with | some d => xs.set m (setP p e d) | none => xs)
  | _ :: _, _, d => d
def PathV (H : Hp) : V → List Nat → V → Prop
  | v, [], u => u = v
  | v, m :: p, u => ∃ a vs w, v = .ref a ∧ (H a = some (.lst vs) ∨ H a = some (.tup vs)) ∧ vs[m]? = some w ∧ PathV H w p u
theorem PathV.one {H : Hp} : ∀ {p : List Nat} {v u u' : V}, PathV H v p u → PathV H v p u' → u = u'
  | [], v, u, u', h, h' => h.trans h'.symm
  | m :: p, v, u, u', h, h' => by
    obtain ⟨a, vs, w, e1, h1, h2, h3⟩ := h
    obtain ⟨a', vs', w', e1', h1', h2', h3'⟩ := h'
    subst e1
    cases e1'
    have ev : vs = vs' := by
      rcases h1 with z | z <;> rcases h1' with z' | z' <;> (rw [z] at z'; first | (cases z'; done) | (cases z'; rfl))
    subst ev
    rw [h2] at h2'
    cases h2'
    exact PathV.one h3 h3'
theorem PathV.snoc {H : Hp} : ∀ {p : List Nat} {v : V} {a : Addr} {vs : List V} {m : Nat} {w : V}, PathV H v p (.ref a) → (H a = some (.lst vs) ∨ H a = some (.tup vs)) → vs[m]? = some w → PathV H v (p ++ [m]) w
  | [], v, a, vs, m, w, h, h1, h2 => ⟨a, vs, w, h.symm, h1, h2, rfl⟩
  | k :: p, v, a, vs, m, w, h, h1, h2 => by
    obtain ⟨a', vs', w', e1, g1, g2, g3⟩ := h
    exact ⟨a', vs', w', e1, g1, g2, PathV.snoc g3 h1 h2⟩
theorem atP_cons {m : Nat} {p : List Nat} {d e : D} (h : atP (m :: p) d = some e) : ∃ k o xs x, d = .node k o xs ∧ seqK k = true ∧ xs[m]? = some x ∧ atP p x = some e := by
  cases d with
  | node k o xs =>
    have h : (if seqK k = true then (match xs[m]? with | some d => atP p d | none => none) else none) = some e := h
    split at h
    · rename_i hk
      cases ex : xs[m]? with
      | none => rw [ex] at h; cases h
      | some x => rw [ex] at h; exact ⟨k, o, xs, x, rfl, hk, ex, h⟩
    · cases h
  | _ => cases h
theorem atP_mk {m : Nat} {p : List Nat} {k : Kd} {o : Bool} {xs : List D} {x : D} {e : Option D} (hk : seqK k = true) (ex : xs[m]? = some x) (h : atP p x = e) : atP (m :: p) (.node k o xs) = e := by
  show (if seqK k = true then (match xs[m]? with | some d => atP p d | none => none) else none) = e
  rw [if_pos hk, ex]
  exact h
theorem setP_mk {m : Nat} {p : List Nat} {k : Kd} {o : Bool} {xs : List D} {x e : D} (ex : xs[m]? = some x) : setP (m :: p) e (.node k o xs) = .node k o (xs.set m (setP p e x)) := by
  show D.node k o (match xs[m]? with | some d => xs.set m (setP p e d) | none => xs) = _
  rw [ex]
theorem setP_app : ∀ {p q : List Nat} {d f e : D}, atP p d = some f → setP (p ++ q) e d = setP p (setP q e f) d
  | [], q, d, f, e, h => by cases h; rfl
  | m :: p, q, d, f, e, h => by
    obtain ⟨k, o, xs, x, rfl, hk, ex, h⟩ := atP_cons h
    show setP (m :: (p ++ q)) e _ = _
    rw [setP_mk ex, setP_mk ex, setP_app h]
theorem atP_setP : ∀ {p : List Nat} {d f e : D}, atP p d = some f → atP p (setP p e d) = some e
  | [], d, f, e, _ => rfl
  | m :: p, d, f, e, h => by
    obtain ⟨k, o, xs, x, rfl, hk, ex, h⟩ := atP_cons h
    rw [setP_mk ex]
    exact atP_mk hk (List.getElem?_set_self (List.getElem?_eq_some_iff.mp ex).1) (atP_setP h)
theorem setP_setP : ∀ {p : List Nat} {d f e e' : D}, atP p d = some f → setP p e' (setP p e d) = setP p e' d
  | [], d, f, e, e', _ => rfl
  | m :: p, d, f, e, e', h => by
    obtain ⟨k, o, xs, x, rfl, hk, ex, h⟩ := atP_cons h
    rw [setP_mk ex, setP_mk (List.getElem?_set_self (List.getElem?_eq_some_iff.mp ex).1), setP_mk ex, setP_setP h, List.set_set]
section
variable {G : GX} {ow : Ow} {H : Hp} {C : Fc} {r : Rho} {T : List (D × V)} {s : L2.St}
theorem holdsK {k : Kd} {a : Addr} {vs : List V} (hk : seqK k = true) (h : Holds G H a k vs) : H a = some (.lst vs) ∨ H a = some (.tup vs) := by
  rcases seqK_of hk with e | e
  · subst e; exact .inl h
  · subst e; exact .inr h
theorem seqK_r {k : Kd} (hk : seqK k = true) : isR k ≠ true := by
  rcases seqK_of hk with e | e <;> (rw [e]; exact fun z => nomatch z)
theorem Rep.atP : ∀ (p : List Nat) {d e : D} {l : Loc} {v : V}, Rep G ow H d l v → VL.atP p d = some e → ∃ u, PathV H v p u ∧ Rep G ow H e (l.app p) u
  | [], d, e, l, v, h, he => by
    cases he
    exact ⟨v, rfl, by rw [Loc.app_nil]; exact h⟩
  | m :: p, d, e, l, v, h, he => by
    obtain ⟨k, o, xs, x, rfl, hk, ex, he⟩ := atP_cons he
    obtain ⟨a, vs, ev, h1, h2, h3⟩ := h
    obtain ⟨w, hw, hr⟩ := h3.get m x ex
    obtain ⟨u, g1, g2⟩ := Rep.atP p hr he
    rw [Nat.zero_add, Loc.sub_app] at g2
    exact ⟨u, ⟨a, vs, w, ev, holdsK hk h1, hw, g1⟩, g2⟩
theorem node_ne {k : Kd} {o : Bool} {a b : Addr} {l l' : Loc} (hk : seqK k = true) (h : OwnAt k o l (ow a)) (hb : ow b = some l') (hl : l ≠ l') : a ≠ b := fun e => by
  subst e
  have h := h.cases.resolve_left (seqK_r hk)
  rw [hb] at h
  cases o with
  | true => exact hl (by simpa using h.symm)
  | false => simp at h
theorem app_ne {l : Loc} {m : Nat} {p : List Nat} : l ≠ l.app (m :: p) := fun h => by
  have e : l.p = l.p ++ m :: p := congrArg Loc.p h
  have := congrArg List.length e
  simp at this
theorem Rep.keepPath {b : Addr} {ho : HO} : ∀ (q : List Nat) {t : List Nat} {d e : D} {l : Loc} {v u : V}, Rep G ow H d l v → VL.atP (q ++ t) d = some e → t ≠ [] → ow b = some (l.app (q ++ t)) → PathV H v q u → PathV (upd H b ho) v q u ∧ ∃ a, u = .ref a ∧ a ≠ b
  | [], t, d, e, l, v, u, h, he, ht, hb, hu => by
    cases t with
    | nil => exact absurd rfl ht
    | cons m t =>
      obtain ⟨k, o, xs, x, rfl, hk, ex, he⟩ := atP_cons he
      obtain ⟨a, vs, ev, h1, h2, h3⟩ := h
      have hu : u = v := hu
      exact ⟨hu, a, hu.trans ev, node_ne hk h2 hb app_ne⟩
  | m :: q, t, d, e, l, v, u, h, he, ht, hb, hu => by
    obtain ⟨k, o, xs, x, rfl, hk, ex, he⟩ := atP_cons (show VL.atP (m :: (q ++ t)) d = some e from he)
    obtain ⟨a, vs, ev, h1, h2, h3⟩ := h
    obtain ⟨a', vs', w', ev', g1, g2, g3⟩ := hu
    rw [ev] at ev'
    cases ev'
    have hne : a ≠ b := node_ne hk h2 hb (show l ≠ l.app (m :: (q ++ t)) from app_ne)
    have evs : vs' = vs := by
      rcases holdsK hk h1 with z | z <;> rcases g1 with z' | z' <;> (rw [z] at z'; first | (cases z'; done) | (cases z'; rfl))
    subst evs
    obtain ⟨w, hw, hr⟩ := h3.get m x ex
    rw [g2] at hw
    cases hw
    rw [Nat.zero_add] at hr
    obtain ⟨k1, k2⟩ := Rep.keepPath q hr he ht (by rw [Loc.sub_app]; exact hb) g3
    exact ⟨⟨a, vs', w', ev, by rw [upd_ne hne]; exact g1, g2, k1⟩, k2⟩
theorem sub_ne {l : Loc} {j m : Nat} {q p : List Nat} (h : j ≠ m) : (l.sub j).app q ≠ l.app (m :: p) := fun e => by
  rw [Loc.sub_app] at e
  have e : l.p ++ j :: q = l.p ++ m :: p := congrArg Loc.p e
  have := List.append_cancel_left e
  injection this with h1 h2
  exact h h1
theorem Rep.setP {b : Addr} {ho : HO} {e e' : D} : ∀ (p : List Nat) {d : D} {l : Loc} {v u : V}, Rep G ow H d l v → VL.atP p d = some e → ow b = some (l.app p) → PathV H v p u → (∀ o, H b = some o → OwnO (some o)) → Rep G ow (upd H b ho) e' (l.app p) u → Rep G ow (upd H b ho) (VL.setP p e' d) l v
  | [], d, l, v, u, h, he, hb, hu, hO, h' => by
    have hu : u = v := hu
    subst hu
    rw [Loc.app_nil] at h'
    exact h'
  | m :: p, d, l, v, u, h, he, hb, hu, hO, h' => by
    obtain ⟨k, o, xs, x, rfl, hk, ex, he2⟩ := atP_cons he
    obtain ⟨a, vs, ev, h1, h2, h3⟩ := h
    obtain ⟨a', vs', w', ev', g1, g2, g3⟩ := hu
    rw [ev] at ev'
    cases ev'
    have hne : a ≠ b := node_ne hk h2 hb app_ne
    have evs : vs' = vs := by
      rcases holdsK hk h1 with z | z <;> rcases g1 with z' | z' <;> (rw [z] at z'; first | (cases z'; done) | (cases z'; rfl))
    subst evs
    rw [setP_mk ex]
    have exn : ∀ (c : Addr) (o : HO), H c = some o → ¬ OwnO (some o) → Kt (upd H b ho c) o := fun c o z n => by
      rw [upd_ne (fun e => by rw [e] at z; exact n (hO o z))]; exact .inl z
    refine ⟨a, vs', ev, h1.keep fun o z => by rw [upd_ne hne]; exact .inl z, h2, Reps.of_get (by rw [List.length_set]; exact h3.length) fun j d' v' y1 y2 => ?_⟩
    obtain ⟨w, hw, hr⟩ := h3.get m x ex
    rw [g2] at hw
    cases hw
    by_cases hj : j = m
    · subst hj
      rw [List.getElem?_set_self (List.getElem?_eq_some_iff.mp ex).1] at y1
      cases y1
      rw [g2] at y2
      cases y2
      rw [Nat.zero_add] at hr ⊢
      exact Rep.setP p hr he2 (by rw [Loc.sub_app]; exact hb) g3 hO (by rw [Loc.sub_app]; exact h')
    · rw [List.getElem?_set_ne (Ne.symm hj)] at y1
      obtain ⟨w2, hw2, hr2⟩ := h3.get j d' y1
      rw [y2] at hw2
      cases hw2
      rw [Nat.zero_add] at hr2 ⊢
      refine Rep.mono d' (fun c o z y => ?_) exn (fun _ _ _ n => n) (fun _ _ _ _ n => n) hr2
      rw [upd_ne (fun e => ?_)]
      · exact .inl z
      · subst e
        rw [hb] at y
        rcases y with y | ⟨q, y⟩
        · cases y
        · exact sub_ne (Ne.symm hj |>.symm) (Option.some.inj y).symm
theorem StW.setP {i : Nat} {p : List Nat} {d : D} {ys : List D} (S : StW G C ow r T s H) (q : r[i]? = some (some d)) (hp : VL.atP p d = some (.node .lst true ys)) :
    ∃ v b vs, s[i]? = some (some v) ∧ PathV H v p (.ref b) ∧ H b = some (.lst vs) ∧ ys.length = vs.length ∧ Reps G ow H ys ⟨.sl i, p⟩ 0 vs ∧ ow b = some ⟨.sl i, p⟩ ∧ ∀ ho : HO, OwnO (some ho) →
      ((∀ (q2 t : List Nat) (u : V), p = q2 ++ t → t ≠ [] → PathV H v q2 u → PathV (upd H b ho) v q2 u ∧ ∃ a, u = .ref a ∧ a ≠ b) ∧
      (∀ e' : D, Rep G ow (upd H b ho) e' ⟨.sl i, p⟩ (.ref b) → StW G C ow (r.set i (some (VL.setP p e' d))) T s (upd H b ho)) ∧ (∀ (d2 : D) (q2 : List Nat) (v2 : V) (j : Nat), Rep G ow H d2 ⟨.sl i, p ++ j :: q2⟩ v2 → Rep G ow (upd H b ho) d2 ⟨.sl i, p ++ j :: q2⟩ v2)) := by
  obtain ⟨v, z1, z2⟩ := S.sl i d q
  obtain ⟨u, g1, g2⟩ := Rep.atP p z2 hp
  obtain ⟨b, vs, eu, hb, hob, hys⟩ := g2
  subst eu
  have hl : (Loc.mk (.sl i) []).app p = ⟨.sl i, p⟩ := rfl
  rw [hl] at hob hys
  have hb : H b = some (.lst vs) := hb
  have hob : ow b = some ⟨.sl i, p⟩ := by simpa [OwnAt] using hob
  refine ⟨v, b, vs, z1, g1, hb, hys.length, hys, hob, fun ho hO => ?_⟩
  have hO1 : ∀ o, H b = some o → OwnO (some o) := fun o z => by rw [hb] at z; cases z; trivial
  have exn : ∀ (c : Addr) (o : HO), H c = some o → ¬ OwnO (some o) → Kt (upd H b ho c) o := fun c o z n => by
    rw [upd_ne (fun e => by rw [e] at z; exact n (hO1 o z))]; exact .inl z
  have far : ∀ (d2 : D) (l2 : Loc) (v2 : V), (∀ q2, l2.app q2 ≠ ⟨.sl i, p⟩) → Rep G ow H d2 l2 v2 → Rep G ow (upd H b ho) d2 l2 v2 := fun d2 l2 v2 hn h => by
    refine Rep.mono d2 (fun c o z y => ?_) exn (fun _ _ _ n => n) (fun _ _ _ _ n => n) h
    rw [upd_ne (fun e => ?_)]
    · exact .inl z
    · subst e
      rw [hob] at y
      rcases y with y | ⟨q, y⟩
      · cases y
      · exact hn q (Option.some.inj y).symm
  have hsub : ∀ (q2 : List Nat) (j : Nat) (q3 : List Nat), (Loc.mk (.sl i) (p ++ j :: q2)).app q3 ≠ ⟨.sl i, p⟩ := fun q2 j q3 e => by
    have e : (p ++ j :: q2) ++ q3 = p := congrArg Loc.p e
    have := congrArg List.length e
    simp at this
  refine ⟨fun q2 t u ep ht hu => ?_, fun e' h => ?_, fun d2 q2 v2 j h => far d2 _ v2 (hsub q2 j) h⟩
  · subst ep
    exact Rep.keepPath q2 z2 hp ht hob hu
  · refine ⟨by simpa using S.len, fun j d' y => ?_, fun j d' v' y => ?_, fun c o n y => ?_, S.own, S.fo, fun c l y => ?_, S.pin, tabs_own S.tabs hb trivial⟩
    · by_cases hj : j = i
      · subst hj
        rw [List.getElem?_set_self (List.getElem?_eq_some_iff.mp q).1] at y
        cases y
        exact ⟨v, z1, Rep.setP p z2 hp hob g1 hO1 h⟩
      · rw [List.getElem?_set_ne (Ne.symm hj)] at y
        obtain ⟨v', y1, y2⟩ := S.sl j d' y
        exact ⟨v', y1, far d' _ v' (fun q2 e => by have e : Bs.sl j = Bs.sl i := congrArg Loc.b e; injection e with e; exact hj e) y2⟩
    · exact far d' _ v' (fun q2 e => by have e : Bs.tm j = Bs.sl i := congrArg Loc.b e; cases e) (S.tm j d' v' y)
    · by_cases hc : c = b
      · subst hc
        rcases S.own c _ hob with z | z | z
        · cases z
        · rw [z] at y; cases y
        · exact absurd z n
      · rw [upd_ne hc]; exact S.old c o n y
    · by_cases hc : c = b
      · subst hc; rw [upd_same]; exact hO
      · rw [upd_ne hc]; exact S.mu c l y
end
theorem atP_cat : ∀ {p q : List Nat} {d f : D}, atP p d = some f → atP (p ++ q) d = atP q f
  | [], q, d, f, h => by cases h; rfl
  | m :: p, q, d, f, h => by
    obtain ⟨k, o, xs, x, rfl, hk, ex, h⟩ := atP_cons h
    exact atP_mk (p := p ++ q) hk ex (atP_cat h)
theorem setP_self : ∀ {p : List Nat} {d f : D}, atP p d = some f → setP p f d = d
  | [], d, f, h => by cases h; rfl
  | m :: p, d, f, h => by
    obtain ⟨k, o, xs, x, rfl, hk, ex, h⟩ := atP_cons h
    rw [setP_mk ex, setP_self h]
    congr 1
    exact List.ext_getElem? fun j => by
      by_cases hj : m = j
      · subst hj
        rw [List.getElem?_set_self (List.getElem?_eq_some_iff.mp ex).1, ex]
      · rw [List.getElem?_set_ne hj]
theorem PathV.unsnoc {H : Hp} : ∀ {p : List Nat} {v : V} {m : Nat} {w : V}, PathV H v (p ++ [m]) w → ∃ a vs, PathV H v p (.ref a) ∧ (H a = some (.lst vs) ∨ H a = some (.tup vs)) ∧ vs[m]? = some w
  | [], v, m, w, h => by
    obtain ⟨a, vs, w', e1, g1, g2, g3⟩ := h
    have g3 : w = w' := g3
    subst g3
    exact ⟨a, vs, e1.symm, g1, g2⟩
  | k :: p, v, m, w, h => by
    obtain ⟨a, vs, w', e1, g1, g2, g3⟩ := h
    obtain ⟨b, us, k1, k2, k3⟩ := PathV.unsnoc g3
    exact ⟨b, us, ⟨a, vs, w', e1, g1, g2, k1⟩, k2, k3⟩
def tPath (i : Nat) (p : List Nat) : TE := fun s H Q => ∃ v u, s[i]? = some (some v) ∧ PathV H v p u ∧ Q u H
abbrev PPath (X : Cx) (e : Expr) (i : Nat) (p : List Nat) : Prop := PE X e (tPath i p)
section
variable {X : Cx} {G : GX} {C : Fc} {W : WX}
theorem pp_var {i : Nat} {x : Str} {pos : Pos} (hN : X.N[i]? = some x) (hv : Vis X.env.scope x) (hd : (x == ("__debug__" : Str)) = false) (hcd : (x == ("__classdict__" : Str)) = false) : PPath X (.Name x pos) i [] :=
  PE.imp (pe_var hN hv hd hcd) fun s H Q ⟨v, u, h1, h2, h3⟩ => by
    have h2 : u = v := h2
    subst h2
    exact ⟨u, h1, h3⟩
def cClrAt (i : Nat) (p : List Nat) : Ev := fun r => match r[i]? with
  | some (some d) => (match atP p d with
    | some (.node .lst true _) => .ok (.val .non) (r.set i (some (setP p (.node .lst true []) d)))
    | _ => .bad)
  | _ => .bad
def appAll (c : Int) : List D → Option (List D)
  | [] => some []
  | .node .tup o [x, .node .lst true ys] :: ds => if ys.length < 16777216 then (match appAll c ds with
    | some es => some (.node .tup o [x, .node .lst true (ys ++ [.int c])] :: es)
    | none => none) else none
  | _ => none
theorem appAll_cons {c : Int} {d : D} {ds es : List D} (h : appAll c (d :: ds) = some es) : ∃ o x ys es', d = .node .tup o [x, .node .lst true ys] ∧ ys.length < 16777216 ∧ appAll c ds = some es' ∧ es = .node .tup o [x, .node .lst true (ys ++ [.int c])] :: es' := by
  unfold appAll at h
  split at h
  · rename_i e; cases e
  · rename_i o x ys ds' e
    cases e
    split at h
    · rename_i hl
      cases e : appAll c ds with
      | none => rw [e] at h; cases h
      | some es' => rw [e] at h; cases h; exact ⟨o, x, ys, es', rfl, hl, rfl, rfl⟩
    · cases h
  · cases h
theorem appAll_len {c : Int} : ∀ {ds es : List D}, appAll c ds = some es → es.length = ds.length
  | [], es, h => by cases h; rfl
  | d :: ds, es, h => by
    obtain ⟨o, x, ys, es', _, _, h3, rfl⟩ := appAll_cons h
    rw [List.length_cons, List.length_cons, appAll_len h3]
theorem appAll_get {c : Int} : ∀ {ds es : List D} {l : Nat} {d : D}, appAll c ds = some es → ds[l]? = some d → ∃ o x ys, d = .node .tup o [x, .node .lst true ys] ∧ ys.length < 16777216 ∧ es[l]? = some (.node .tup o [x, .node .lst true (ys ++ [.int c])])
  | [], es, l, d, _, h => by simp at h
  | d :: ds, es, 0, d', h, h2 => by
    obtain ⟨o, x, ys, es', rfl, hl, h3, rfl⟩ := appAll_cons h
    cases h2
    exact ⟨o, x, ys, rfl, hl, rfl⟩
  | d :: ds, es, l + 1, d', h, h2 => by
    obtain ⟨o, x, ys, es', rfl, hl, h3, rfl⟩ := appAll_cons h
    exact appAll_get (ds := ds) (es := es') (l := l) h3 (show ds[l]? = some d' from h2)
def cForApp (i : Nat) (p : List Nat) (a b : Nat) (c : Int) : Sv := fun r => match r[i]? with
  | some (some d) => (match atP p d with
    | some (.node .lst o ds) => (match appAll c ds with
      | some es => if b < r.length then .nx (if ds = [] then r else ((r.set i (some (setP p (.node .lst o es) d))).set a (some .any)).set b (some .any)) else .bad
      | none => .bad)
    | _ => .bad)
  | _ => .bad
theorem vs_forApp {i a b : Nat} {p : List Nat} {c : Int} {xa xb : Str} {iter : Expr} {pa pb pt po apos cpos pe pos : Pos} {kk n2 : Nat} (hp : PassesOwn (model X.prog X.w) X.A X.env X.xe) (hc : X.calm = true) (he : PPath X iter i p) (hND : X.N.Nodup)
    (hia : i ≠ a) (hib : i ≠ b) (hab : a ≠ b) (ha : X.N[a]? = some xa) (hla : L2.Loc X.env.scope xa) (hb : X.N[b]? = some xb) (hlb : L2.Loc X.env.scope xb) (pna : ∀ p ∈ C.pin, p.1 ≠ a) (pnb : ∀ p ∈ C.pin, p.1 ≠ b)
    (hdb : (xb == ("__debug__" : Str)) = false) (hcb : (xb == ("__classdict__" : Str)) = false)
    (hfa : X.fn xa = true ∨ X.env.scope.names.lookup xa = some .local := by first | exact .inl rfl | exact .inr rfl | assumption)
    (hfb : X.fn xb = true ∨ X.env.scope.names.lookup xb = some .local := by first | exact .inl rfl | exact .inr rfl | assumption)
    (hsq : (assignEach [.Name xa pa, .Name xb pb] X.env).map (·.2) = assign (.Name xa pa) X.env :: (assignEach [.Name xb pb] X.env).map (·.2) := by rfl)
    (hsr : (assignEach [.Name xb pb] X.env).map (·.2) = assign (.Name xb pb) X.env :: (assignEach [] X.env).map (·.2) := by rfl)
    (hn : (assignEach [.Name xa pa, .Name xb pb] X.env).length = 2 := by rfl) (hst : (assignEach [.Name xa pa, .Name xb pb] X.env).findIdx? (·.1) = none := by rfl)
    (hs : ∀ y, foldedSetIterable iter X.env y = pure y := by intro _; rfl)
    (hbase : attributeBase (.Name xb po) "append" X.env (eval (.Name xb po) X.env) = eval (.Name xb po) X.env := by rfl)
    (hfew : ((backTo cpos (starEach [.Constant (.int c) n2 pe] X.env)).all (fun x => !x.1) && (backToKw cpos (keywordEach [] X.env)).all (fun x => x.1.isSome)
      && decide ([Expr.Constant (.int c) n2 pe].length + ([] : List Keyword).length + (if ([] : List Keyword).isEmpty then 0 else 1) < 30)) = true := by rfl)
    (hline : (apos.endLine == cpos.line) = true := by rfl) (hst1 : starEach [.Constant (.int c) n2 pe] X.env = (false, eval (.Constant (.int c) n2 pe) X.env) :: starEach [] X.env := by rfl) (hplain : (backTo cpos (starEach [] X.env)).any (·.1) = false := by rfl)
    (hsw : swapsWith (.Call (.Attribute (.Name xb po) "append" apos) [.Constant (.int c) n2 pe] [] cpos) none cpos.line X.env = pure false := by rfl) :
    VS X G C W (.For (.Tuple [.Name xa pa, .Name xb pb] kk pt) iter [.Expr (.Call (.Attribute (.Name xb po) "append" apos) [.Constant (.int c) n2 pe] [] cpos) cpos] [] pos) (cForApp i p a b c) := by
  have body : PSs X [.Expr (.Call (.Attribute (.Name xb po) "append" apos) [.Constant (.int c) n2 pe] [] cpos) cpos] (fun D s H => ∃ bb ws, s[b]? = some (some (.ref bb)) ∧ H bb = some (.lst ws) ∧ ws.length < sizeLine ∧ D.nx s (upd H bb (.lst (ws ++ [.int c])))) :=
    pss_one (PS.imp (ps_expr (pe_bm PySem.F.plainAttrs_list PySem.F.slot_list_append PySem.F.type_list_append mt_append (pe_var hb (hlb.elim .inl fun z => .inr (.inl z)) hdb hcb) (pa_cons pe_int pa_nil hst1) hbase hfew hline hst1 hplain) hsw) fun D s H h => by
      obtain ⟨bb, ws, h1, h2, h3, h4⟩ := h
      exact ⟨.ref bb, h1, .inl ⟨rfl, ws, SqL.of h2⟩, bb, ws, .int c, rfl, rfl, h2, h3, h4⟩)
  refine PS.imp (ps_for hp hc (pi_list he) (pg_tup (n := 2) hc (pgs_cons (pg_name hND ha hla hfa) (pgs_cons (pg_name hND hb hlb hfb) pgs_nil hsr) hsq) hn hst) body hs) fun E s H h => ?_
  obtain ⟨r, T, S, h⟩ := h
  unfold cForApp at h
  split at h
  · rename_i d q0
    split at h
    · rename_i o ds hat
      split at h
      · rename_i es hes
        split at h
        case isFalse => exact h.elim
        rename_i hbr
        obtain ⟨ow, S⟩ := S
        obtain ⟨v, z1, z2⟩ := S.sl i d q0
        obtain ⟨u, g1, g2⟩ := Rep.atP p z2 hat
        obtain ⟨aL, vs, eu, hL, _, hys⟩ := g2
        subst eu
        have hL : H aL = some (.lst vs) := hL
        have hlen := hys.length
        have hel := appAll_len hes
        refine ⟨v, .ref aL, z1, g1, aL, rfl, ⟨vs, SqL.of hL⟩, ?_⟩
        let rl : Nat → Rho := fun l => if l = 0 then r else ((r.set i (some (VL.setP p (.node .lst o (es.take l ++ ds.drop l)) d))).set a (some .any)).set b (some .any)
        have hil : i < r.length := (List.getElem?_eq_some_iff.mp q0).1
        have rli : ∀ l, (rl l)[i]? = some (some (VL.setP p (.node .lst o (es.take l ++ ds.drop l)) d)) := fun l => by
          by_cases h0 : l = 0
          · subst h0
            show (if (0 : Nat) = 0 then r else _)[i]? = _
            rw [if_pos rfl, q0, List.take_zero, List.drop_zero, List.nil_append, setP_self hat]
          · show (if l = 0 then r else _)[i]? = _
            rw [if_neg h0, List.getElem?_set_ne (Ne.symm hib), List.getElem?_set_ne (Ne.symm hia), List.getElem?_set_self hil]
        refine ⟨fun l m s' H' => m = ds.length - l ∧ l ≤ ds.length ∧ s'[i]? = some (some v) ∧ PathV H' v p (.ref aL) ∧ H' aL = some (.lst vs) ∧ StOk G C (rl l) T s' H', ⟨ds.length, rfl, Nat.zero_le _, z1, g1, hL, by show StOk G C (if (0 : Nat) = 0 then r else _) T s H; rw [if_pos rfl]; exact ⟨ow, S⟩⟩, ?_⟩
        rintro l m s' H' ⟨rfl, hl0, hpi, hpv, hH', ⟨ow', S'⟩⟩
        by_cases hlt : l < ds.length
        · have hdl : (es.take l ++ ds.drop l)[l]? = some ds[l] := by
            rw [List.getElem?_append_right (by rw [List.length_take]; omega), List.length_take, Nat.min_eq_left (by omega), Nat.sub_self, List.getElem?_drop, Nat.add_zero, List.getElem?_eq_getElem hlt]
          obtain ⟨o2, x, ys, ed, hyl, hesl⟩ := appAll_get hes (List.getElem?_eq_getElem hlt)
          rw [ed] at hdl
          have hat' : VL.atP p (VL.setP p (.node .lst o (es.take l ++ ds.drop l)) d) = some (.node .lst o (es.take l ++ ds.drop l)) := atP_setP hat
          have hat3 : VL.atP (p ++ [l, 1]) (VL.setP p (.node .lst o (es.take l ++ ds.drop l)) d) = some (.node .lst true ys) := by
            rw [atP_cat hat']
            exact atP_mk rfl hdl (atP_mk rfl rfl rfl)
          obtain ⟨v', bb, ws, y1, y2, y3, y4, y5, ob, all⟩ := S'.setP (rli l) hat3
          rw [hpi] at y1
          cases y1
          obtain ⟨keep, put, far⟩ := all (.lst (ws ++ [.int c])) trivial
          have hat2 : VL.atP (p ++ [l]) (VL.setP p (.node .lst o (es.take l ++ ds.drop l)) d) = some (.node .tup o2 [x, .node .lst true ys]) := by
            rw [atP_cat hat']
            exact atP_mk rfl hdl rfl
          obtain ⟨v3, w1, w2⟩ := S'.sl i _ (rli l)
          rw [hpi] at w1
          cases w1
          obtain ⟨u3, k1, k2⟩ := Rep.atP (p ++ [l]) w2 hat2
          obtain ⟨tt, vs3, e3, htt, _, hv3⟩ := k2
          subst e3
          have htt : H' tt = some (.tup vs3) := htt
          obtain ⟨w0, r3, ev3, _, b3, r4, er3, _, er4⟩ := hv3
          have er4 : r4 = [] := er4
          subst er4; subst er3; subst ev3
          have pb : PathV H' v (p ++ [l] ++ [1]) b3 := k1.snoc (.inr htt) rfl
          rw [List.append_assoc] at pb
          have e3 : b3 = .ref bb := pb.one y2
          subst e3
          obtain ⟨a', vs', p1, p2, p3⟩ := k1.unsnoc
          have ea : V.ref a' = .ref aL := p1.one hpv
          cases ea
          have evs : vs' = vs := by
            rcases p2 with z | z
            · rw [hH'] at z; cases z; rfl
            · rw [hH'] at z; cases z
          subst evs
          obtain ⟨kp1, aa, ea, hne⟩ := keep p [l, 1] (.ref aL) rfl (by simp) hpv
          cases ea
          have hbl : b < s'.length := by
            rw [← S'.len]
            show b < (if l = 0 then r else _).length
            split
            · exact hbr
            · simpa using hbr
          refine .inr ⟨⟨vs', .ref tt, SqL.of hH', p3⟩, fun s3 H3 => s3[i]? = some (some v) ∧ PathV H3 v p (.ref aL) ∧ H3 aL = some (.lst vs') ∧ StOk G C (rl (l + 1)) T s3 H3, fun s3 H3 n3 => ⟨ds.length - (l + 1), by omega, rfl, hlt, n3⟩, fun x3 H2 yl => ?_⟩
          obtain ⟨e1, e2⟩ := yl
          subst e1
          have ex := e2 vs' (SqL.of hH')
          rw [p3] at ex
          cases ex
          refine ⟨tt, [w0, .ref bb], rfl, SqT.of htt, rfl, w0, [.ref bb], rfl, .ref bb, [], rfl, rfl, bb, ws, List.getElem?_set_self (by simpa using hbl), y3, Nat.lt_of_lt_of_le (show ws.length < 16777216 by omega) (by decide), ?_, kp1, by rw [upd_ne hne]; exact hH', ?_⟩
          · rw [List.getElem?_set_ne (Ne.symm hib), List.getElem?_set_ne (Ne.symm hia)]; exact hpi
          · have rep' : Rep G ow' (upd H2 bb (.lst (ws ++ [.int c]))) (.node .lst true (ys ++ [.int c])) ⟨.sl i, p ++ [l, 1]⟩ (.ref bb) := by
              refine ⟨bb, ws ++ [V.int c], rfl, upd_same, .mk (by rw [ob]; rfl), Reps.of_get (by rw [List.length_append, List.length_append, y4]; rfl) fun j d' v' x1 x2 => ?_⟩
              by_cases hj : j < ys.length
              · rw [List.getElem?_append_left hj] at x1
                rw [List.getElem?_append_left (by omega)] at x2
                obtain ⟨v2, g3, g4⟩ := y5.get j d' x1
                rw [x2] at g3
                cases g3
                rw [Nat.zero_add] at g4 ⊢
                exact far d' [] v' j g4
              · rw [List.getElem?_append_right (by omega)] at x1
                rw [List.getElem?_append_right (by omega), ← y4] at x2
                have e0 : j - ys.length = 0 := by
                  have := (List.getElem?_eq_some_iff.mp x1).1
                  simp at this; omega
                rw [e0] at x1 x2
                cases x1
                cases x2
                rfl
            have S2 := put _ rep'
            have ed2 : VL.setP (p ++ [l, 1]) (.node .lst true (ys ++ [.int c])) (VL.setP p (.node .lst o (es.take l ++ ds.drop l)) d) = VL.setP p (.node .lst o (es.take (l + 1) ++ ds.drop (l + 1))) d := by
              rw [setP_app hat', setP_setP hat, setP_mk hdl, setP_mk (show ([x, D.node .lst true ys] : List D)[1]? = some (.node .lst true ys) from rfl)]
              congr 2
              have hle : l < es.length := by omega
              rw [List.set_append_right _ _ (by rw [List.length_take]; omega), List.length_take, Nat.min_eq_left (by omega), Nat.sub_self, List.take_succ, hesl]
              simp [VL.setP]
              rw [← List.getElem_cons_drop hlt]
              rfl
            rw [ed2] at S2
            have S3 := StOk.set (i := a) ⟨_, S2.push (d := .any) (v := w0) trivial⟩ pna
            obtain ⟨ow4, S3⟩ := S3
            have S4 := StOk.set (i := b) ⟨_, S3.push (d := .any) (v := .ref bb) trivial⟩ pnb
            have er : (((rl l).set i (some (VL.setP p (.node .lst o (es.take (l + 1) ++ ds.drop (l + 1))) d))).set a (some .any)).set b (some .any) = rl (l + 1) := by
              show ((List.set (if l = 0 then r else _) i _).set a _).set b _ = (if l + 1 = 0 then r else _)
              rw [if_neg (Nat.succ_ne_zero l)]
              split
              · rfl
              · rw [List.set_comm _ _ (Ne.symm hib), List.set_comm _ _ (Ne.symm hia), List.set_set, List.set_comm _ _ (Ne.symm hab), List.set_set, List.set_set]
            rw [er] at S4
            exact S4
        · have ej : l = ds.length := by omega
          subst ej
          refine .inl ⟨⟨vs, SqL.of hH', by rw [← hlen]; exact Nat.le_refl _⟩, h s' H' ?_⟩
          have e : rl ds.length = (if ds = [] then r else ((r.set i (some (VL.setP p (.node .lst o es) d))).set a (some .any)).set b (some .any)) := by
            show (if ds.length = 0 then r else _) = _
            by_cases h0 : ds = []
            · rw [if_pos h0, if_pos (by rw [h0]; rfl)]
            · rw [if_neg h0, if_neg (fun z => h0 (List.eq_nil_of_length_eq_zero z)), List.drop_length, List.append_nil, List.take_of_length_le (by omega)]
          rw [e] at S'
          exact ⟨ow', S'⟩
      · exact h.elim
    · exact h.elim
  · exact h.elim
end
end VL

namespace VL
open PySem PySem.Spec PyProof.Rows L2
section
variable {X : Cx}
end
end VL

namespace VL
open PySem PySem.Spec PyProof.Rows L2
section
variable {X : Cx} {G : GX} {C : Fc} {W : WX} {r : Rho} {T : List (D × V)} {s : L2.St} {H : Hp}
end
end VL

namespace VL
open PySem PySem.Spec PyProof.Rows L2
section
variable {X : Cx}
end
section
variable {X : Cx} {G : GX} {C : Fc} {W : WX} {ow ow' : Ow} {r : Rho} {T T1 T2 : List (D × V)} {s : L2.St} {H H' : Hp} {fa fb fc : Ev}
end
end VL

namespace VL
open PySem PySem.Spec PyProof.Rows L2
section
variable {X : Cx} {G : GX} {C : Fc} {W : WX}
variable {ow ow' : Ow} {r : Rho} {T : List (D × V)} {s : L2.St} {H H' : Hp}
end
end VL

namespace VL
open PySem PySem.Spec PyProof.Rows L2
def appVK (c : Int) (y : R) (r : Rho) : EO := match y with
  | .val (.node .lst true ds) => if ds.length < 16777216 then .ok (.val .non) r else .bad
  | _ => .bad
def cAppV (fa : Ev) (c : Int) : Ev := fun r => (fa r).bd fun y r1 => appVK c y r1
section
variable {X : Cx} {G : GX} {C : Fc} {W : WX} {fa : Ev}
theorem ve_appV {e : Expr} {c : Int} {n2 : Nat} {pe apos cpos : Pos} (he : VE X G C W e fa)
    (hbase : attributeBase e "append" X.env (eval e X.env) = eval e X.env := by rfl)
    (hfew : ((backTo cpos (starEach [.Constant (.int c) n2 pe] X.env)).all (fun x => !x.1) && (backToKw cpos (keywordEach [] X.env)).all (fun x => x.1.isSome)
      && decide ([Expr.Constant (.int c) n2 pe].length + ([] : List Keyword).length + (if ([] : List Keyword).isEmpty then 0 else 1) < 30)) = true := by rfl)
    (hline : (apos.endLine == cpos.line) = true := by rfl) (hs : starEach [.Constant (.int c) n2 pe] X.env = (false, eval (.Constant (.int c) n2 pe) X.env) :: starEach [] X.env := by rfl) (hplain : (backTo cpos (starEach [] X.env)).any (·.1) = false := by rfl) :
    VE X G C W (.Call (.Attribute e "append" apos) [.Constant (.int c) n2 pe] [] cpos) (cAppV fa c) := by
  refine PE.imp (pe_bm PySem.F.plainAttrs_list PySem.F.slot_list_append PySem.F.type_list_append mt_append he (pa_cons pe_int pa_nil hs) hbase hfew hline hs hplain) fun s H Q h => ?_
  obtain ⟨r, T, S, g⟩ := h
  have g : Goes G C W T s Q ((fa r).bd fun y r1 => appVK c y r1) := g
  refine one S g fun y v' r1 H1 P g => ?_
  · unfold appVK at g
    split at g
    · rename_i ds
      split at g
      · rename_i hz
        obtain ⟨⟨ow, S1⟩, _⟩ := P
        have S1 : StW G C ow r1 (T ++ [(.node .lst true ds, v')]) s H1 := S1
        obtain ⟨b, ws, eb, hB, oB, _⟩ := StW.last S1
        subst eb
        have hB : H1 b = some (.lst ws) := hB
        refine ⟨.inl ⟨rfl, ws, SqL.of hB⟩, ?_⟩
        have S2 := S1.push (d := .int c) (v := .int c) rfl
        have S2 : StW G C ow r1 (T ++ [(.node .lst true ds, .ref b), (.int c, .int c)]) s H1 := by simpa using S2
        obtain ⟨ws2, h1, h2, S3⟩ := StW.appT S2
        rw [hB] at h1
        cases h1
        exact ⟨b, ws, .int c, rfl, rfl, hB, by rw [h2, sizeLine_eq]; exact hz, g _ _ ⟨StOk.pushN (StOk.drop ⟨_, S3⟩), trivial⟩⟩
      · exact g.elim
    · exact g.elim
end
theorem appV_ok {fa : Ev} {c : Int} {r r1 : Rho} {ds : List D} (h : fa r = .ok (.val (.node .lst true ds)) r1) (hl : ds.length < 16777216) : cExpr (cAppV fa c) r = .nx r1 := by
  rw [q_expr]
  unfold cAppV
  rw [h, bd_ok]
  show (if ds.length < 16777216 then EO.ok (.val .non) r1 else .bad).st _ = _
  rw [if_pos hl]
  rfl
end VL

namespace VL
open PySem PySem.Spec PyProof.Rows L2
open Classical in
noncomputable def gSortedNO : List R → Rho → EO := fun xs r => match xs with
  | [.val (.node .lst true ds)] => (match nlsOf ds with
    | some ps => if ds = ps.map (nlD true) then .ok (.val (.node .lst true ((srtN ps).map (nlD true)))) r else .bad
    | none => .bad)
  | _ => .bad
theorem zip_mapg {α β γ : Type} (f : α → β) (g : α → γ) : ∀ xs : List α, (xs.map f).zip (xs.map g) = xs.map fun x => (f x, g x)
  | [] => rfl
  | x :: xs => by
    show (f x, g x) :: (xs.map f).zip (xs.map g) = _
    rw [zip_mapg f g xs]
    rfl
section
variable {X : Cx} {G : GX} {C : Fc} {W : WX} {ow ow' : Ow} {r : Rho} {T T1 T2 : List (D × V)} {s : L2.St} {H H' : Hp}
abbrev nlG (H : Hp) (t : Addr) : D × V := (nlD true (kNl H t), V.ref t)
theorem nl_nodup {ts : List Addr} (S : StW G C ow r (T ++ ts.map (nlG H)) s H) (hN : ∀ t ∈ ts, H t = some (.tup [.int (kNl H t).1, .ref (lNl H t)])) : ts.Nodup := by
  have own : ∀ (i : Nat) (h : i < ts.length), ow (lNl H ts[i]) = some ⟨.tm (T.length + i), [1]⟩ := fun i h => by
    have z := S.tm (T.length + i) (nlD true (kNl H ts[i])) (.ref ts[i]) (by
      rw [List.getElem?_append_right (by omega), show T.length + i - T.length = i by omega, List.getElem?_map, List.getElem?_eq_getElem h]
      rfl)
    obtain ⟨a, us, ea, hA, oA, rA⟩ := z
    obtain ⟨v2, us1, e4, rI, rA⟩ := rA
    obtain ⟨v1, us2, e5, rL, rA⟩ := rA
    obtain ⟨b, ys, eb, hB, oB, rB⟩ := rL
    subst e4 e5 eb
    cases ea
    have hA : H ts[i] = some (.tup (v2 :: .ref b :: us2)) := hA
    rw [hN ts[i] (List.getElem_mem h)] at hA
    have e : b = lNl H ts[i] := by
      injection hA with hA
      injection hA with hA
      injection hA with h1 hA
      injection hA with h2 hA
      injection h2 with h2
      exact h2.symm
    rw [← e]
    have z := oB.cases.resolve_left (fun z => nomatch z)
    rw [z]
    rfl
  refine List.pairwise_iff_getElem.mpr fun i j hi hj hij e => ?_
  have h1 := own i hi
  have h2 := own j hj
  rw [e, h2] at h1
  injection h1 with h1
  injection h1 with h1 _
  injection h1 with h1
  omega
theorem cs_sortedNO (hu : X.A.units + 65 < cLine) : CallS X (.builtin "sorted") gSortedNO := by
  refine ⟨_, cr_sortedNL (by omega), fun G hG C W r T s H xs vs Q S l q => ?_⟩
  unfold gSortedNO at q
  split at q
  · rename_i ds
    obtain ⟨v, ev, lx, ep⟩ := one_arg l
    rw [ep] at S
    subst ev
    obtain ⟨ow, S⟩ := S
    split at q
    · rename_i ps e2
      split at q
      · rename_i ed
        obtain ⟨ow', a, ws, S', ea, h1, rx, _⟩ := StW.parts S lx (show opd r (.val (.node .lst true ds)) = some (.node .lst true ds) from rfl)
        subst ea
        obtain ⟨zs, z1, z2, z3⟩ := nls_rep e2 (rx ⟨.fo, []⟩)
        have ek : ∀ z ∈ zs, kNl H z.1 = z.2.2 ∧ lNl H z.1 = z.2.1 := fun z hz => by
          obtain ⟨h1, h2, _, _⟩ := z3 z hz
          constructor
          · unfold kNl
            rw [h1]
            show (z.2.2.1, kAt H z.2.1) = _
            rw [kAt_of h2]
          · unfold lNl
            rw [h1]
        have hN : ∀ t ∈ zs.map (·.1), H t = some (.tup [.int (kNl H t).1, .ref (lNl H t)]) ∧ H (lNl H t) = some (.lst ((kNl H t).2.map V.int)) := fun t ht => by
          obtain ⟨z, hz, rfl⟩ := List.mem_map.mp ht
          rw [(ek z hz).1, (ek z hz).2]
          exact ⟨(z3 z hz).1, (z3 z hz).2.1⟩
        have e3 : (zs.map (·.1)).map (kNl H) = ps := by
          rw [List.map_map, ← z1]
          exact List.map_congr_left fun z hz => (ek z hz).1
        have ew : ws = (zs.map (·.1)).map V.ref := by rw [z2, List.map_map]; rfl
        generalize zs.map (·.1) = ts at hN e3 ew
        obtain ⟨a', ws', ev', ha', l1, S2⟩ := StW.spread (S := (show StW G C ow r (T ++ [(.node .lst true ds, .ref a)]) s H from S))
        cases ev'
        have h1 : H a = some (.lst ws) := h1
        have ha' : H a = some (.lst ws') := ha'
        have e4 : ws' = ws := by
          rw [h1] at ha'
          injection ha' with ha'
          injection ha' with ha'
          exact ha'.symm
        subst e4
        have ezip : ds.zip ws' = ts.map (nlG H) := by
          rw [ed, ew, ← e3, List.map_map]
          exact zip_mapg _ _ ts
        rw [ezip] at S2
        have nd := nl_nodup S2 fun t ht => (hN t ht).1
        refine ⟨a, ts, kNl H, lNl H, rfl, by rw [← ew]; exact SqL.of h1, hN, fun ts' p hp hs hn => ?_⟩
        have nd' : ts'.Nodup := hp.nodup_iff.mpr nd
        have es : ts'.map (kNl H) = srtN ps := by
          refine upN_unique ((hp.map (kNl H)).trans ?_) (List.pairwise_map.mpr hs) (srtN_up ps)
          rw [e3]
          exact (srtN_perm ps).symm
        have S3 : StW G C _ r (T ++ ts'.map (nlG H)) s H := S2.perm (f := fun i => if i < T.length then i else T.length + ts'.idxOf (ts.getD (i - T.length) 0)) fun j pr qj => by
          by_cases h1 : j < T.length
          · refine ⟨j, ?_, if_pos h1⟩
            rw [List.getElem?_append_left h1] at qj ⊢
            exact qj
          · rw [List.getElem?_append_right (by omega)] at qj
            have hm := (List.getElem?_eq_some_iff.mp qj).1
            rw [List.length_map] at hm
            rw [List.getElem?_map, List.getElem?_eq_getElem hm] at qj
            have qj := Option.some.inj qj
            have ht : ts'[j - T.length] ∈ ts := hp.mem_iff.mp (List.getElem_mem hm)
            have hi := List.idxOf_lt_length_of_mem ht
            refine ⟨T.length + ts.idxOf ts'[j - T.length], ?_, ?_⟩
            · rw [List.getElem?_append_right (by omega), show T.length + ts.idxOf ts'[j - T.length] - T.length = ts.idxOf ts'[j - T.length] by omega, List.getElem?_map, List.getElem?_eq_getElem hi, List.getElem_idxOf hi]
              exact congrArg some qj
            · show (if _ < T.length then _ else _) = j
              rw [if_neg (by omega), show T.length + ts.idxOf ts'[j - T.length] - T.length = ts.idxOf ts'[j - T.length] by omega, List.getD_eq_getElem?_getD, List.getElem?_eq_getElem hi]
              show T.length + ts'.idxOf ts[ts.idxOf ts'[j - T.length]] = j
              rw [List.getElem_idxOf hi, nd'.idxOf_getElem _ hm]
              omega
        have ez2 : ts'.map (nlG H) = ((srtN ps).map (nlD true)).zip (ts'.map V.ref) := by
          rw [← es, List.map_map]
          exact (zip_mapg _ _ ts').symm
        rw [ez2] at S3
        exact q _ _ ⟨StOk.alloc (k := .lst) (ho := .lst (ts'.map V.ref)) true ⟨_, S3⟩ (by rw [← es, List.length_map, List.length_map, List.length_map]) hn holds_lst (fun _ => trivial), trivial⟩
      · exact q.elim
    · exact q.elim
  · exact q.elim
end
open Classical in
theorem sortedNO_ok {fa : Ev} {r r1 : Rho} {ps : List NK} (h : fa r = .ok (.val (.node .lst true (ps.map (nlD true)))) r1) : cB gSortedNO (cCons fa cNil) r = .ok (.val (.node .lst true ((srtN ps).map (nlD true)))) r1 := by
  rw [q_B, q_cons, h]
  show gSortedNO [.val (.node .lst true (ps.map (nlD true)))] r1 = _
  unfold gSortedNO
  show (match nlsOf (ps.map (nlD true)) with
    | some qs => if ps.map (nlD true) = qs.map (nlD true) then EO.ok (.val (.node .lst true ((srtN qs).map (nlD true)))) r1 else .bad
    | none => .bad) = _
  rw [nlsOf_map]
  exact if_pos rfl
end VL

namespace VL
open PySem PySem.Spec PyProof.Rows L2
abbrev FKl (x : Str) (s : Stmt) : Prop := List.lookup x (defScope s).names = some .local
abbrev FKg (x : Str) (s : Stmt) : Prop := List.lookup x (defScope s).names = some .globalImplicit
abbrev FNi (l : List Str) (i : Nat) (x : Str) : Prop := l[i]? = some x
abbrev FDb (x : Str) : Prop := (x == ("__debug__" : Str)) = false
abbrev FCd (x : Str) : Prop := (x == ("__classdict__" : Str)) = false
end VL
namespace K09
def tab : Tab := [(2, .inl 0, true), (2, .inl 2, true), (2, .inr "ValueError", true), (2, .inl 4, false), (2, .inl 6, false), (2, .inl 1, false), (2, .inl 3, false), (2, .inl 7, false), (2, .inl 5, false), (1, .inl 0, true), (1, .inl 2, false), (1, .inr "ValueError", true), (1, .inl 4, false), (1, .inl 6, false), (1, .inl 1, true), (1, .inl 3, false), (1, .inl 7, false), (1, .inl 5, false)]
noncomputable def f__law_decks : Sv := (cSeq (cAsg (.nm 1) (cSl (cVar 0) none (some (cC (.int 63)))))
  (cSeq (cIfS (cBin gEq (cVar 1) (cLst cNil)) (cAsg (.nm 1) (cLst (cCons (cSet (cC (.int 0))) cNil))) cSkip)
  (cRet (cLc [2] (.nm 2) (iRng rngI1 (cCons (cB (b1 lenD) (cCons (cVar 1) cNil)) cNil)) none (cLst (cCons (cSet (cBin gIx (cVar 1) (cVar 2))) (cCons (cSet (cBin gMod (cB (b1 lenD) (cCons (cVar 0) cNil)) (cC (.int 2)))) (cCons (cSet (cBin gMul (cC (.int 7)) (cVar 2))) cNil))))))))
noncomputable def F__law_decks : List D → FO := runF 3 f__law_decks
noncomputable def f__law_draw : Sv := (cSeq (cIfS (cBin gEq (cBin gIx (cVar 0) (cC (.int 1))) (cC (.int 0))) (cSeq (cAsg (.nm 2) (cBin gMod (cBin gIx (cVar 0) (cC (.int 0))) (cVar 1)))
  (cSeq (cSetIx 0 (cC (.int 0)) (cBin gDiv (cBin gIx (cVar 0) (cC (.int 0))) (cVar 1)))
  (cRet (cVar 2)))) cSkip)
  (cSeq (cSetIx 0 (cC (.int 2)) (cBin gAdd (cBin gIx (cVar 0) (cC (.int 2))) (cC (.int 1))))
  (cSeq (cAsg (.nm 3) (cBin gMod (cBin gAdd (cBin gMul (cBin gMod (cBin gIx (cVar 0) (cC (.int 0))) (cC (.int 1000000007))) (cC (.int 7919))) (cBin gMul (cBin gIx (cVar 0) (cC (.int 2))) (cC (.int 104729)))) (cC (.int 1000000009))))
  (cSeq (cAsg (.nm 3) (cBin gMod (cBin gMul (cVar 3) (cVar 3)) (cC (.int 998244353))))
  (cRet (cBin gMod (cBin gDiv (cBin gMod (cBin gAdd (cBin gMul (cVar 3) (cC (.int 31337))) (cBin gIx (cVar 0) (cC (.int 2)))) (cC (.int 754974721))) (cC (.int 3))) (cVar 1)))))))
noncomputable def F__law_draw : D → List D → MO := runQ 0 4 f__law_draw
noncomputable def f__law_drawn_lengths : Sv := (cSeq (cAsg (.nm 2) (cLst cNil))
  (cSeq (cAsg (.nm 3) (cNeg (cC (.int 1))))
  (cSeq (cFor (.nm 4) (iLst (cSlV (cCall 1 F__law_decks (cCons (cVar 0) cNil)) none (some (cVar 1)))) (cSeq (cAsg (.nm 3) (cBin gAdd (cBin gAdd (cVar 3) (cC (.int 1))) (cCallQ 0 1 F__law_draw (cCons (cVar 4) (cCons (cSet (cC (.int 4))) cNil)))))
  (cExpr (cApp 2 (cTup (cCons (cSet (cVar 3)) (cCons (cSet (cBin gAdd (cC (.int 1)) (cCallQ 0 1 F__law_draw (cCons (cVar 4) (cCons (cSet (cBin gIx (cLst (cCons (cSet (cC (.int 6))) (cCons (cSet (cC (.int 12))) (cCons (cSet (cC (.int 12))) (cCons (cSet (cC (.int 257))) (cCons (cSet (cBin gPow (cC (.int 10)) (cC (.int 20)))) cNil)))))) (cCallQ 0 1 F__law_draw (cCons (cVar 4) (cCons (cSet (cC (.int 5))) cNil))))) cNil))))) cNil)))))))
  (cRet (cVar 2)))))
noncomputable def F__law_drawn_lengths : List D → FO := runF 5 f__law_drawn_lengths
noncomputable def f__law_words : Sv := (cSeq (cAsg (.nm 1) (cLst cNil))
  (cSeq (cAsg (.nm 2) (cLst cNil))
  (cSeq (cFor (.tp [3, 4]) (iLst (cB gSortedP (cCons (cLc [4, 3] (.tp [4, 3]) (iLst (cVar 0)) none (cTup (cCons (cSet (cVar 3)) (cCons (cSet (cVar 4)) cNil)))) cNil))) (cSeq (cIfS (cBin gEq (cVar 1) (cLst cNil)) (cAsg (.nm 2) (cBin gMul (cLst (cCons (cSet (cC (.int 0))) cNil)) (cVar 3))) (cSeq (cAsg (.nm 2) (cB (gListOf) (cCons (cVar 2) cNil)))
  (cSeq (cAsg (.nm 5) (cBin gSub (cB (b1 lenD) (cCons (cVar 2) cNil)) (cC (.int 1))))
  (cSeq (whileL (cBin gEq (cBin gIx (cVar 2) (cVar 5)) (cC (.int 1))) (cSeq (cSetIx 2 (cVar 5) (cC (.int 0)))
  (cAsg (.nm 5) (cBin gSub (cVar 5) (cC (.int 1))))) fuel)
  (cSeq (cSetIx 2 (cVar 5) (cC (.int 1)))
  (cAsg (.nm 2) (cBin gAdd (cVar 2) (cBin gMul (cLst (cCons (cSet (cC (.int 0))) cNil)) (cBin gSub (cVar 3) (cB (b1 lenD) (cCons (cVar 2) cNil)))))))))))
  (cExpr (cApp 1 (cTup (cCons (cSet (cVar 4)) (cCons (cSet (cVar 2)) cNil)))))))
  (cRet (cB gSortedN (cCons (cVar 1) cNil))))))
noncomputable def F__law_words : List D → FO := runF 6 f__law_words
noncomputable def f_room_of : Sv := (cSeq (cAsg (.nm 1) (cC (.int 115792089237316195423570985008687907853269984665640564039457584007913129639936)))
  (cSeq (cFor (.nm 2) (iRng rngI1 (cCons (cVar 0) cNil)) (cAsg (.nm 1) (cBin gDiv (cVar 1) (cC (.int 2)))))
  (cRet (cVar 1))))
noncomputable def F_room_of : List D → FO := runF 3 f_room_of
noncomputable def f_need_words : Sv := (cSeq (cIfS (cBin gNe (cLc [1, 2] (.tp [1, 2]) (iLst (cVar 0)) (some (cBin gGt (cVar 2) (cC (.int 256)))) (cVar 2)) (cLst cNil)) (cRaise 2) cSkip)
  (cIfS (cBin gGt (cB (b1 sumD) (cCons (cLc [1, 2] (.tp [1, 2]) (iLst (cVar 0)) none (cCall 1 F_room_of (cCons (cVar 2) cNil))) cNil)) (cC (.int 115792089237316195423570985008687907853269984665640564039457584007913129639936))) (cRaise 2) cSkip))
noncomputable def F_need_words : List D → FO := runF 3 f_need_words
noncomputable def f_figures_of : Sv := (cSeq (cAsg (.nm 1) (cLst cNil))
  (cSeq (whileL (cBin gGt (cVar 0) (cC (.int 0))) (cSeq (cExpr (cApp 1 (cBin gMod (cVar 0) (cC (.int 2)))))
  (cAsg (.nm 0) (cBin gDiv (cVar 0) (cC (.int 2))))) fuel)
  (cRet (cVar 1))))
noncomputable def F_figures_of : List D → FO := runF 2 f_figures_of
noncomputable def f_low_bits : Sv := (cSeq (cIfS (cBin gLt (cVar 0) (cC (.int 0))) (cRaise 1) cSkip)
  (cSeq (cAsg (.nm 2) (cCall 1 F_figures_of (cCons (cVar 0) cNil)))
  (cSeq (cIfS (cBin gGt (cB (b1 lenD) (cCons (cVar 2) cNil)) (cVar 1)) (cRaise 1) cSkip)
  (cRet (cBin gAdd (cBin gMul (cLst (cCons (cSet (cC (.int 0))) cNil)) (cBin gSub (cVar 1) (cB (b1 lenD) (cCons (cVar 2) cNil)))) (cRev (cVar 2)))))))
noncomputable def F_low_bits : List D → FO := runF 3 f_low_bits
noncomputable def f_words_by : Sv := (cSeq (cExpr (cCall 1 F_need_words (cCons (cVar 0) cNil)))
  (cSeq (cAsg (.nm 1) (cLst cNil))
  (cSeq (cAsg (.nm 2) (cC (.int 0)))
  (cSeq (cAsg (.nm 3) (cC (.int 0)))
  (cSeq (cFor (.tp [4, 5]) (iLst (cB gSortedP (cCons (cLc [5, 4] (.tp [5, 4]) (iLst (cVar 0)) none (cTup (cCons (cSet (cVar 4)) (cCons (cSet (cVar 5)) cNil)))) cNil))) (cSeq (cFor (.nm 6) (iRng rngI1 (cCons (cBin gSub (cVar 4) (cVar 3)) cNil)) (cAsg (.nm 2) (cBin gMul (cC (.int 2)) (cVar 2))))
  (cSeq (cExpr (cApp 1 (cTup (cCons (cSet (cVar 5)) (cCons (cSet (cCall 2 F_low_bits (cCons (cVar 2) (cCons (cVar 4) cNil)))) cNil)))))
  (cSeq (cAug 2 (g2 iAdd) (cC (.int 1)))
  (cAsg (.nm 3) (cVar 4))))))
  (cRet (cB gSortedNO (cCons (cTake 1) cNil))))))))
noncomputable def F_words_by : List D → FO := runF 7 f_words_by
noncomputable def f__law_let : Sv := (cSeq (cIfS (cBin gGt (cB (b1 maxD) (cCons (cBin gAdd (cLst (cCons (cSet (cC (.int 0))) cNil)) (cLc [3, 4] (.tp [3, 4]) (iLst (cVar 0)) none (cVar 4))) cNil)) (cC (.int 256))) (cRet (cC (.bl false))) cSkip)
  (cSeq (cAsg (.nm 1) (cBin gMul (cBin gMul (cBin gMul (cBin gPow (cC (.int 2)) (cC (.int 64))) (cBin gPow (cC (.int 2)) (cC (.int 64)))) (cBin gPow (cC (.int 2)) (cC (.int 64)))) (cBin gPow (cC (.int 2)) (cC (.int 64)))))
  (cSeq (cAsg (.nm 2) (cC (.int 0)))
  (cSeq (cFor (.tp [3, 4]) (iLst (cVar 0)) (cSeq (cAsg (.nm 5) (cVar 1))
  (cSeq (cFor (.nm 6) (iRng rngI1 (cCons (cVar 4) cNil)) (cAsg (.nm 5) (cBin gDiv (cVar 5) (cC (.int 2)))))
  (cAsg (.nm 2) (cBin gAdd (cVar 2) (cVar 5))))))
  (cRet (cBin gLe (cVar 2) (cVar 1)))))))
noncomputable def F__law_let : List D → FO := runF 7 f__law_let
noncomputable def f__law_refused : Sv := (cSeq (cAsg (.nm 1) (cC .non))
  (cSeq (cTry (tbOf tab 0) (some 2) (cExpr (cCall 1 F_words_by (cCons (cVar 0) cNil))) (cAsg (.nm 1) (cVar 2)))
  (cSeq (cIfS (cOr (cNot (cB (gIsi (etab tab)) (cCons (cVar 1) (cCons (cC (.cls 2)) cNil)))) (cNot (cB (gIsi (etab tab)) (cCons (cVar 1) (cCons (cC (.ty "ValueError")) cNil))))) (cRet (cC (.bl false))) cSkip)
  (cRet (cNot (cB (gIsi (etab tab)) (cCons (cVar 1) (cCons (cSet (cTup (cCons (cSet (cC (.cls 4))) (cCons (cSet (cC (.cls 6))) (cCons (cSet (cC (.cls 1))) (cCons (cSet (cC (.cls 3))) (cCons (cSet (cC (.cls 7))) (cCons (cSet (cC (.cls 5))) cNil)))))))) cNil))))))))
noncomputable def F__law_refused : List D → FO := runF 3 f__law_refused
noncomputable def f__law_shaped : Sv := (cSeq (cIfS (cNot (cB (gIsi (etab tab)) (cCons (cVar 0) (cCons (cC (.ty "list")) cNil)))) (cRet (cC (.bl false))) cSkip)
  (cSeq (cFor (.nm 1) (iLst (cVar 0)) (cSeq (cIfS (cOr (cNot (cB (gIsi (etab tab)) (cCons (cVar 1) (cCons (cC (.ty "tuple")) cNil)))) (cOr (cBin gNe (cB (b1 lenD) (cCons (cVar 1) cNil)) (cC (.int 2))) (cNot (cB (gIsi (etab tab)) (cCons (cBin gIx (cVar 1) (cC (.int 1))) (cCons (cC (.ty "list")) cNil)))))) (cRet (cC (.bl false))) cSkip)
  (cIfS (cBin gNe (cLc [2] (.nm 2) (iLst (cBin gAdd (cLst (cCons (cSet (cBin gIx (cVar 1) (cC (.int 0)))) cNil)) (cBin gIx (cVar 1) (cC (.int 1))))) (some (cOr (cNot (cB (gIsi (etab tab)) (cCons (cVar 2) (cCons (cC (.ty "int")) cNil)))) (cB (gIsi (etab tab)) (cCons (cVar 2) (cCons (cC (.ty "bool")) cNil))))) (cVar 2)) (cLst cNil)) (cRet (cC (.bl false))) cSkip)))
  (cRet (cC (.bl true)))))
noncomputable def F__law_shaped : List D → FO := runF 3 f__law_shaped
noncomputable def f__law_good : Sv := (cSeq (cAsg (.nm 1) (cB (gListOf) (cCons (cVar 0) cNil)))
  (cSeq (cIfS (cNot (cCall 1 F__law_let (cCons (cVar 0) cNil))) (cRet (cAnd (cCall 1 F__law_refused (cCons (cVar 1) cNil)) (cBin gEq (cVar 1) (cVar 0)))) cSkip)
  (cSeq (cAsg (.nm 2) (cCall 1 F__law_words (cCons (cVar 0) cNil)))
  (cSeq (cAsg (.nm 3) (cCall 1 F_words_by (cCons (cVar 1) cNil)))
  (cSeq (cIfS (cOr (cNot (cCall 1 F__law_shaped (cCons (cVar 3) cNil))) (cOr (cBin gNe (cVar 3) (cVar 2)) (cBin gNe (cVar 1) (cVar 0)))) (cRet (cC (.bl false))) cSkip)
  (cSeq (cAsg (.nm 4) (cB gSortedL (cCons (cLc [6, 7] (.tp [6, 7]) (iLst (cVar 2)) none (cVar 7)) cNil)))
  (cSeq (cFor (.nm 5) (iRng rngI2 (cCons (cC (.int 1)) (cCons (cB (b1 lenD) (cCons (cVar 4) cNil)) cNil))) (cIfS (cBin gEq (cSl (cBin gIx (cVar 4) (cVar 5)) none (some (cB (b1 lenD) (cCons (cBin gIx (cVar 4) (cBin gSub (cVar 5) (cC (.int 1)))) cNil)))) (cBin gIx (cVar 4) (cBin gSub (cVar 5) (cC (.int 1))))) (cRet (cC (.bl false))) cSkip))
  (cSeq (cForApp 3 [] 6 7 1)
  (cRet (cBin gEq (cCall 1 F_words_by (cCons (cVar 1) cNil)) (cVar 2)))))))))))
noncomputable def F__law_good : List D → FO := runF 8 f__law_good
noncomputable def f_lengths_by : Sv := (cSeq (cAsg (.nm 2) (cBin gMul (cLst (cCons (cSet (cC (.int 0))) cNil)) (cBin gAdd (cB (b1 lenD) (cCons (cVar 0) cNil)) (cB (b1 lenD) (cCons (cVar 1) cNil)))))
  (cSeq (cFor (.nm 3) (iRng rngI3 (cCons (cBin gSub (cB (b1 lenD) (cCons (cVar 1) cNil)) (cC (.int 1))) (cCons (cNeg (cC (.int 1))) (cCons (cNeg (cC (.int 1))) cNil)))) (cFor (.nm 4) (iTpl (cBin gIx (cVar 1) (cVar 3))) (cSetIx 2 (cVar 4) (cBin gAdd (cBin gIx (cVar 2) (cBin gAdd (cB (b1 lenD) (cCons (cVar 0) cNil)) (cVar 3))) (cC (.int 1))))))
  (cRet (cLc [3] (.nm 3) (iRng rngI1 (cCons (cB (b1 lenD) (cCons (cVar 0) cNil)) cNil)) none (cTup (cCons (cSet (cBin gIx (cBin gIx (cVar 0) (cVar 3)) (cC (.int 0)))) (cCons (cSet (cB (gMax2) (cCons (cC (.int 1)) (cCons (cBin gIx (cVar 2) (cVar 3)) cNil)))) cNil)))))))
noncomputable def F_lengths_by : List D → FO := runF 5 f_lengths_by
noncomputable def f_joinings_of : Sv := (cSeq (cAsg (.nm 1) (cB gSortedP (cCons (cLc [7, 8, 9] (.tn 7 [8, 9]) (iRng gEn (cCons (cSet (cVar 0)) cNil)) none (cTup (cCons (cSet (cVar 9)) (cCons (cSet (cVar 7)) cNil)))) cNil)))
  (cSeq (cAsg (.nm 2) (cLst cNil))
  (cSeq (whileL (cBin gGt (cB (b1 lenD) (cCons (cVar 1) cNil)) (cC (.int 1))) (cSeq (cAsgPP [3, 4] [5, 6] (cSl (cVar 1) none (some (cC (.int 2)))))
  (cSeq (cAsg (.nm 1) (cB gSortedP (cCons (cBin gAdd (cSl (cVar 1) (some (cC (.int 2))) none) (cLst (cCons (cSet (cTup (cCons (cSet (cBin gAdd (cVar 3) (cVar 5))) (cCons (cSet (cBin gAdd (cB (b1 lenD) (cCons (cVar 0) cNil)) (cB (b1 lenD) (cCons (cVar 2) cNil)))) cNil)))) cNil))) cNil)))
  (cExpr (cApp 2 (cTup (cCons (cSet (cB (gMin2) (cCons (cVar 4) (cCons (cVar 6) cNil)))) (cCons (cSet (cB (gMax2) (cCons (cVar 4) (cCons (cVar 6) cNil)))) cNil))))))) fuel)
  (cRet (cVar 2)))))
noncomputable def F_joinings_of : List D → FO := runF 10 f_joinings_of
noncomputable def f_least_lengths : Sv := (cRet (cCall 2 F_lengths_by (cCons (cVar 0) (cCons (cCall 1 F_joinings_of (cCons (cVar 0) cNil)) cNil))))
noncomputable def F_least_lengths : List D → FO := runF 1 f_least_lengths
noncomputable def f_counts_of : Sv := (cSeq (cAsg (.nm 1) cDNew)
  (cSeq (cFor (.nm 2) (iLst (cVar 0)) (cDPut 1 (cVar 2) (cBin gAdd (cDGetZ 1 (cVar 2) (cC (.int 0))) (cC (.int 1)))))
  (cRet (cSortItems 1))))
noncomputable def F_counts_of : List D → FO := runF 3 f_counts_of
noncomputable def f__law_text : Sv := (cSeq (cAsg (.nm 1) (cLst cNil))
  (cSeq (cFor (.nm 2) (iLst (cCall 1 F__law_decks (cCons (cVar 0) cNil))) (cSeq (cAsg (.nm 3) (cBin gIx (cLst (cCons (cSet (cC (.int 2))) (cCons (cSet (cC (.int 5))) (cCons (cSet (cC (.int 16))) (cCons (cSet (cC (.int 256))) cNil))))) (cCallQ 0 1 F__law_draw (cCons (cVar 2) (cCons (cSet (cC (.int 4))) cNil)))))
  (cSeq (cAsg (.nm 4) (cCallQ 0 1 F__law_draw (cCons (cVar 2) (cCons (cSet (cBin gSub (cC (.int 257)) (cVar 3))) cNil))))
  (cAsg (.nm 1) (cBin gAdd (cVar 1) (cLc [5] (.nm 5) (iRng rngI1 (cCons (cCallQ 0 1 F__law_draw (cCons (cVar 2) (cCons (cSet (cC (.int 7))) cNil))) cNil)) none (cBin gAdd (cVar 4) (cCallQ 0 1 F__law_draw (cCons (cVar 2) (cCons (cSet (cVar 3)) cNil))))))))))
  (cRet (cVar 1))))
noncomputable def F__law_text : List D → FO := runF 6 f__law_text
noncomputable def f_law : Sv := (cSeq (cAsg (.nm 1) (cCall 2 F__law_drawn_lengths (cCons (cVar 0) (cCons (cC (.int 60)) cNil))))
  (cSeq (cAsg (.nm 2) (cC (.int 0)))
  (cSeq (whileL (cAnd (cBin gLt (cVar 2) (cB (b1 lenD) (cCons (cVar 1) cNil))) (cCall 1 F__law_let (cCons (cSl (cVar 1) none (some (cBin gAdd (cVar 2) (cC (.int 1))))) cNil))) (cAsg (.nm 2) (cBin gAdd (cVar 2) (cC (.int 1)))) fuel)
  (cSeq (cFor (.nm 3) (iLst (cLst (cCons (cSet (cSl (cVar 1) none (some (cVar 2)))) (cCons (cSet (cVar 1)) (cCons (cSet (cSl (cVar 1) none (some (cBin gAdd (cVar 2) (cC (.int 1)))))) (cCons (cSet (cSl (cVar 1) none (some (cBin gDiv (cB (b1 lenD) (cCons (cVar 1) cNil)) (cC (.int 2)))))) (cCons (cSet (cSl (cVar 1) none (some (cC (.int 1))))) (cCons (cSet (cLst cNil)) cNil)))))))) (cIfS (cNot (cCall 1 F__law_good (cCons (cVar 3) cNil))) (cRet (cC (.bl false))) cSkip))
  (cSeq (cAsg (.nm 4) (cLst cNil))
  (cSeq (cExpr (cAppV (cCall 1 F_words_by (cCons (cVar 4) cNil)) 1))
  (cSeq (cIfS (cBin gNe (cVar 4) (cLst cNil)) (cRet (cC (.bl false))) cSkip)
  (cRet (cCall 1 F__law_good (cCons (cCall 1 F_least_lengths (cCons (cCall 1 F_counts_of (cCons (cCall 1 F__law_text (cCons (cVar 0) cNil)) cNil)) cNil)) cNil))))))))))
noncomputable def F_law : List D → FO := runF 5 f_law
end K09

namespace K09.Bt
open K09
theorem ints_frz (ns : List Int) (o : Bool) : frz (.node .lst o (ns.map .int)) = .node .lst false (ns.map .int) := by
  show D.node .lst false (frzs (ns.map D.int)) = _
  rw [frzs_ints]
theorem figs_loop : ∀ (k m n : Nat) (acc : List Bool), n < 2 ^ k → k < m → acc.length + k < 16777216 → whileL (cBin gGt (cVar 0) (cC (.int 0))) (cSeq (cExpr (cApp 1 (cBin gMod (cVar 0) (cC (.int 2))))) (cAsg (.nm 0) (cBin gDiv (cVar 0) (cC (.int 2))))) m [some (.int n), some (.node .lst true ((VL.bi acc).map .int))] = .nx [some (.int 0), some (.node .lst true ((VL.bi (acc ++ figs n)).map .int))]
  | k, 0, n, acc, _, h, _ => absurd h (Nat.not_lt_zero _)
  | k, m + 1, n, acc, h, hm, ha => by
    unfold whileL
    by_cases h0 : n = 0
    · subst h0
      simp [figs_zero]
    · cases k with
      | zero => simp at h; omega
      | succ k =>
        have e := figs_loop k m (n / 2) (acc ++ [n % 2 == 1]) (by rw [Nat.pow_succ] at h; omega) (by omega) (by simp; omega)
        rw [figs_pos h0]
        have hp : (0 : Int) < n := by omega
        have e1 : ((n / 2 : Nat) : Int) = (n : Int) / 2 := by omega
        have e2 : VL.bi (acc ++ [n % 2 == 1]) = VL.bi acc ++ [(n : Int) % 2] := by
          unfold VL.bi; rw [List.map_append]
          show _ ++ [((n % 2 == 1).toNat : Int)] = _
          have : ((n % 2 == 1).toNat : Int) = (n : Int) % 2 := by
            rcases Nat.mod_two_eq_zero_or_one n with z | z
            · rw [z]; show (0 : Int) = _; omega
            · rw [z]; show (1 : Int) = _; omega
          rw [this]
        have q1 : posOk (n : Int) 2 = true := rfl
        have q2 : divOk (n : Int) 2 = true := rfl
        have hl : (VL.bi acc).length < 16777216 := by simp [VL.bi]; omega
        rw [e1, e2, List.append_assoc, List.map_append] at e
        have hp' : 0 < n := by omega
        simp [hp', q1, q2, hl]
        simpa using e
theorem figures_ok (n : Nat) (h : n < 2 ^ 500) : F_figures_of [.int n] = .ok (.node .lst true ((VL.bi (figs n)).map .int)) := by
  have e := figs_loop 500 fuel n [] h (lt_fuel (by decide)) (by decide)
  have e' : whileL (cBin gGt (cVar 0) (cC (.int 0))) (cSeq (cExpr (cApp 1 (cBin gMod (cVar 0) (cC (.int 2))))) (cAsg (.nm 0) (cBin gDiv (cVar 0) (cC (.int 2))))) fuel [some (.int n), some (.node .lst true [])] = _ := e
  unfold F_figures_of runF f_figures_of
  simp [startR, e']
theorem rep_zero (j : Nat) : (List.replicate j (frzs [D.int 0])).flatten = (VL.bi (List.replicate j false)).map .int := by
  have e : frzs [D.int 0] = [D.int 0] := rfl
  rw [e, List.flatten_replicate_singleton]
  simp [VL.bi]
theorem low_ok (n j : Nat) (hn : n < 2 ^ 500) (hk : j < 1000) : F_low_bits [.int n, .int (((figs n).length : Int) + j)] = .ok (.node .lst true ((VL.bi (List.replicate j false ++ (figs n).reverse)).map .int)) := by
  have fz : frzs [D.int (n : Int)] = [D.int (n : Int)] := rfl
  have e := figures_ok n hn
  have nl := noL_lints (VL.bi (figs n))
  have hl : (VL.bi (figs n)).length = (figs n).length := by simp [VL.bi]
  have hf := figs_len hn
  have g1 : ¬ (((figs n).length : Int) + j < ((figs n).length : Int)) := by omega
  have g2 : -9223372036854775808 ≤ (j : Int) := by omega
  have g3 : (j : Int) < 9223372036854775808 := by omega
  have g4 : j ≤ 16777216 := by omega
  have g5 : j + (figs n).length ≤ 16777216 := by omega
  have h0 : ¬ ((n : Int) < 0) := by omega
  have hr : (VL.bi (List.replicate j false)).length = j := by simp [VL.bi]
  have hv : (List.map D.int (VL.bi (figs n))).reverse = (VL.bi (figs n).reverse).map .int := by simp [VL.bi]
  have ha : VL.bi (List.replicate j false ++ (figs n).reverse) = VL.bi (List.replicate j false) ++ VL.bi (figs n).reverse := by simp [VL.bi]
  have hl2 : (VL.bi (figs n).reverse).length = (figs n).length := by simp [VL.bi]
  unfold F_low_bits runF f_low_bits
  rw [ha, List.map_append]
  simp only [startR]
  have hs : ((figs n).length : Int) + j - (figs n).length = j := by omega
  have ml : ∀ r : Rho, gMul (.val (.node .lst true [.int 0])) (.val (.int (j : Int))) r = .ok (.val (.node .lst true ((VL.bi (List.replicate j false)).map .int))) r := fun r => by
    rw [q_mulL ⟨by omega, by omega, by simp; omega⟩, Int.toNat_natCast, rep_zero]
  have ma : ∀ r : Rho, gAdd (.val (.node .lst true ((VL.bi (List.replicate j false)).map .int))) (.val (.node .lst true ((VL.bi (figs n).reverse).map .int))) r = .ok (.val (.node .lst true ((VL.bi (List.replicate j false) ++ VL.bi (figs n).reverse).map .int))) r := fun r => q_addLI _ _ (by rw [hr, hl2]; exact g5)
  rw [List.map_append] at ma
  have ml2 : ∀ r : Rho, gMul (.val (.node .lst true [.int 0])) (.val (.int (((figs n).length : Int) + j - (figs n).length))) r = .ok (.val (.node .lst true ((VL.bi (List.replicate j false)).map .int))) r := fun r => by rw [hs]; exact ml r
  clear hs ml
  simp [fz, e, nl, ints_frz, hl, h0, g1, frzs_int, ml2, hv, ma]
theorem bi_len (bs : List Bool) : (VL.bi bs).length = bs.length := by simp [VL.bi]
theorem set_same {r : Rho} {i : Nat} {d : D} (h : r[i]? = some (some d)) : r.set i (some d) = r := by
  refine List.ext_getElem? fun j => ?_
  by_cases hj : i = j
  · subst hj
    rw [List.getElem?_set_self (List.getElem?_eq_some_iff.mp h).1, h]
  · rw [List.getElem?_set_ne hj]
def L (bs : List Bool) : D := .node .lst false ((VL.bi bs).map .int)
def enc (n : Nat) : List Bool := List.replicate ((figs n).length - 1) false ++ (figs n).reverse
def nn (ns : List Nat) : List Int := List.map (α := Nat) (fun n => (n : Int)) ns
abbrev B (o : Bool) (bs : List Bool) : D := .node .lst o ((VL.bi bs).map .int)
theorem low_x (x : List Bool) (hx : x.length ≤ 450) : F_low_bits [.int (wb x), .int x.length] = .ok (B true x) := by
  obtain ⟨z, e⟩ := figs_wb x
  have hl : x.length = z + (figs (wb x)).length := by
    have := congrArg List.length e
    simpa using this
  have hn : wb x < 2 ^ 500 := Nat.lt_of_lt_of_le (wb_lt x) (Nat.pow_le_pow_right (by decide) (by omega))
  have q := low_ok (wb x) z hn (by omega)
  have e1 : (((figs (wb x)).length : Int) + (z : Nat)) = (x.length : Int) := by omega
  rw [e1, ← e] at q
  exact q
end K09.Bt

local macro_rules | `(tactic| walk_at "nm") => `(tactic| ((repeat (with_reducible apply VH.set_s)); (with_reducible exact VH.set_0)))
local macro_rules | `(tactic| walk_at "sz") => `(tactic| first | (with_reducible assumption) | exact Nat.le_of_ble_eq_true rfl | omega | (simp only [List.length_map, List.length_append, List.length_cons, List.length_nil, List.length_range, List.length_replicate, List.length_take, List.length_drop, List.length_set, List.length_reverse] <;> omega) | (simp only [List.length_map, List.length_append, List.length_cons, List.length_nil, List.length_range, List.length_replicate, List.length_take, List.length_drop, List.length_set, List.length_reverse] at * <;> omega))
local macro_rules | `(tactic| walk_at "tg") => `(tactic| first | ((with_reducible apply VH.tgt_nm); (walk_at "nm")) | ((with_reducible apply VH.tgt_tp); (exact rfl); (walk_at "sa")) | ((with_reducible apply VH.tgt_tl); (exact rfl); (walk_at "sa")) | exact rfl)
local macro_rules | `(tactic| walk_at "sa") => `(tactic| first | (with_reducible exact VH.setAll_n _) | ((with_reducible apply VH.setAll_c); (walk_at "nm"); (walk_at "sa")))
local macro_rules | `(tactic| walk_at "tc") => `(tactic| first | (with_reducible exact VH.touch_v _ _) | ((with_reducible apply VH.touch_l); (exact rfl); (infer_instance)) | ((with_reducible apply VH.touch_g); (exact rfl); (infer_instance); (walk_at "nm")) | exact rfl)
local macro_rules | `(tactic| walk_at "at") => `(tactic| first | (with_reducible assumption) | (with_reducible refine VH.at_enc ?_; first | assumption | omega) | exact rfl)
local macro_rules | `(tactic| walk_at "bf") => `(tactic| first | exact rfl | assumption | (simp only [decide_eq_false_iff_not, decide_eq_true_eq, Bool.and_eq_false_iff, Bool.and_eq_true, Bool.or_eq_false_iff, Bool.or_eq_true, Bool.not_eq_false', Bool.not_eq_true', Bool.not_true, Bool.not_false, Bool.or_false, Bool.false_or, Bool.and_true, Bool.true_and, Bool.and_false, Bool.false_and, Bool.or_true, Bool.true_or, Bool.or_self, Bool.and_self] <;> omega) | (simp <;> fail) | (simp <;> omega) | (simp [*] <;> fail))
local macro_rules | `(tactic| walk_at "ev") => `(tactic| first | (with_reducible exact VH.cc_d _ _) | (with_reducible exact VH.nil_ok _) | ((with_reducible apply VL.cvar_at); (exact rfl); (exact rfl)) | ((with_reducible apply VL.cvar_loc); (exact rfl); (exact rfl)) | ((with_reducible apply VH.cons_ok); (walk_at "ev"); (walk_at "ev")) | (walk_at "ev1") | (walk_at "ev2") | (walk_at "ev3") | (with_reducible assumption))
local macro_rules | `(tactic| walk_at "ev1") => `(tactic| first | ((with_reducible apply VH.set_loc); (exact rfl); (exact rfl); (infer_instance); (walk_at "nm")) | ((with_reducible apply VH.set_val); (walk_at "ev")) | ((with_reducible apply VH.set_any); (exact rfl); (first | assumption | exact VH.fz)) | ((with_reducible apply VL.add_ok); (walk_at "ev"); (walk_at "ev")) | ((with_reducible apply VL.sub_ok); (walk_at "ev"); (walk_at "ev")) | ((with_reducible apply VL.mod_ok); (walk_at "ev"); (walk_at "ev"); (first | omega | assumption)) | ((with_reducible apply VL.div_ok); (walk_at "ev"); (walk_at "ev"); (first | omega | assumption); (first | omega | assumption)) | ((with_reducible apply VL.lt_ok); (walk_at "ev"); (walk_at "ev")) | ((with_reducible apply VL.le_ok); (walk_at "ev"); (walk_at "ev")) | ((with_reducible apply VL.gt_ok); (walk_at "ev"); (walk_at "ev")) | ((with_reducible apply VL.ge_ok); (walk_at "ev"); (walk_at "ev")) | ((with_reducible apply VL.eq_ok); (walk_at "ev"); (walk_at "ev")) | ((with_reducible apply VL.ne_ok); (walk_at "ev"); (walk_at "ev")) | ((with_reducible apply VL.mul_ok); (walk_at "ev"); (walk_at "ev"); (first | assumption | exact VH.mulOk_l (by omega) | exact VH.mulOk_r (by omega))))
local macro_rules | `(tactic| walk_at "ev2") => `(tactic| first | ((with_reducible apply VH.addL_go); (walk_at "ev"); (walk_at "ev"); (exact rfl); (exact rfl); (infer_instance); (infer_instance); (walk_at "sz"); (walk_at "tc"); (walk_at "tc")) | ((with_reducible apply VH.ixA_go); (walk_at "ev"); (walk_at "ev"); (exact rfl); (exact rfl); (walk_at "at"); (exact rfl)) | ((with_reducible apply VH.ix_go); (walk_at "ev"); (walk_at "ev"); (exact rfl); (exact rfl); (walk_at "at"); (infer_instance); (walk_at "tc"); (intro hat; first | exact rfl | exact Bool.noConfusion hat)) | ((with_reducible apply VH.lenE_go); (walk_at "ev"); (exact rfl); (exact rfl)) | ((with_reducible apply VH.len_go); (walk_at "ev"); (exact rfl); (exact rfl)) | ((with_reducible apply VH.lst_ok); (walk_at "ev"); (exact rfl); (walk_at "sz")) | ((with_reducible apply VH.tup_ok); (walk_at "ev"); (exact rfl); (walk_at "sz")) | ((with_reducible apply VH.call_go); (walk_at "ev"); (exact rfl); (infer_instance); (exact rfl); (with_reducible assumption); (infer_instance)) | ((with_reducible apply VH.call_any); (walk_at "ev"); (exact rfl); (infer_instance); (exact rfl); (with_reducible assumption); (walk_at "se")) | ((with_reducible apply VH.call_set); (walk_at "ev"); (exact rfl); (infer_instance); (exact rfl); (with_reducible assumption); (first | (with_reducible assumption) | exact rfl); (walk_at "se")) | ((with_reducible apply VH.listOf_go); (walk_at "ev"); (exact rfl); (exact rfl); (infer_instance); (walk_at "tc")) | ((with_reducible apply VH.neg_ok); (walk_at "ev")) | ((with_reducible apply VH.max_ok); (walk_at "ev"); (walk_at "ev")) | ((with_reducible apply VH.min_ok); (walk_at "ev"); (walk_at "ev")) | ((with_reducible apply VH.not_t); (walk_at "ev")) | ((with_reducible apply VH.not_f); (walk_at "ev")) | ((with_reducible apply VL.not_ok); (walk_at "ev")) | ((with_reducible apply VH.tru_bl); (walk_at "ev")) | ((with_reducible apply VH.pop_go); (exact rfl); (exact rfl); (infer_instance); (walk_at "nm")) | ((with_reducible apply VH.lrev_go); (walk_at "ev"); (exact rfl); (infer_instance); (walk_at "tc")) | ((with_reducible apply VH.lrevL_go); (walk_at "ev"); (exact rfl); (infer_instance); (walk_at "tc")) | ((with_reducible apply VH.sl_ss); (walk_at "ev"); (exact rfl); (exact rfl); (infer_instance); (walk_at "ev"); (walk_at "ev"); (walk_at "tc"); (first | omega | assumption); (first | omega | assumption)) | ((with_reducible apply VH.sl_ns); (walk_at "ev"); (exact rfl); (exact rfl); (infer_instance); (walk_at "ev"); (walk_at "tc"); (first | omega | assumption)) | ((with_reducible apply VH.sl_sn); (walk_at "ev"); (exact rfl); (exact rfl); (infer_instance); (walk_at "ev"); (walk_at "tc"); (first | omega | assumption)) | ((with_reducible apply VH.pow_go); (walk_at "ev"); (walk_at "ev"); (first | (with_reducible assumption) | exact rfl | decide +kernel); (with_reducible assumption)) | ((with_reducible apply VH.sum_go); (walk_at "ev"); (exact rfl)) | ((with_reducible apply VH.int_bl); (walk_at "ev")) | ((with_reducible apply VH.int_int); (walk_at "ev")))
local macro_rules | `(tactic| walk_at "ev3") => `(tactic| first | ((with_reducible apply VH.and_no); (walk_at "ev")) | ((with_reducible apply VH.and_go); (walk_at "ev"); (walk_at "ev")) | ((with_reducible apply VH.and_b); (walk_at "ev"); (walk_at "ev")) | ((with_reducible apply VH.or_yes); (walk_at "ev")) | ((with_reducible apply VH.or_go); (walk_at "ev"); (walk_at "ev")) | ((with_reducible apply VH.or_b); (walk_at "ev"); (walk_at "ev")) | ((with_reducible apply VH.isi_go); (walk_at "ev"); (exact rfl); (first | exact (rfl : _ = some true) | exact (rfl : _ = some false))) | ((with_reducible apply VH.isiC_go); (walk_at "ev"); (exact rfl); (first | exact (rfl : _ = some true) | exact (rfl : _ = some false))) | ((with_reducible apply VH.eqD_go); (walk_at "ev"); (walk_at "ev"); (exact rfl); (exact rfl); (first | assumption | exact VH.eqL _ _ _ _ | exact VL.eq_lints _ _ | exact VL.eq_prs _ _)) | ((with_reducible apply VH.neD_go); (walk_at "ev"); (walk_at "ev"); (exact rfl); (exact rfl); (first | assumption | exact VH.neL _ _ _ _ | exact VL.ne_lints _ _ | exact VL.ne_prs _ _)) | ((with_reducible apply VH.it_lstG); (walk_at "ev"); (exact rfl)) | ((with_reducible apply VH.it_enumG); (walk_at "ev"); (infer_instance)) | ((with_reducible apply VH.it_rng3); (walk_at "ev"); (walk_at "ev"); (walk_at "ev"); (with_reducible assumption)) | ((with_reducible apply VH.it_rngI); (walk_at "ev"); (first | assumption | exact VL.within_le (by omega) (by omega))) | ((with_reducible apply VH.it_rng2); (walk_at "ev"); (walk_at "ev"); (first | assumption | exact VL.within_le (by omega) (by omega)); (first | assumption | exact VL.within_le (by omega) (by omega))))
local macro_rules | `(tactic| walk_at "st") => `(tactic| first | ((with_reducible apply VH.asg_go); (walk_at "ev"); (walk_at "nm")) | ((with_reducible apply VH.asgT_go); (walk_at "ev"); (walk_at "tg")) | ((with_reducible apply VH.aug_go); (exact rfl); (walk_at "ev"); (walk_at "nm")) | ((with_reducible apply VH.augS_go); (exact rfl); (walk_at "ev"); (walk_at "nm")) | ((with_reducible apply VH.augM_go); (exact rfl); (walk_at "ev"); (first | assumption | exact VH.mulOk_l (by omega) | exact VH.mulOk_r (by omega)); (walk_at "nm")) | ((with_reducible apply VH.app_go); (exact rfl); (walk_at "ev"); (exact rfl); (walk_at "sz"); (walk_at "nm")) | ((with_reducible apply VH.ext_go); (exact rfl); (walk_at "ev"); (exact rfl); (walk_at "tc"); (exact rfl); (infer_instance); (infer_instance); (walk_at "sz"); (walk_at "nm")) | (with_reducible exact VH.skip_go _) | ((with_reducible apply VH.par_go); (walk_at "ev"); (exact rfl); (exact rfl); (walk_at "sa")) | ((with_reducible apply VH.setIx_go); (walk_at "ev"); (exact rfl); (walk_at "ev"); (exact rfl); (first | assumption | exact VH.ixN_nat (by first | assumption | omega)); (walk_at "nm")) | ((with_reducible apply VH.expr_go); (walk_at "ev")) | (with_reducible assumption))
local macro_rules | `(tactic| walk_at "go1") => `(tactic| first | (with_reducible apply VH.seq_as) | ((with_reducible apply VH.seq_ret); (walk_at "ev"); (exact rfl)) | (with_reducible apply VH.seq_sk) | ((with_reducible apply VH.seq_ra); (exact rfl)) | ((with_reducible apply VH.seq_go); (walk_at "st")) | ((with_reducible apply VH.ret_go); (walk_at "ev")) | (walk_at "st"))
local macro_rules | `(tactic| walk_at "go") => `(tactic| (repeat (walk_at "go1")))
local macro_rules | `(tactic| walk_at "yes") => `(tactic| first | ((with_reducible apply VH.seq_yes); (walk_at "ev"); (walk_at "bf")) | ((with_reducible apply VH.ifs_y); (walk_at "ev"); (walk_at "bf")))
local macro_rules | `(tactic| walk_at "no") => `(tactic| first | ((with_reducible apply VH.seq_no); (walk_at "ev"); (walk_at "bf"); (try (with_reducible apply VH.seq_sk))) | ((with_reducible apply VH.ifs_n); (walk_at "ev"); (walk_at "bf")))
local macro_rules | `(tactic| walk_at "for") => `(tactic| first | ((with_reducible apply VH.seq_go); ((with_reducible apply VH.for_go); (walk_at "ev"))) | ((with_reducible apply VH.for_go); (walk_at "ev")))
local macro_rules | `(tactic| walk_at "start") => `(tactic| ((repeat (first | (with_reducible apply VH.start_c) | (with_reducible apply VH.start_n))); (with_reducible exact VH.start_z)))
local macro_rules | `(tactic| walk_at "def") => `(tactic| ((apply VH.runF_go); (walk_at "start"); (show VL.cSeq _ _ _ = _); (walk_at "go")))
local macro_rules | `(tactic| walk_at "se") => `(tactic| first | (with_reducible exact VH.se_n _) | ((with_reducible apply VH.se_v); (walk_at "se")) | ((with_reducible apply VH.se_l); (exact rfl); (infer_instance); (walk_at "nm"); (walk_at "se")))
local macro_rules | `(tactic| walk_at "why") => `(tactic| ((with_reducible apply VH.wh_y); (walk_at "ev"); (walk_at "bf"); (walk_at "go")))
local macro_rules | `(tactic| walk_at "whn") => `(tactic| ((with_reducible apply VH.wh_n); (walk_at "ev"); (walk_at "bf")))
local macro_rules | `(tactic| walk_at "gor") => `(tactic| ((apply VH.nx_to); (walk_at "go"); (exact rfl)))
namespace K09.Co
open VH
open K09 K09.Bt
abbrev Lp := Int × Nat
def pl (p : Lp) : D := .node .tup false [.int p.1, .int (p.2 : Nat)]
theorem frz_pl (p : Lp) : frz (pl p) = pl p := rfl
theorem frzs_pl (L : List Lp) : frzs (L.map pl) = L.map pl := by
  rw [frzs_map, List.map_map]
  exact List.map_congr_left fun p _ => frz_pl p
instance (L : List Lp) : Fzs (L.map pl) (L.map pl) := ⟨frzs_pl L⟩
def room (l : Nat) : Nat := 2 ^ (256 - l)
def kr (L : List Lp) : Nat := (L.map fun p => room p.2).sum
theorem room_loop (A : Option D) : ∀ (ks : List Nat) (n : Nat) (u : Option D), ∃ u', forL (.nm 2) (cAsg (.nm 1) (cBin gDiv (cVar 1) (cC (.int 2)))) (ks.map nt) [A, some (nt n), u] = .nx [A, some (nt (n / 2 ^ ks.length)), u']
  | [], n, u => ⟨u, by rw [List.length_nil, Nat.pow_zero, Nat.div_one]; rfl⟩
  | k :: ks, n, u => by
    obtain ⟨u', ih⟩ := room_loop A ks (n / 2) (some (nt k))
    refine ⟨u', forL_c (r2 := [A, some (nt (n / 2)), some (nt k)]) rfl ?_ ?_⟩
    · exact asg_go (div_ok (i := (n : Int)) (j := 2) rfl rfl (by decide) (by decide)) (by rfl)
    · rw [ih, List.length_cons, Nat.div_div_eq_div_mul, ← Nat.pow_succ']
theorem whole_lit : ((115792089237316195423570985008687907853269984665640564039457584007913129639936 : Int)) = ((2 ^ 256 : Nat) : Int) := by decide +kernel
theorem room_for (l : Nat) (hl : l ≤ 256) : ∃ u', cFor (.nm 2) (iRng rngI1 (cCons (cVar 0) cNil)) (cAsg (.nm 1) (cBin gDiv (cVar 1) (cC (.int 2)))) [some (.int (l : Nat)), some (.int (2 ^ 256 : Nat)), none] = .nx [some (.int (l : Nat)), some (nt (room l)), u'] := by
  obtain ⟨u', e⟩ := room_loop (some (.int (l : Nat))) (List.range l) (2 ^ 256) none
  rw [List.length_range] at e
  have e2 : 2 ^ 256 / 2 ^ l = room l := by
    unfold room
    exact Nat.pow_div hl (by decide)
  rw [e2] at e
  refine ⟨u', for_go (it_rngI rfl (by unfold within; exact decide_eq_true (by omega))) ?_⟩
  rw [Int.toNat_natCast, rng_nt]
  exact e
theorem room_ok (l : Nat) (hl : l ≤ 256) : F_room_of [.int (l : Nat)] = .ok (nt (room l)) := by
  obtain ⟨u', e⟩ := room_for l hl
  unfold F_room_of f_room_of
  rw [whole_lit]
  walk_at "def"
  rfl
theorem longs (L : List Lp) (hl : L.length < 16777216) : cLc [1, 2] (.tp [1, 2]) (iLst (cVar 0)) (some (cBin gGt (cVar 2) (cC (.int 256)))) (cVar 2) [some (.node .lst false (L.map pl)), none, none] = .ok (.val (.node .lst true (((L.filter fun p => decide (256 < (p.2 : Int))).map fun p => ((p.2 : Nat) : Int)).map .int))) [some (.node .lst false (L.map pl)), none, none] := by
  rw [List.map_map]
  refine lc_fl (enc := pl) (g := D.int ∘ fun p => ((p.2 : Nat) : Int)) (p := fun p => decide (256 < (p.2 : Int))) L (r1 := [some (.node .lst false (L.map pl)), none, none]) (r0 := [some (.node .lst false (L.map pl)), none, none]) ?_ rfl hl ?_
  · exact it_lstG (o := false) (k := .lst) (set_loc (d := .node .lst false (L.map pl)) rfl rfl inferInstance rfl) rfl
  · intro p hp
    refine ⟨[some (.node .lst false (L.map pl)), some (.int p.1), some (.int (p.2 : Nat))], rfl, [some (.node .lst false (L.map pl)), some (.int p.1), some (.int (p.2 : Nat))], ?_, rfl, fun _ => ⟨[some (.node .lst false (L.map pl)), some (.int p.1), some (.int (p.2 : Nat))], ?_, rfl⟩⟩
    · show cBin gGt (cVar 2) (cC (.int 256)) _ = _
      exact gt_ok rfl rfl
    · exact set_val (cvar_at rfl rfl)
theorem rooms (L : List Lp) (hl : L.length < 16777216) (h : ∀ p ∈ L, p.2 ≤ 256) : cLc [1, 2] (.tp [1, 2]) (iLst (cVar 0)) none (cCall 1 F_room_of (cCons (cVar 2) cNil)) [some (.node .lst false (L.map pl)), none, none] = .ok (.val (.node .lst true (L.map fun p => nt (room p.2)))) [some (.node .lst false (L.map pl)), none, none] := by
  refine lc_all (enc := pl) (g := fun p => nt (room p.2)) L (r1 := [some (.node .lst false (L.map pl)), none, none]) (r0 := [some (.node .lst false (L.map pl)), none, none]) ?_ rfl hl ?_
  · exact it_lstG (o := false) (k := .lst) (set_loc (d := .node .lst false (L.map pl)) rfl rfl inferInstance rfl) rfl
  · intro p hp
    refine ⟨[some (.node .lst false (L.map pl)), some (.int p.1), some (.int (p.2 : Nat))], rfl, [some (.node .lst false (L.map pl)), some (.int p.1), some (.int (p.2 : Nat))], ?_, rfl⟩
    exact set_val (call_go (cons_ok (cvar_at rfl rfl) (nil_ok _)) rfl inferInstance rfl (room_ok p.2 (h p hp)) inferInstance)
theorem kr_sum (L : List Lp) : ((L.map fun p => ((room p.2 : Nat) : Int))).sum = ((kr L : Nat) : Int) := by
  unfold kr
  induction L with
  | nil => rfl
  | cons p L ih => simp only [List.map_cons, List.sum_cons, ih]; omega
theorem rooms_sum (L : List Lp) (hl : L.length < 16777216) (h : ∀ p ∈ L, p.2 ≤ 256) : cB (b1 sumD) (cCons (cLc [1, 2] (.tp [1, 2]) (iLst (cVar 0)) none (cCall 1 F_room_of (cCons (cVar 2) cNil))) cNil) [some (.node .lst false (L.map pl)), none, none] = .ok (.val (nt (kr L))) [some (.node .lst false (L.map pl)), none, none] := by
  have e := sum_go (o := true) (ns := L.map fun p => ((room p.2 : Nat) : Int)) (rooms L hl h) (by rw [List.map_map]; rfl)
  rw [kr_sum] at e
  exact e
abbrev LS : List Lp → Rho := fun L => [some (.node .lst false (L.map pl)), none, none]
abbrev lgE : Ev := cBin gNe (cLc [1, 2] (.tp [1, 2]) (iLst (cVar 0)) (some (cBin gGt (cVar 2) (cC (.int 256)))) (cVar 2)) (cLst cNil)
theorem longs_ne (L : List Lp) (hl : L.length < 16777216) : lgE (LS L) = .ok (.val (.bl (!decide ((L.filter fun p => decide (256 < (p.2 : Int))).map (fun p => ((p.2 : Nat) : Int)) = [])))) (LS L) :=
  bin_ok (longs L hl) (y := .val (.node .lst true [])) rfl (g2_ok rfl rfl (ne_lints _ []) rfl)
theorem longs_no (L : List Lp) (hl : L.length < 16777216) (h : ∀ p ∈ L, p.2 ≤ 256) : lgE (LS L) = .ok (.val (.bl false)) (LS L) := by
  have e := longs_ne L hl
  have e2 : (L.filter fun p => decide (256 < (p.2 : Int))) = [] := by
    rw [List.filter_eq_nil_iff]
    intro p hp q
    have := h p hp
    have q := of_decide_eq_true q
    omega
  rw [e2] at e
  exact e
theorem longs_yes (L : List Lp) (hl : L.length < 16777216) (h : ∃ p ∈ L, 256 < p.2) : lgE (LS L) = .ok (.val (.bl true)) (LS L) := by
  obtain ⟨p, hp, q⟩ := h
  have e := longs_ne L hl
  have hm : p ∈ L.filter fun p => decide (256 < (p.2 : Int)) := List.mem_filter.mpr ⟨hp, decide_eq_true (by omega)⟩
  have e2 : ¬ (L.filter fun p => decide (256 < (p.2 : Int))).map (fun p => ((p.2 : Nat) : Int)) = [] := fun q => by
    rw [List.map_eq_nil_iff] at q
    rw [q] at hm
    cases hm
  rw [decide_eq_false e2] at e
  exact e
noncomputable abbrev krE : Ev := cBin gGt (cB (b1 sumD) (cCons (cLc [1, 2] (.tp [1, 2]) (iLst (cVar 0)) none (cCall 1 F_room_of (cCons (cVar 2) cNil))) cNil)) (cC (.int (2 ^ 256 : Nat)))
theorem kr_gt (L : List Lp) (hl : L.length < 16777216) (h : ∀ p ∈ L, p.2 ≤ 256) : krE (LS L) = .ok (.val (.bl (decide (2 ^ 256 < kr L)))) (LS L) := by
  have e : decide (((2 ^ 256 : Nat) : Int) < ((kr L : Nat) : Int)) = decide (2 ^ 256 < kr L) := by
    congr 1
    exact propext Int.ofNat_lt
  rw [← e]
  exact gt_ok (rooms_sum L hl h) rfl
theorem need_ok (L : List Lp) (hl : L.length < 16777216) (h : ∀ p ∈ L, p.2 ≤ 256) (hk : kr L ≤ 2 ^ 256) : F_need_words [.node .lst false (L.map pl)] = .ok .non := by
  unfold F_need_words f_need_words
  rw [whole_lit]
  have q1 := longs_no L hl h
  have q2 := kr_gt L hl h
  rw [decide_eq_false (Nat.not_lt.mpr hk)] at q2
  exact runF_nx (r := LS L) rfl (seq_go (ifs_n (r1 := LS L) q1 rfl rfl) (ifs_n q2 rfl rfl))
theorem need_long (L : List Lp) (hl : L.length < 16777216) (h : ∃ p ∈ L, 256 < p.2) : F_need_words [.node .lst false (L.map pl)] = .exc 2 := by
  unfold F_need_words f_need_words
  exact runF_exc (r := LS L) rfl (seq_exc (r1 := LS L) (ifs_y (longs_yes L hl h) rfl rfl))
theorem need_full (L : List Lp) (hl : L.length < 16777216) (h : ∀ p ∈ L, p.2 ≤ 256) (hk : 2 ^ 256 < kr L) : F_need_words [.node .lst false (L.map pl)] = .exc 2 := by
  unfold F_need_words f_need_words
  rw [whole_lit]
  have q1 := longs_no L hl h
  have q2 := kr_gt L hl h
  rw [decide_eq_true hk] at q2
  exact runF_exc (r := LS L) (r1 := LS L) rfl (seq_go (ifs_n (r1 := LS L) q1 rfl rfl) (ifs_y q2 rfl rfl))
end K09.Co

namespace K09.Co
open VH
open K09 K09.Bt
def bw : Nat → Nat → List Bool
  | 0, _ => []
  | l + 1, n => bw l (n / 2) ++ [n % 2 == 1]
theorem bw_len : ∀ (l n : Nat), (bw l n).length = l
  | 0, _ => rfl
  | l + 1, n => by
    show (bw l (n / 2) ++ [n % 2 == 1]).length = _
    rw [List.length_append, bw_len l, List.length_singleton]
theorem wb_bw : ∀ (l n : Nat), n < 2 ^ l → wb (bw l n) = n
  | 0, n, h => by
    have : n = 0 := by simpa using h
    subst this; rfl
  | l + 1, n, h => by
    show wb (bw l (n / 2) ++ [n % 2 == 1]) = _
    have h2 : n / 2 < 2 ^ l := by rw [Nat.pow_succ] at h; omega
    rw [wb_snoc, wb_bw l _ h2]
    have h3 : (n % 2 == 1).toNat = n % 2 := by
      rcases Nat.mod_two_eq_zero_or_one n with e | e
      · rw [e]; rfl
      · rw [e]; rfl
    rw [h3]
    omega
def ws (n a : Nat) : List (Nat × Int) → List (Int × List Bool)
  | [] => []
  | q :: r => (q.2, bw q.1 (n * 2 ^ (q.1 - a))) :: ws (n * 2 ^ (q.1 - a) + 1) q.1 r
def krS (S : List (Nat × Int)) : Nat := (S.map fun q => room q.1).sum
def Fit (n a : Nat) (S : List (Nat × Int)) : Prop := a ≤ 256 ∧ (∀ q ∈ S, a ≤ q.1 ∧ q.1 ≤ 256) ∧ S.Pairwise (fun p q => p.1 ≤ q.1) ∧ n * room a + krS S ≤ 2 ^ 256
theorem room_pos (l : Nat) : 0 < room l := Nat.pow_pos (by decide)
theorem room_mul {a l : Nat} (h : a ≤ l) (h2 : l ≤ 256) : room a = 2 ^ (l - a) * room l := by
  unfold room
  rw [← Nat.pow_add]
  congr 1; omega
theorem room_two {l : Nat} (h : l ≤ 256) : 2 ^ l * room l = 2 ^ 256 := by
  unfold room
  rw [← Nat.pow_add]
  congr 1; omega
theorem Fit.head {n a : Nat} {q : Nat × Int} {S : List (Nat × Int)} (f : Fit n a (q :: S)) : n * 2 ^ (q.1 - a) < 2 ^ q.1 ∧ Fit (n * 2 ^ (q.1 - a) + 1) q.1 S := by
  obtain ⟨h1, h2, h3, h4⟩ := f
  obtain ⟨h5, h6⟩ := h2 q List.mem_cons_self
  have h7 := List.pairwise_cons.mp h3
  have e : n * room a = n * 2 ^ (q.1 - a) * room q.1 := by rw [room_mul h5 h6, Nat.mul_assoc]
  have e2 : krS (q :: S) = room q.1 + krS S := by unfold krS; rw [List.map_cons, List.sum_cons]
  rw [e, e2] at h4
  have e3 : (n * 2 ^ (q.1 - a) + 1) * room q.1 = n * 2 ^ (q.1 - a) * room q.1 + room q.1 := by rw [Nat.add_mul, Nat.one_mul]
  refine ⟨?_, h6, fun p hp => ⟨h7.1 p hp, (h2 p (List.mem_cons_of_mem _ hp)).2⟩, h7.2, by rw [e3]; omega⟩
  have h8 : (n * 2 ^ (q.1 - a) + 1) * room q.1 ≤ 2 ^ q.1 * room q.1 := by rw [room_two h6, e3]; omega
  exact Nat.le_of_mul_le_mul_right h8 (room_pos q.1)
def so (L : List Lp) : List (Nat × Int) := (srtP (L.map fun p => (((p.2 : Nat) : Int), p.1))).map fun q => (q.1.toNat, q.2)
theorem so_back (L : List Lp) : srtP (L.map fun p => (((p.2 : Nat) : Int), p.1)) = (so L).map fun q => (((q.1 : Nat) : Int), q.2) := by
  unfold so
  rw [List.map_map]
  refine ((List.map_congr_left fun q hq => ?_).trans (List.map_id _)).symm
  obtain ⟨p, _, e⟩ := List.mem_map.mp ((srtP_perm _).mem_iff.mp hq)
  subst e
  show (((((p.2 : Nat) : Int).toNat : Nat) : Int), p.1) = _
  rw [Int.toNat_natCast]; rfl
theorem so_perm (L : List Lp) : (so L).Perm (L.map fun p => (p.2, p.1)) := by
  have h := (srtP_perm (L.map fun p => (((p.2 : Nat) : Int), p.1))).map fun q => (q.1.toNat, q.2)
  rw [List.map_map] at h
  refine h.trans (List.Perm.of_eq (List.map_congr_left fun p _ => ?_))
  show ((((p.2 : Nat) : Int).toNat : Nat), p.1) = _
  rw [Int.toNat_natCast]
theorem so_up (L : List Lp) : (so L).Pairwise (fun p q => p.1 ≤ q.1) := by
  unfold so
  refine List.pairwise_map.mpr ((srtP_up _).imp fun {p q} h => ?_)
  have := leP_iff.mp h
  show p.1.toNat ≤ q.1.toNat
  omega
theorem so_len (L : List Lp) : (so L).length = L.length := by rw [(so_perm L).length_eq, List.length_map]
theorem kr_so (L : List Lp) : krS (so L) = kr L := by
  unfold krS kr
  rw [((so_perm L).map fun q => room q.1).sum_nat, List.map_map]
  rfl
theorem so_fit {L : List Lp} (h : ∀ p ∈ L, p.2 ≤ 256) (hk : kr L ≤ 2 ^ 256) : Fit 0 0 (so L) := by
  refine ⟨by decide, fun q hq => ⟨Nat.zero_le _, ?_⟩, so_up L, by rw [Nat.zero_mul, kr_so]; omega⟩
  obtain ⟨p, hp, e⟩ := List.mem_map.mp ((so_perm L).mem_iff.mp hq)
  rw [← e]; exact h p hp
abbrev nw (o : Bool) (q : Int × List Bool) : D := nlD o (q.1, VL.bi q.2)
theorem dbl_loop (x0 x1 x3 x4 x5 : Option D) : ∀ (ks : List Nat) (n : Nat) (u : Option D), ∃ u', forL (.nm 6) (cAsg (.nm 2) (cBin gMul (cC (.int 2)) (cVar 2))) (ks.map nt) [x0, x1, some (nt n), x3, x4, x5, u] = .nx [x0, x1, some (nt (n * 2 ^ ks.length)), x3, x4, x5, u']
  | [], n, u => ⟨u, by rw [List.length_nil, Nat.pow_zero, Nat.mul_one]; rfl⟩
  | k :: ks, n, u => by
    obtain ⟨u', ih⟩ := dbl_loop x0 x1 x3 x4 x5 ks (2 * n) (some (nt k))
    refine ⟨u', forL_c (r2 := [x0, x1, some (nt (2 * n)), x3, x4, x5, some (nt k)]) rfl ?_ ?_⟩
    · refine VH.asg_go (set_val (mul_ok (i := 2) (j := (n : Int)) rfl rfl (VH.mulOk_l (by decide)))) ?_
      show _ = _
      rw [show ((2 : Int) * (n : Int)) = ((2 * n : Nat) : Int) from by omega]
      rfl
    · rw [ih, List.length_cons, Nat.pow_succ]
      have e : 2 * n * 2 ^ ks.length = n * (2 ^ ks.length * 2) := by
        rw [Nat.mul_comm 2 n, Nat.mul_assoc, Nat.mul_comm 2]
      rw [e]
noncomputable abbrev wBody : Sv := (cSeq (cFor (.nm 6) (iRng rngI1 (cCons (cBin VL.gSub (cVar 4) (cVar 3)) cNil)) (cAsg (.nm 2) (cBin gMul (cC (.int 2)) (cVar 2))))
  (cSeq (cExpr (cApp 1 (cTup (cCons (cSet (cVar 5)) (cCons (cSet (cCall 2 F_low_bits (cCons (cVar 2) (cCons (cVar 4) cNil)))) cNil)))))
  (cSeq (cAug 2 (g2 iAdd) (cC (.int 1)))
  (cAsg (.nm 3) (cVar 4)))))
abbrev W7 (A : D) (f : List (Int × List Bool)) (n a : Nat) (x4 x5 x6 : Option D) : Rho := [some A, some (.node .lst true (f.map (nw true))), some (nt n), some (nt a), x4, x5, x6]
theorem w_step (A : D) (f : List (Int × List Bool)) (n a : Nat) (q : Nat × Int) (S : List (Nat × Int)) (h : Fit n a (q :: S)) (hf : f.length < 10000) (x6 : Option D) : ∃ x6', wBody (W7 A f n a (some (nt q.1)) (some (.int q.2)) x6) = .nx (W7 A (f ++ [(q.2, bw q.1 (n * 2 ^ (q.1 - a)))]) (n * 2 ^ (q.1 - a) + 1) q.1 (some (nt q.1)) (some (.int q.2)) x6') := by
  have hq := h.2.1 q List.mem_cons_self
  obtain ⟨u', e⟩ := dbl_loop (some A) (some (.node .lst true (f.map (nw true)))) (some (nt a)) (some (nt q.1)) (some (.int q.2)) (List.range (q.1 - a)) n x6
  rw [List.length_range] at e
  have hl := low_x (bw q.1 (n * 2 ^ (q.1 - a))) (by rw [bw_len]; omega)
  rw [wb_bw _ _ h.head.1, bw_len] at hl
  refine ⟨u', ?_⟩
  refine seq_go (r1 := W7 A f (n * 2 ^ (q.1 - a)) a (some (nt q.1)) (some (.int q.2)) u') (for_go (it_rngI (n := ((q.1 - a : Nat) : Int)) ?_ (by unfold within; exact decide_eq_true (by omega))) (by rw [Int.toNat_natCast, rng_nt]; exact e)) ?_
  · have e2 : ((q.1 - a : Nat) : Int) = (q.1 : Int) - (a : Int) := by omega
    rw [e2]
    exact sub_ok (i := (q.1 : Int)) (j := (a : Int)) rfl rfl
  refine seq_go (r1 := W7 A (f ++ [(q.2, bw q.1 (n * 2 ^ (q.1 - a)))]) (n * 2 ^ (q.1 - a)) a (some (nt q.1)) (some (.int q.2)) u') ?_ ?_
  · have c : cCall 2 F_low_bits (cCons (cVar 2) (cCons (cVar 4) cNil)) (W7 A f (n * 2 ^ (q.1 - a)) a (some (nt q.1)) (some (.int q.2)) u') = .ok (.val (B true (bw q.1 (n * 2 ^ (q.1 - a))))) (W7 A f (n * 2 ^ (q.1 - a)) a (some (nt q.1)) (some (.int q.2)) u') :=
      call_go (cons_ok (cvar_at rfl rfl) (cons_ok (cvar_at rfl rfl) (nil_ok _))) rfl inferInstance rfl hl inferInstance
    refine app_go rfl (set_val (tup_ok (cons_ok (set_val (cvar_at rfl rfl)) (cons_ok (set_val c) (nil_ok _))) rfl (Nat.le_of_ble_eq_true rfl))) rfl (by rw [List.length_map]; omega) ?_
    show _ = [some A, some (.node .lst true ((f ++ [_]).map (nw true))), _, _, _, _, _]
    rw [List.map_append]
    rfl
  · walk_at "gor"
theorem w_loop (A : D) : ∀ (S : List (Nat × Int)) (f : List (Int × List Bool)) (n a : Nat) (x4 x5 x6 : Option D), Fit n a S → f.length + S.length < 10000 → ∃ n' a' x4' x5' x6', forL (.tp [4, 5]) wBody (S.map fun q => VL.pairD (((q.1 : Nat) : Int), q.2)) (W7 A f n a x4 x5 x6) = .nx (W7 A (f ++ ws n a S) n' a' x4' x5' x6')
  | [], f, n, a, x4, x5, x6, _, _ => ⟨n, a, x4, x5, x6, by
    show SO.nx _ = _
    rw [show ws n a [] = [] from rfl, List.append_nil]⟩
  | q :: S, f, n, a, x4, x5, x6, h, hf => by
    rw [List.length_cons] at hf
    obtain ⟨x6', e⟩ := w_step A f n a q S h (by omega) x6
    obtain ⟨n', a', y4, y5, y6, ih⟩ := w_loop A S (f ++ [(q.2, bw q.1 (n * 2 ^ (q.1 - a)))]) (n * 2 ^ (q.1 - a) + 1) q.1 (some (nt q.1)) (some (.int q.2)) x6' h.head.2 (by rw [List.length_append, List.length_singleton]; omega)
    refine ⟨n', a', y4, y5, y6, ?_⟩
    rw [List.append_assoc] at ih
    exact forL_c rfl e ih
def Ws (L : List Lp) : List (Int × List Bool) := ws 0 0 (so L)
def Wt (L : List Lp) : List NK := srtN ((Ws L).map fun q => (q.1, VL.bi q.2))
theorem words_ok (L : List Lp) (hl : L.length < 10000) (h : ∀ p ∈ L, p.2 ≤ 256) (hk : kr L ≤ 2 ^ 256) : F_words_by [.node .lst false (L.map pl)] = .ok (.node .lst true ((Wt L).map (nlD true))) := by
  obtain ⟨n', a', x4, x5, x6, e⟩ := w_loop (.node .lst false (L.map pl)) (so L) [] 0 0 none none none (so_fit h hk) (by rw [so_len]; simpa using hl)
  have e0 := need_ok L (by omega) h hk
  have e1 : cLc [5, 4] (.tp [5, 4]) (iLst (cVar 0)) none (cTup (cCons (cSet (cVar 4)) (cCons (cSet (cVar 5)) cNil))) (W7 (.node .lst false (L.map pl)) [] 0 0 none none none) = .ok (.val (.node .lst true ((L.map fun p => (((p.2 : Nat) : Int), p.1)).map VL.pairD))) (W7 (.node .lst false (L.map pl)) [] 0 0 none none none) := by
    rw [List.map_map]
    refine lc_all (enc := pl) (g := VL.pairD ∘ fun p => (((p.2 : Nat) : Int), p.1)) L (r1 := W7 (.node .lst false (L.map pl)) [] 0 0 none none none) (r0 := W7 (.node .lst false (L.map pl)) [] 0 0 none none none) ?_ rfl (by omega) ?_
    · exact it_lstG (o := false) (k := .lst) (set_loc (d := .node .lst false (L.map pl)) rfl rfl inferInstance rfl) rfl
    · intro p hp
      refine ⟨W7 (.node .lst false (L.map pl)) [] 0 0 (some (nt p.2)) (some (.int p.1)) none, rfl, W7 (.node .lst false (L.map pl)) [] 0 0 (some (nt p.2)) (some (.int p.1)) none, ?_, rfl⟩
      exact set_val (tup_ok (cons_ok (set_val (cvar_at rfl rfl)) (cons_ok (set_val (cvar_at rfl rfl)) (nil_ok _))) rfl (Nat.le_of_ble_eq_true rfl))
  have e2 := VL.sortedP_ok e1
  rw [so_back, List.map_map] at e2
  have e3 : cFor (.tp [4, 5]) (iLst (cB gSortedP (cCons (cLc [5, 4] (.tp [5, 4]) (iLst (cVar 0)) none (cTup (cCons (cSet (cVar 4)) (cCons (cSet (cVar 5)) cNil)))) cNil))) wBody (W7 (.node .lst false (L.map pl)) [] 0 0 none none none) = .nx (W7 (.node .lst false (L.map pl)) ([] ++ ws 0 0 (so L)) n' a' x4 x5 x6) :=
    for_go (it_lstG (set_val e2) rfl) e
  rw [List.nil_append] at e3
  have tk := VL.take_at (i := 1) (r := W7 (.node .lst false (L.map pl)) (Ws L) n' a' x4 x5 x6) (d := .node .lst true ((Ws L).map (nw true))) rfl
  have e5 : (Ws L).map (nw true) = ((Ws L).map fun q => (q.1, VL.bi q.2)).map (nlD true) := by rw [List.map_map]; rfl
  rw [e5] at tk
  have e4 := VL.sortedNO_ok tk
  unfold F_words_by f_words_by
  walk_at "def"
  refine seq_go e3 ?_
  · exact ret_go e4
  rfl
theorem words_exc (L : List Lp) (hl : L.length < 10000) (h : F_need_words [.node .lst false (L.map pl)] = .exc 2) : F_words_by [.node .lst false (L.map pl)] = .exc 2 := by
  unfold F_words_by f_words_by
  refine runF_exc (r := [some (.node .lst false (L.map pl)), none, none, none, none, none, none]) rfl (seq_exc (r1 := [some (.node .lst false (L.map pl)), none, none, none, none, none, none]) (expr_exc ?_))
  exact call_exc (cons_ok (VL.cvar_loc rfl rfl) (nil_ok _)) rfl inferInstance rfl h
end K09.Co

namespace K09.Co
open VH
open K09 K09.Bt
theorem ws_fst : ∀ (S : List (Nat × Int)) (n a : Nat), (ws n a S).map (·.1) = S.map (·.2)
  | [], _, _ => rfl
  | q :: S, n, a => by
    show q.2 :: (ws _ _ S).map (·.1) = _
    rw [ws_fst S]; rfl
theorem Wt_perm (L : List Lp) : (Wt L).Perm ((Ws L).map fun q => (q.1, VL.bi q.2)) := srtN_perm _
theorem Wt_fst (L : List Lp) : ((Wt L).map (·.1)).Perm (L.map (·.1)) := by
  refine ((Wt_perm L).map (·.1)).trans ?_
  rw [List.map_map]
  show ((Ws L).map fun q => q.1).Perm _
  have e := ws_fst (so L) 0 0
  have e2 : (Ws L).map (fun q => q.1) = (so L).map (·.2) := e
  rw [e2]
  have h := (so_perm L).map (·.2)
  rw [List.map_map] at h
  exact h
theorem Wt_len (L : List Lp) : (Wt L).length = L.length := by
  have := (Wt_fst L).length_eq
  simpa using this
theorem Ws_len : ∀ (S : List (Nat × Int)) (n a : Nat), ∀ q ∈ ws n a S, ∃ p ∈ S, p.2 = q.1 ∧ q.2.length = p.1
  | p :: S, n, a, q, h => by
    rcases List.mem_cons.mp h with e | h
    · subst e; exact ⟨p, List.mem_cons_self, rfl, bw_len _ _⟩
    · obtain ⟨x, h1, h2⟩ := Ws_len S _ _ q h
      exact ⟨x, List.mem_cons_of_mem _ h1, h2⟩
theorem Wt_at {L : List Lp} {p : NK} (h : p ∈ Wt L) : ∃ q ∈ Ws L, p = (q.1, VL.bi q.2) ∧ (q.1, q.2.length) ∈ L := by
  obtain ⟨q, hq, e⟩ := List.mem_map.mp ((Wt_perm L).mem_iff.mp h)
  refine ⟨q, hq, e.symm, ?_⟩
  obtain ⟨x, h1, h2, h3⟩ := Ws_len (so L) 0 0 q hq
  obtain ⟨y, h4, h5⟩ := List.mem_map.mp ((so_perm L).mem_iff.mp h1)
  subst h5
  rw [← h2, h3]
  exact h4
theorem Wt_word {L : List Lp} (h : ∀ p ∈ L, p.2 ≤ 256) : ∀ p ∈ Wt L, p.2.length ≤ 256 := fun p hp => by
  obtain ⟨q, _, e, h2⟩ := Wt_at hp
  rw [e]
  show (VL.bi q.2).length ≤ 256
  rw [Bt.bi_len]
  exact h _ h2
structure Good (L : List Lp) : Prop where
  le : ∀ p ∈ L, p.2 ≤ 256
  pos : ∀ p ∈ L, 1 ≤ p.2
  fit : kr L ≤ 2 ^ 256
  one : (L.map (·.1)).Nodup
  few : L.length < 10000
theorem Good.nodup {L : List Lp} (g : Good L) : ((Wt L).map (·.1)).Nodup := (Wt_fst L).nodup_iff.mpr g.one
end K09.Co

namespace K09.Co
open VH
open K09 K09.Bt
theorem bi_inj : ∀ {a b : List Bool}, VL.bi a = VL.bi b → a = b
  | [], [], _ => rfl
  | [], _ :: _, h => by cases h
  | _ :: _, [], h => by cases h
  | x :: a, y :: b, h => by
    have h : ((x.toNat : Nat) : Int) :: VL.bi a = ((y.toNat : Nat) : Int) :: VL.bi b := h
    injection h with h1 h2
    have h1 : x.toNat = y.toNat := Int.ofNat.inj h1
    rw [bi_inj h2]
    cases x <;> cases y <;> first | rfl | cases h1
theorem wb_app (x : List Bool) : ∀ (n : Nat) (t : List Bool), t.length = n → wb (x ++ t) = wb x * 2 ^ n + wb t
  | 0, t, h => by
    have : t = [] := List.length_eq_zero_iff.mp h
    subst this
    rw [List.append_nil, Nat.pow_zero, Nat.mul_one]; rfl
  | n + 1, t, h => by
    rcases List.eq_nil_or_concat t with e | ⟨y, b, e⟩
    · subst e; cases h
    · subst e
      rw [List.concat_eq_append] at h ⊢
      rw [List.length_append, List.length_singleton] at h
      rw [← List.append_assoc, wb_snoc, wb_snoc, wb_app x n y (by omega), Nat.pow_succ]
      have : wb x * (2 ^ n * 2) = 2 * (wb x * 2 ^ n) := by rw [← Nat.mul_assoc, Nat.mul_comm]
      omega
theorem ws_ge : ∀ (S : List (Nat × Int)) (n a : Nat), Fit n a S → ∀ q ∈ ws n a S, ∃ l N, q.2 = bw l N ∧ a ≤ l ∧ n * 2 ^ (l - a) ≤ N ∧ N < 2 ^ l
  | p :: S, n, a, h, q, hq => by
    have hp := h.2.1 p List.mem_cons_self
    rcases List.mem_cons.mp hq with e | hq
    · subst e
      exact ⟨p.1, _, rfl, hp.1, Nat.le_refl _, h.head.1⟩
    · obtain ⟨l, N, h1, h2, h3, h4⟩ := ws_ge S _ _ h.head.2 q hq
      refine ⟨l, N, h1, by omega, Nat.le_trans ?_ h3, h4⟩
      have e : 2 ^ (l - a) = 2 ^ (p.1 - a) * 2 ^ (l - p.1) := by rw [← Nat.pow_add]; congr 1; omega
      rw [e, ← Nat.mul_assoc]
      exact Nat.mul_le_mul_right _ (Nat.le_succ _)
theorem not_front {l l' N N' : Nat} (h : l ≤ l') (h2 : (N + 1) * 2 ^ (l' - l) ≤ N') (h3 : N < 2 ^ l) (h4 : N' < 2 ^ l') : ¬ bw l N <+: bw l' N' := by
  rintro ⟨t, e⟩
  have ht : t.length = l' - l := by
    have := congrArg List.length e
    rw [List.length_append, bw_len, bw_len] at this
    omega
  have e2 := wb_app (bw l N) _ t ht
  rw [e, wb_bw l' N' h4, wb_bw l N h3] at e2
  have h5 := wb_lt t
  rw [ht] at h5
  rw [Nat.add_mul, Nat.one_mul] at h2
  omega
theorem ws_pf : ∀ (S : List (Nat × Int)) (n a : Nat), Fit n a S → (ws n a S).Pairwise fun p q => ¬ p.2 <+: q.2 ∧ ¬ q.2 <+: p.2
  | [], _, _, _ => List.Pairwise.nil
  | p :: S, n, a, h => by
    refine List.pairwise_cons.mpr ⟨fun q hq => ?_, ws_pf S _ _ h.head.2⟩
    obtain ⟨l, N, h1, h2, h3, h4⟩ := ws_ge S _ _ h.head.2 q hq
    have h5 : ¬ bw p.1 (n * 2 ^ (p.1 - a)) <+: q.2 := by
      rw [h1]
      exact not_front h2 h3 h.head.1 h4
    refine ⟨h5, fun h6 => h5 ?_⟩
    have h7 := h6.length_le
    rw [h1] at h7
    have h7 : (bw l N).length ≤ (bw p.1 (n * 2 ^ (p.1 - a))).length := h7
    rw [bw_len, bw_len] at h7
    have h8 : q.2 = bw p.1 (n * 2 ^ (p.1 - a)) := h6.eq_of_length (by rw [h1, bw_len]; show l = (bw p.1 _).length; rw [bw_len]; omega)
    rw [h8]
    exact List.prefix_refl _
theorem pw_all {α : Type} {R : α → α → Prop} (hs : ∀ a b, R a b → R b a) : ∀ {xs : List α}, xs.Pairwise R → ∀ a ∈ xs, ∀ b ∈ xs, a = b ∨ R a b
  | x :: xs, h, a, ha, b, hb => by
    have h := List.pairwise_cons.mp h
    rcases List.mem_cons.mp ha with ea | ha
    · rcases List.mem_cons.mp hb with eb | hb
      · exact .inl (ea.trans eb.symm)
      · rw [ea]; exact .inr (h.1 b hb)
    · rcases List.mem_cons.mp hb with eb | hb
      · rw [eb]; exact .inr (hs _ _ (h.1 a ha))
      · exact pw_all hs h.2 a ha b hb
theorem bi_front {x y : List Bool} (h : VL.bi x <+: VL.bi y) : x <+: y := by
  obtain ⟨t, e⟩ := h
  refine ⟨y.drop x.length, ?_⟩
  have e2 : x = y.take x.length := by
    refine bi_inj ?_
    have := congrArg (List.take x.length) e
    rw [show x.length = (VL.bi x).length from (Bt.bi_len x).symm, List.take_left, Bt.bi_len x] at this
    rw [this]
    unfold VL.bi
    rw [List.map_take]
  conv => lhs; lhs; rw [e2]
  exact List.take_append_drop _ _
theorem Good.free {L : List Lp} (g : Good L) : ∀ p ∈ Wt L, ∀ q ∈ Wt L, p.2 <+: q.2 → p = q := fun p hp q hq h => by
  obtain ⟨a, ha, ea, _⟩ := Wt_at hp
  obtain ⟨b, hb, eb, _⟩ := Wt_at hq
  have w := pw_all (R := fun p q : Int × List Bool => ¬ p.2 <+: q.2 ∧ ¬ q.2 <+: p.2) (fun a b h => ⟨h.2, h.1⟩) (ws_pf (so L) 0 0 (so_fit g.le g.fit)) a ha b hb
  rw [ea, eb] at h
  rcases w with w | w
  · rw [ea, eb, w]
  · exact (w.1 (bi_front h)).elim
end K09.Co

namespace K09.Co
open VH
open K09 K09.Bt
abbrev IL (o : Bool) (xs : List Int) : D := .node .lst o (xs.map .int)
theorem divOk_20 {i m : Int} (hm : 0 < m) (hm2 : m ≤ 100000000000000000000) : divOk i m = true := by
  have h : m.natAbs.log2 < 70 := (Nat.log2_lt (by omega)).mpr (by omega)
  unfold divOk
  rw [decide_eq_true hm, decide_eq_true (show m.natAbs.log2 < 9000 by omega)]
  simp
theorem draw_ok (a b c m : Int) (hm : 0 < m) (hm2 : m ≤ 100000000000000000000) : ∃ v a' c', F__law_draw (dk a b c) [.int m] = .ok (.int v) (dk a' b c') ∧ 0 ≤ v ∧ v < m := by
  have p : ∀ i, posOk i m = true := fun i => posOk_of hm
  have hd : ∀ i, divOk i m = true := fun i => divOk_20 hm hm2
  by_cases h : b = 0
  · refine ⟨a % m, a / m, c, ?_, Int.emod_nonneg _ (by omega), Int.emod_lt_of_pos _ hm⟩
    unfold F__law_draw runQ f__law_draw
    simp [dk, startR, putQ, h, atI, ixN, p, hd]
  · refine ⟨((((a % 1000000007 * 7919 + (c + 1) * 104729) % 1000000009) * ((a % 1000000007 * 7919 + (c + 1) * 104729) % 1000000009) % 998244353 * 31337 + (c + 1)) % 754974721 / 3) % m, a, c + 1, ?_, Int.emod_nonneg _ (by omega), Int.emod_lt_of_pos _ hm⟩
    unfold F__law_draw runQ f__law_draw
    have q1 : ∀ i, posOk i 1000000007 = true := fun i => rfl
    have q2 : ∀ i, posOk i 1000000009 = true := fun i => rfl
    have q3 : ∀ i, posOk i 998244353 = true := fun i => rfl
    have q4 : ∀ i, posOk i 754974721 = true := fun i => rfl
    have q5 : ∀ i, divOk i 3 = true := fun i => rfl
    have m1 : ∀ i, mulOk i 7919 = true := fun i => VL.mulOk_r (by decide)
    have m2 : ∀ i, mulOk i 104729 = true := fun i => VL.mulOk_r (by decide)
    have m3 : ∀ i, mulOk i 31337 = true := fun i => VL.mulOk_r (by decide)
    have m4 : ∀ i : Int, mulOk (i % 1000000009) (i % 1000000009) = true := fun i => VL.mulOk_r (by omega)
    simp [dk, startR, putQ, h, atI, ixN, p, hd, q1, q2, q3, q4, q5, m1, m2, m3, m4]
theorem dq {r : Rho} {i : Nat} {a b c : Int} {m : Int} {fm : Ev} (h : r[i]? = some (some (dk a b c))) (h2 : cSet fm r = .ok (.val (.int m)) r) (hm : 0 < m) (hm2 : m ≤ 100000000000000000000) : ∃ v a' c', cCallQ 0 1 F__law_draw (cCons (cVar i) (cCons (cSet fm) cNil)) r = .ok (.val (.int v)) (r.set i (some (dk a' b c'))) ∧ 0 ≤ v ∧ v < m := by
  obtain ⟨v, a', c', e, h3, h4⟩ := draw_ok a b c m hm hm2
  exact ⟨v, a', c', callQ_loc (cons_ok (VL.cvar_loc h rfl) (cons_ok h2 (nil_ok _))) rfl rfl rfl rfl h e, h3, h4⟩
theorem dq2 {r r1 : Rho} {i : Nat} {a b c a1 c1 : Int} {m : Int} {fm : Ev} (h : r[i]? = some (some (dk a b c))) (h2 : cSet fm r = .ok (.val (.int m)) r1) (h5 : r1[i]? = some (some (dk a1 b c1))) (hm : 0 < m) (hm2 : m ≤ 100000000000000000000) : ∃ v a' c', cCallQ 0 1 F__law_draw (cCons (cVar i) (cCons (cSet fm) cNil)) r = .ok (.val (.int v)) (r1.set i (some (dk a' b c'))) ∧ 0 ≤ v ∧ v < m := by
  obtain ⟨v, a', c', e, h3, h4⟩ := draw_ok a1 b c1 m hm hm2
  exact ⟨v, a', c', callQ_loc (cons_ok (VL.cvar_loc h rfl) (cons_ok h2 (nil_ok _))) rfl rfl rfl rfl h5 e, h3, h4⟩
theorem decks_ok (ns : List Int) (hl : ns.length ≤ 63) : ∃ ds, F__law_decks [script ns] = .ok (.node .lst true ds) ∧ ds.length ≤ 63 ∧ 0 < ds.length ∧ ∀ d ∈ ds, ∃ a b c, d = dk a b c := by
  have s1 : cAsg (.nm 1) (cSl (cVar 0) none (some (cC (.int 63)))) [some (script ns), none, none] = .nx [some (script ns), some (IL true ns), none] := by
    have e : cSl (cVar 0) none (some (cC (.int 63))) [some (script ns), none, none] = .ok (.val (.node .lst true ((ns.map D.int).take (63 : Int).toNat))) [some (script ns), none, none] :=
      sl_ns (x := .loc 0) (r1 := [some (script ns), none, none]) (k := .rd) (o := false) (xs := ns.map D.int) (xs' := ns.map D.int) rfl rfl rfl inferInstance rfl (by
        show [some (D.node .rd false (frzs (ns.map D.int))), none, none] = _
        rw [frzs_ints]; rfl) (by decide)
    rw [List.take_of_length_le (by rw [List.length_map]; show ns.length ≤ 63; exact hl)] at e
    exact VH.asg_go (set_val e) rfl
  have s2 : ∃ cs : List Int, cs.length ≤ 63 ∧ 0 < cs.length ∧ cIfS (cBin gEq (cVar 1) (cLst cNil)) (cAsg (.nm 1) (cLst (cCons (cSet (cC (.int 0))) cNil))) cSkip [some (script ns), some (IL true ns), none] = .nx [some (script ns), some (IL true cs), none] := by
    have e := eqD_go (r := [some (script ns), some (IL true ns), none]) (fa := cVar 1) (fb := cLst cNil) (VL.cvar_loc rfl rfl) (y := .val (.node .lst true [])) (r2 := [some (script ns), some (IL true ns), none]) rfl rfl rfl (VL.eq_lints ns [])
    by_cases h : ns = []
    · rw [decide_eq_true h] at e
      exact ⟨[0], by decide, by decide, ifs_y e rfl rfl⟩
    · rw [decide_eq_false h] at e
      refine ⟨ns, hl, ?_, ifs_n e rfl rfl⟩
      cases ns with
      | nil => exact (h rfl).elim
      | cons _ _ => exact Nat.succ_pos _
  obtain ⟨cs, h1, h2, s2⟩ := s2
  have l1 : cB (b1 lenD) (cCons (cVar 1) cNil) [some (script ns), some (IL true cs), none] = .ok (.val (.int (cs.map D.int).length)) [some (script ns), some (IL true cs), none] := len_go (VL.cvar_loc rfl rfl) rfl rfl
  rw [List.length_map] at l1
  have s3 : cLc [2] (.nm 2) (iRng rngI1 (cCons (cB (b1 lenD) (cCons (cVar 1) cNil)) cNil)) none (cLst (cCons (cSet (cBin gIx (cVar 1) (cVar 2))) (cCons (cSet (cBin gMod (cB (b1 lenD) (cCons (cVar 0) cNil)) (cC (.int 2)))) (cCons (cSet (cBin gMul (cC (.int 7)) (cVar 2))) cNil)))) [some (script ns), some (IL true cs), none] = .ok (.val (.node .lst true ((List.range cs.length).map fun k => dk (cs.getD k 0) (((ns.length : Nat) : Int) % 2) (7 * ((k : Nat) : Int))))) [some (script ns), some (IL true cs), none] := by
    refine lc_all (enc := nt) (g := fun k => dk (cs.getD k 0) (((ns.length : Nat) : Int) % 2) (7 * ((k : Nat) : Int))) (List.range cs.length) (r1 := [some (script ns), some (IL true cs), none]) (r0 := [some (script ns), some (IL true cs), none]) ?_ rfl (by rw [List.length_range]; omega) ?_
    · rw [it_rngI l1 (by unfold within; exact decide_eq_true (by omega)), Int.toNat_natCast, rng_nt]
    · intro k hk
      have hk : k < cs.length := List.mem_range.mp hk
      refine ⟨[some (script ns), some (IL true cs), some (nt k)], rfl, [some (script ns), some (IL true cs), some (nt k)], ?_, rfl⟩
      have l2 : cB (b1 lenD) (cCons (cVar 0) cNil) [some (script ns), some (IL true cs), some (nt k)] = .ok (.val (.int (ns.map D.int).length)) [some (script ns), some (IL true cs), some (nt k)] := len_go (k := .rd) (VL.cvar_loc rfl rfl) rfl rfl
      rw [List.length_map] at l2
      have at1 : atI (cs.map D.int) ((k : Nat) : Int) = some (.int (cs.getD k 0)) := by
        rw [VL.atI_nat, List.getElem?_map, List.getD_eq_getElem?_getD, List.getElem?_eq_getElem hk]; rfl
      exact set_val (lst_ok (cons_ok (set_val (ixA_go (VL.cvar_loc rfl rfl) (cvar_at rfl rfl) rfl rfl at1 rfl)) (cons_ok (set_val (mod_ok l2 (j := 2) rfl (by decide))) (cons_ok (set_val (mul_ok (i := 7) (j := (k : Int)) rfl rfl (VH.mulOk_l (by decide)))) (nil_ok _)))) rfl (Nat.le_of_ble_eq_true rfl))
  refine ⟨(List.range cs.length).map fun k : Nat => dk (cs.getD k 0) (((ns.length : Nat) : Int) % 2) (7 * ((k : Nat) : Int)), ?_, ?_, ?_, ?_⟩
  · unfold F__law_decks f__law_decks
    exact runF_go (r := [some (script ns), none, none]) (by walk_at "start") (seq_go s1 (seq_go s2 (ret_go s3))) rfl
  · rw [List.length_map, List.length_range]; exact h1
  · rw [List.length_map, List.length_range]; exact h2
  · intro d hd
    obtain ⟨k, _, rfl⟩ := List.mem_map.mp hd
    exact ⟨_, _, _, rfl⟩

structure Dr (L : List Lp) (z : Int) : Prop where
  pos : ∀ p ∈ L, 1 ≤ p.2
  lo : ∀ p ∈ L, 0 ≤ p.1 ∧ p.1 ≤ z
  up : L.Pairwise fun p q => p.1 < q.1
theorem Dr.add {L : List Lp} {z : Int} (h : Dr L z) (hz : -1 ≤ z) {v : Int} (hv : 0 ≤ v) {l : Nat} (hl : 1 ≤ l) : Dr (L ++ [(z + 1 + v, l)]) (z + 1 + v) := by
  refine ⟨fun p hp => ?_, fun p hp => ?_, List.pairwise_append.mpr ⟨h.up, List.pairwise_singleton _ _, fun p hp q hq => ?_⟩⟩
  · rcases List.mem_append.mp hp with hp | hp
    · exact h.pos p hp
    · rw [List.mem_singleton.mp hp]; exact hl
  · rcases List.mem_append.mp hp with hp | hp
    · have := h.lo p hp; omega
    · rw [List.mem_singleton.mp hp]; show 0 ≤ z + 1 + v ∧ z + 1 + v ≤ z + 1 + v; omega
  · rw [List.mem_singleton.mp hq]
    have := (h.lo p hp).2
    show p.1 < z + 1 + v
    omega
noncomputable abbrev dlB : Sv := (cSeq (cAsg (.nm 3) (cBin gAdd (cBin gAdd (cVar 3) (cC (.int 1))) (cCallQ 0 1 F__law_draw (cCons (cVar 4) (cCons (cSet (cC (.int 4))) cNil)))))
  (cExpr (cApp 2 (cTup (cCons (cSet (cVar 3)) (cCons (cSet (cBin gAdd (cC (.int 1)) (cCallQ 0 1 F__law_draw (cCons (cVar 4) (cCons (cSet (cBin gIx (cLst (cCons (cSet (cC (.int 6))) (cCons (cSet (cC (.int 12))) (cCons (cSet (cC (.int 12))) (cCons (cSet (cC (.int 257))) (cCons (cSet (cBin gPow (cC (.int 10)) (cC (.int 20)))) cNil)))))) (cCallQ 0 1 F__law_draw (cCons (cVar 4) (cCons (cSet (cC (.int 5))) cNil))))) cNil))))) cNil))))))
abbrev D5 (S M : D) (L : List Lp) (z : Int) (d : Option D) : Rho := [some S, some M, some (.node .lst true (L.map pl)), some (.int z), d]
theorem dl_step (S M : D) (L : List Lp) (z : Int) (a b c : Int) (hl : L.length < 1000) : ∃ v a' c', ∃ l : Nat, 0 ≤ v ∧ v < 4 ∧ 1 ≤ l ∧ dlB (D5 S M L z (some (dk a b c))) = .nx (D5 S M (L ++ [(z + 1 + v, l)]) (z + 1 + v) (some (dk a' b c'))) := by
  obtain ⟨v, a1, c1, e1, h1, h2⟩ := dq (r := D5 S M L z (some (dk a b c))) (i := 4) (fm := cC (.int 4)) rfl (set_val rfl) (by decide) (by decide)
  have s1 : cAsg (.nm 3) (cBin gAdd (cBin gAdd (cVar 3) (cC (.int 1))) (cCallQ 0 1 F__law_draw (cCons (cVar 4) (cCons (cSet (cC (.int 4))) cNil)))) (D5 S M L z (some (dk a b c))) = .nx (D5 S M L (z + 1 + v) (some (dk a1 b c1))) :=
    VH.asg_go (set_val (add_ok (i := z + 1) (j := v) (add_ok (i := z) (j := 1) rfl rfl) e1)) rfl
  obtain ⟨w, a2, c2, e2, h3, h4⟩ := dq (r := D5 S M L (z + 1 + v) (some (dk a1 b c1))) (i := 4) (fm := cC (.int 5)) rfl (set_val rfl) (by decide) (by decide)
  have hm : ∃ m : Int, 0 < m ∧ m ≤ 100000000000000000000 ∧ atI [D.int 6, D.int 12, D.int 12, D.int 257, D.int 100000000000000000000] w = some (.int m) := by
    have : w = 0 ∨ w = 1 ∨ w = 2 ∨ w = 3 ∨ w = 4 := by omega
    rcases this with e | e | e | e | e <;> subst e
    · exact ⟨6, by decide, by decide, rfl⟩
    · exact ⟨12, by decide, by decide, rfl⟩
    · exact ⟨12, by decide, by decide, rfl⟩
    · exact ⟨257, by decide, by decide, rfl⟩
    · exact ⟨100000000000000000000, by decide, by decide, rfl⟩
  obtain ⟨m, hm1, hm2, hm3⟩ := hm
  have e3 : cSet (cBin gIx (cLst (cCons (cSet (cC (.int 6))) (cCons (cSet (cC (.int 12))) (cCons (cSet (cC (.int 12))) (cCons (cSet (cC (.int 257))) (cCons (cSet (cBin gPow (cC (.int 10)) (cC (.int 20)))) cNil)))))) (cCallQ 0 1 F__law_draw (cCons (cVar 4) (cCons (cSet (cC (.int 5))) cNil)))) (D5 S M L (z + 1 + v) (some (dk a1 b c1))) = .ok (.val (.int m)) (D5 S M L (z + 1 + v) (some (dk a2 b c2))) :=
    set_val (ixA_go (o := true) (k := .lst) (xs := [D.int 6, D.int 12, D.int 12, D.int 257, D.int 100000000000000000000]) (lst_ok (cons_ok (set_val rfl) (cons_ok (set_val rfl) (cons_ok (set_val rfl) (cons_ok (set_val rfl) (cons_ok (set_val (VH.pow_go (i := 10) (j := 20) (v := 100000000000000000000) rfl rfl (by decide +kernel) (by decide +kernel))) (nil_ok _)))))) rfl (Nat.le_of_ble_eq_true rfl)) e2 rfl rfl hm3 rfl)
  obtain ⟨u, a3, c3, e4, h5, h6⟩ := dq2 (r := D5 S M L (z + 1 + v) (some (dk a1 b c1))) (i := 4) rfl e3 rfl hm1 hm2
  refine ⟨v, a3, c3, (1 + u).toNat, h1, h2, by omega, seq_go s1 ?_⟩
  have e5 : (((1 + u).toNat : Nat) : Int) = 1 + u := by omega
  refine app_go rfl (set_val (tup_ok (ds := [.int (z + 1 + v), .int (1 + u)]) (cons_ok (set_val (cvar_at rfl rfl)) (cons_ok (set_val (add_ok (i := 1) (j := u) rfl e4)) (nil_ok _))) rfl (Nat.le_of_ble_eq_true rfl))) rfl (by rw [List.length_map]; omega) ?_
  show _ = [some S, some M, some (.node .lst true ((L ++ [(z + 1 + v, (1 + u).toNat)]).map pl)), _, _]
  rw [List.map_append]
  show _ = [some S, some M, some (.node .lst true (L.map pl ++ [.node .tup false [.int (z + 1 + v), .int (((1 + u).toNat : Nat) : Int)]])), some (.int (z + 1 + v)), some (dk a3 b c3)]
  rw [e5]
  rfl
theorem dl_loop (S M : D) : ∀ (ds : List D) (L : List Lp) (z : Int) (d : Option D), (∀ d ∈ ds, ∃ a b c, d = dk a b c) → Dr L z → -1 ≤ z → L.length + ds.length < 1000 → ∃ L' z' d', forL (.nm 4) dlB ds (D5 S M L z d) = .nx (D5 S M L' z' d') ∧ Dr L' z' ∧ z' ≤ z + 4 * ds.length ∧ L'.length = L.length + ds.length
  | [], L1, z, d, _, h, _, _ => ⟨L1, z, d, rfl, h, by simp, rfl⟩
  | x :: ds, L1, z, d, hd, h, hz, hl => by
    rw [List.length_cons] at hl
    obtain ⟨a, b, c, rfl⟩ := hd x List.mem_cons_self
    obtain ⟨v, a', c', l, h1, h2, h3, e⟩ := dl_step S M L1 z a b c (by omega)
    obtain ⟨L', z', d', ih, h4, h5, h6⟩ := dl_loop S M ds (L1 ++ [(z + 1 + v, l)]) (z + 1 + v) (some (dk a' b c')) (fun y hy => hd y (List.mem_cons_of_mem _ hy)) (h.add hz h1 h3) (by omega) (by rw [List.length_append, List.length_singleton]; omega)
    rw [List.length_append, List.length_singleton] at h6
    exact ⟨L', z', d', forL_c rfl e ih, h4, by rw [List.length_cons]; omega, by rw [List.length_cons]; omega⟩
theorem drawn_ok (ns : List Int) (hl : ns.length ≤ 63) : ∃ L z, F__law_drawn_lengths [script ns, .int 60] = .ok (.node .lst true (L.map pl)) ∧ Dr L z ∧ z ≤ 300 ∧ L.length ≤ 60 ∧ 0 < L.length := by
  obtain ⟨ds, e, h1, h0, h2⟩ := decks_ok ns hl
  obtain ⟨L', z', d', e2, h3, h4, h5⟩ := dl_loop (script ns) (.int 60) (ds.take 60) [] (-1) none (fun d hd => h2 d (List.mem_of_mem_take hd)) ⟨fun p hp => (by cases hp), fun p hp => (by cases hp), List.Pairwise.nil⟩ (by decide) (by rw [List.length_take, List.length_nil]; omega)
  rw [List.length_take] at h4 h5
  rw [List.length_nil] at h5
  refine ⟨L', z', ?_, h3, by omega, by omega, by omega⟩
  have nl : noL (.node .lst true ds) = true := by
    show (true && noLs ds) = true
    rw [noLs_of fun d hd => ?_]
    · rfl
    · obtain ⟨a, b, c, rfl⟩ := h2 d hd
      rfl
  have c1 : cCall 1 F__law_decks (cCons (cVar 0) cNil) (D5 (script ns) (.int 60) [] (-1) none) = .ok (.val (.node .lst true ds)) (D5 (script ns) (.int 60) [] (-1) none) :=
    call_go (cons_ok (VL.cvar_loc rfl rfl) (nil_ok _)) rfl inferInstance rfl e ⟨nl⟩
  have i1 : iLst (cSlV (cCall 1 F__law_decks (cCons (cVar 0) cNil)) none (some (cVar 1))) (D5 (script ns) (.int 60) [] (-1) none) = .ok (ds.take 60) (D5 (script ns) (.int 60) [] (-1) none) := by
    refine it_lstG (o := true) (k := .lst) ?_ rfl
    refine set_val ?_
    unfold cSlV
    rw [c1, bd_ok, q_part0, VH.part_ok (f := cVar 1) (i := 60) (r1 := D5 (script ns) (.int 60) [] (-1) none) rfl]
    show EO.ok (R.val (.node .lst true (VL.cutD ds none (some 60)))) _ = _
    rw [VH.cutD_ns ds (by decide)]
    rfl
  unfold F__law_drawn_lengths f__law_drawn_lengths
  refine runF_go (x := .loc 2) (r1 := D5 (script ns) (.int 60) L' z' d') (r := [some (script ns), some (.int 60), none, none, none]) (by walk_at "start") (seq_go (r1 := [some (script ns), some (.int 60), some (.node .lst true []), none, none]) (VH.asg_go (set_val rfl) rfl) (seq_go (r1 := D5 (script ns) (.int 60) [] (-1) none) (VH.asg_go (set_val rfl) rfl) (seq_go (for_go i1 e2) (ret_go (VL.cvar_loc rfl rfl))))) rfl
end K09.Co

namespace K09.Hf
open VH K09
theorem sortedP_pr {fa : Ev} {r r1 : Rho} {o : Bool} {ps : List (Int × Int)} (h : fa r = .ok (.val (.node .lst o (ps.map pr))) r1) : cB gSortedP (cCons fa cNil) r = .ok (.val (.node .lst true ((srtP ps).map pr))) r1 := VL.sortedP_ok (o := o) h
def tgs : Nat → List (Int × Int) → List (Int × Int)
  | _, [] => []
  | k, p :: cs => (p.2, (k : Int)) :: tgs (k + 1) cs
def ens : Nat → List (Int × Int) → List (Int × (Int × Int))
  | _, [] => []
  | k, p :: cs => ((k : Int), p) :: ens (k + 1) cs
def ee (q : Int × (Int × Int)) : D := .node .tup false [.int q.1, pr q.2]
theorem enum_ens : ∀ (k : Nat) (cs : List (Int × Int)), enumD k (cs.map pr) = (ens k cs).map ee
  | _, [] => rfl
  | k, p :: cs => by
    have ih := enum_ens (k + 1) cs
    show _ :: enumD (k + 1) (cs.map pr) = _
    rw [ih]
    rfl
theorem ens_tgs : ∀ (k : Nat) (cs : List (Int × Int)), (ens k cs).map (fun q => (q.2.2, q.1)) = tgs k cs
  | _, [] => rfl
  | k, p :: cs => by
    show (p.2, (k : Int)) :: (ens (k + 1) cs).map _ = _
    rw [ens_tgs (k + 1) cs]; rfl
theorem ens_len : ∀ (k : Nat) (cs : List (Int × Int)), (ens k cs).length = cs.length
  | _, [] => rfl
  | k, p :: cs => by
    show (ens (k + 1) cs).length + 1 = _
    rw [ens_len (k + 1) cs]; rfl
theorem tgs_len : ∀ (k : Nat) (cs : List (Int × Int)), (tgs k cs).length = cs.length
  | _, [] => rfl
  | k, p :: cs => by
    show (tgs (k + 1) cs).length + 1 = _
    rw [tgs_len (k + 1) cs]; rfl
def jo (n : Nat) : Nat → List (Int × Int) → Nat → List (Int × Int)
  | m + 1, (l, a) :: (h, b) :: rest, k => (min a b, max a b) :: jo n m (srtP (rest ++ [(l + h, ((n + k : Nat) : Int))])) (k + 1)
  | _, _, _ => []
abbrev R10 (cs ts fs : List (Int × Int)) (a b c d : Option D) : Rho := [some (.node .lst false (cs.map pr)), some (.node .lst true (ts.map pr)), some (.node .lst true (fs.map pr)), a, b, c, d, none, none, none]
noncomputable abbrev bodyJ : Sv := (cSeq (cAsgPP [3, 4] [5, 6] (cSl (cVar 1) none (some (cC (.int 2)))))
  (cSeq (cAsg (.nm 1) (cB gSortedP (cCons (cBin gAdd (cSl (cVar 1) (some (cC (.int 2))) none) (cLst (cCons (cSet (cTup (cCons (cSet (cBin gAdd (cVar 3) (cVar 5))) (cCons (cSet (cBin gAdd (cB (b1 lenD) (cCons (cVar 0) cNil)) (cB (b1 lenD) (cCons (cVar 2) cNil)))) cNil)))) cNil))) cNil)))
  (cExpr (cApp 2 (cTup (cCons (cSet (cB (gMin2) (cCons (cVar 4) (cCons (cVar 6) cNil)))) (cCons (cSet (cB (gMax2) (cCons (cVar 4) (cCons (cVar 6) cNil)))) cNil)))))))
noncomputable abbrev condJ : Ev := (cBin gGt (cB (b1 lenD) (cCons (cVar 1) cNil)) (cC (.int 1)))
theorem j_step (cs ts fs : List (Int × Int)) (l a h b : Int) (x1 x2 x3 x4 : Option D) (h1 : cs.length ≤ 2600) (h2 : ts.length ≤ 1000) (h3 : fs.length ≤ 1000) :
    bodyJ (R10 cs ((l, a) :: (h, b) :: ts) fs x1 x2 x3 x4) = .nx (R10 cs (srtP (ts ++ [(l + h, ((cs.length + fs.length : Nat) : Int))])) (fs ++ [(min a b, max a b)]) (some (.int l)) (some (.int a)) (some (.int h)) (some (.int b))) := by
  have s1 : cAsgPP [3, 4] [5, 6] (cSl (cVar 1) none (some (cC (.int 2)))) (R10 cs ((l, a) :: (h, b) :: ts) fs x1 x2 x3 x4) = .nx (R10 cs ((l, a) :: (h, b) :: ts) fs (some (.int l)) (some (.int a)) (some (.int h)) (some (.int b))) := by
    have e : cSl (cVar 1) none (some (cC (.int 2))) (R10 cs ((l, a) :: (h, b) :: ts) fs x1 x2 x3 x4) = .ok (.val (.node .lst true [pr (l, a), pr (h, b)])) (R10 cs ((l, a) :: (h, b) :: ts) fs x1 x2 x3 x4) := by
      have e := VH.sl_ns (fa := cVar 1) (fh := cC (.int 2)) (r := R10 cs ((l, a) :: (h, b) :: ts) fs x1 x2 x3 x4) (x := .loc 1) (xs := ((l, a) :: (h, b) :: ts).map pr) (k := .lst) (o := true) (j := 2) rfl rfl rfl inferInstance rfl (VH.touch_l rfl inferInstance) (by decide)
      rw [e]; rfl
    show (cSet _ _).st _ = _
    rw [VH.set_val e]
    rfl
  have s2 : cAsg (.nm 1) (cB gSortedP (cCons (cBin gAdd (cSl (cVar 1) (some (cC (.int 2))) none) (cLst (cCons (cSet (cTup (cCons (cSet (cBin gAdd (cVar 3) (cVar 5))) (cCons (cSet (cBin gAdd (cB (b1 lenD) (cCons (cVar 0) cNil)) (cB (b1 lenD) (cCons (cVar 2) cNil)))) cNil)))) cNil))) cNil)) (R10 cs ((l, a) :: (h, b) :: ts) fs (some (.int l)) (some (.int a)) (some (.int h)) (some (.int b))) = .nx (R10 cs (srtP (ts ++ [(l + h, ((cs.length + fs.length : Nat) : Int))])) fs (some (.int l)) (some (.int a)) (some (.int h)) (some (.int b))) := by
    have e : cSl (cVar 1) (some (cC (.int 2))) none (R10 cs ((l, a) :: (h, b) :: ts) fs (some (.int l)) (some (.int a)) (some (.int h)) (some (.int b))) = .ok (.val (.node .lst true (ts.map pr))) (R10 cs ((l, a) :: (h, b) :: ts) fs (some (.int l)) (some (.int a)) (some (.int h)) (some (.int b))) := by
      have e := VH.sl_sn (fa := cVar 1) (fl := cC (.int 2)) (r := R10 cs ((l, a) :: (h, b) :: ts) fs (some (.int l)) (some (.int a)) (some (.int h)) (some (.int b))) (x := .loc 1) (xs := ((l, a) :: (h, b) :: ts).map pr) (k := .lst) (o := true) (i := 2) rfl rfl rfl inferInstance rfl (VH.touch_l rfl inferInstance) (by decide)
      rw [e]; rfl
    have e2 : cLst (cCons (cSet (cTup (cCons (cSet (cBin gAdd (cVar 3) (cVar 5))) (cCons (cSet (cBin gAdd (cB (b1 lenD) (cCons (cVar 0) cNil)) (cB (b1 lenD) (cCons (cVar 2) cNil)))) cNil)))) cNil) (R10 cs ((l, a) :: (h, b) :: ts) fs (some (.int l)) (some (.int a)) (some (.int h)) (some (.int b))) = .ok (.val (.node .lst true [.node .tup false [.int (l + h), .int ((cs.length : Nat) + (fs.length : Nat))]])) (R10 cs ((l, a) :: (h, b) :: ts) fs (some (.int l)) (some (.int a)) (some (.int h)) (some (.int b))) := by
      walk_at "ev"
    have e3 : cBin gAdd (cSl (cVar 1) (some (cC (.int 2))) none) (cLst (cCons (cSet (cTup (cCons (cSet (cBin gAdd (cVar 3) (cVar 5))) (cCons (cSet (cBin gAdd (cB (b1 lenD) (cCons (cVar 0) cNil)) (cB (b1 lenD) (cCons (cVar 2) cNil)))) cNil)))) cNil)) (R10 cs ((l, a) :: (h, b) :: ts) fs (some (.int l)) (some (.int a)) (some (.int h)) (some (.int b))) = .ok (.val (.node .lst true ((ts ++ [(l + h, ((cs.length + fs.length : Nat) : Int))]).map pr))) (R10 cs ((l, a) :: (h, b) :: ts) fs (some (.int l)) (some (.int a)) (some (.int h)) (some (.int b))) := by
      have q := VH.addL_go e e2 rfl rfl (inferInstance : VH.Fzs (ts.map pr) (ts.map pr)) inferInstance (by simp; omega) rfl rfl
      rw [q, List.map_append]
      rfl
    exact asg_ok (sortedP_pr e3)
  refine (seq_nx s1).trans ((seq_nx s2).trans ?_)
  have e0 : cTup (cCons (cSet (cB (gMin2) (cCons (cVar 4) (cCons (cVar 6) cNil)))) (cCons (cSet (cB (gMax2) (cCons (cVar 4) (cCons (cVar 6) cNil)))) cNil)) (R10 cs (srtP (ts ++ [(l + h, ((cs.length + fs.length : Nat) : Int))])) fs (some (.int l)) (some (.int a)) (some (.int h)) (some (.int b))) = .ok (.val (.node .tup false [.int (min a b), .int (max a b)])) (R10 cs (srtP (ts ++ [(l + h, ((cs.length + fs.length : Nat) : Int))])) fs (some (.int l)) (some (.int a)) (some (.int h)) (some (.int b))) := by
    walk_at "ev"
  have e := VL.app_ok (fa := cTup (cCons (cSet (cB (gMin2) (cCons (cVar 4) (cCons (cVar 6) cNil)))) (cCons (cSet (cB (gMax2) (cCons (cVar 4) (cCons (cVar 6) cNil)))) cNil))) (i := 2) (r := R10 cs (srtP (ts ++ [(l + h, ((cs.length + fs.length : Nat) : Int))])) fs (some (.int l)) (some (.int a)) (some (.int h)) (some (.int b))) (d := pr (min a b, max a b)) (ds := fs.map pr) rfl (VH.set_val e0) rfl (by rw [List.length_map]; omega)
  rw [e]
  show SO.nx [_, _, some (D.node .lst true (fs.map pr ++ [pr (min a b, max a b)])), _, _, _, _, _, _, _] = SO.nx [_, _, some (D.node .lst true ((fs ++ [(min a b, max a b)]).map pr)), _, _, _, _, _, _, _]
  rw [List.map_append]
  rfl
theorem srtP_len (ps : List (Int × Int)) : (srtP ps).length = ps.length := (srtP_perm ps).length_eq
theorem j_loop (cs : List (Int × Int)) (h1 : cs.length ≤ 500) : ∀ (m N : Nat) (ts fs : List (Int × Int)) (x1 x2 x3 x4 : Option D), ts.length ≤ m + 1 → m ≤ 400 → fs.length + m ≤ 500 → m < N →
    ∃ ts' x1' x2' x3' x4', whileL condJ bodyJ N (R10 cs ts fs x1 x2 x3 x4) = .nx (R10 cs ts' (fs ++ jo cs.length m ts fs.length) x1' x2' x3' x4')
  | m, 0, ts, fs, x1, x2, x3, x4, h2, _, h3, h4 => by omega
  | m, N + 1, [], fs, x1, x2, x3, x4, h2, _, h3, h4 => ⟨[], x1, x2, x3, x4, by
      have e : jo cs.length m [] fs.length = [] := by cases m <;> rfl
      rw [e, List.append_nil]
      exact VH.wh_n (b := false) rfl rfl⟩
  | m, N + 1, [p], fs, x1, x2, x3, x4, h2, _, h3, h4 => ⟨[p], x1, x2, x3, x4, by
      have e : jo cs.length m [p] fs.length = [] := by cases m <;> rfl
      rw [e, List.append_nil]
      exact VH.wh_n (b := false) rfl rfl⟩
  | 0, N + 1, _ :: _ :: ts, fs, x1, x2, x3, x4, h2, _, h3, h4 => by simp at h2
  | m + 1, N + 1, (l, a) :: (h, b) :: ts, fs, x1, x2, x3, x4, h2, h5, h3, h4 => by
    rw [List.length_cons, List.length_cons] at h2
    have st := j_step cs ts fs l a h b x1 x2 x3 x4 (by omega) (by omega) (by omega)
    obtain ⟨ts', y1, y2, y3, y4, e⟩ := j_loop cs h1 m N (srtP (ts ++ [(l + h, ((cs.length + fs.length : Nat) : Int))])) (fs ++ [(min a b, max a b)]) (some (.int l)) (some (.int a)) (some (.int h)) (some (.int b)) (by rw [srtP_len, List.length_append, List.length_singleton]; omega) (by omega) (by rw [List.length_append, List.length_singleton]; omega) (by omega)
    refine ⟨ts', y1, y2, y3, y4, ?_⟩
    have c : condJ (R10 cs ((l, a) :: (h, b) :: ts) fs x1 x2 x3 x4) = .ok (.val (.bl (decide ((1 : Int) < (((ts.map pr).length + 1 + 1 : Nat) : Int))))) (R10 cs ((l, a) :: (h, b) :: ts) fs x1 x2 x3 x4) := rfl
    refine VH.wh_y c (decide_eq_true (by omega)) st (e.trans ?_)
    rw [List.length_append, List.length_singleton, List.append_assoc]
    rfl
theorem joinings_ok (cs : List (Int × Int)) (h : cs.length ≤ 260) : F_joinings_of [.node .lst false (cs.map pr)] = .ok (.node .lst true ((jo cs.length 260 (srtP (tgs 0 cs)) 0).map pr)) := by
  have c1 : cLc [7, 8, 9] (.tn 7 [8, 9]) (iRng gEn (cCons (cSet (cVar 0)) cNil)) none (cTup (cCons (cSet (cVar 9)) (cCons (cSet (cVar 7)) cNil))) (startR 10 [.node .lst false (cs.map pr)]) = .ok (.val (.node .lst true ((tgs 0 cs).map pr))) (startR 10 [.node .lst false (cs.map pr)]) := by
    have it : iRng gEn (cCons (cSet (cVar 0)) cNil) (startR 10 [.node .lst false (cs.map pr)]) = .ok ((ens 0 cs).map ee) (startR 10 [.node .lst false (cs.map pr)]) := by
      rw [← enum_ens]
      exact VH.it_enumG (o := false) (VH.set_loc (i := 0) rfl rfl inferInstance rfl) inferInstance
    have e := VH.lc_all (t := .tn 7 [8, 9]) (vs := [7, 8, 9]) (fe := cTup (cCons (cSet (cVar 9)) (cCons (cSet (cVar 7)) cNil))) (g := fun q => pr (q.2.2, q.1)) (ens 0 cs) it rfl (by rw [ens_len]; omega) fun q _ => ⟨[some (.node .lst false (cs.map pr)), none, none, none, none, none, none, some (.int q.1), some (.int q.2.1), some (.int q.2.2)], rfl, [some (.node .lst false (cs.map pr)), none, none, none, none, none, none, some (.int q.1), some (.int q.2.1), some (.int q.2.2)], rfl, rfl⟩
    rw [e, ← ens_tgs, List.map_map]
    rfl
  have s1 : cAsg (.nm 1) (cB gSortedP (cCons (cLc [7, 8, 9] (.tn 7 [8, 9]) (iRng gEn (cCons (cSet (cVar 0)) cNil)) none (cTup (cCons (cSet (cVar 9)) (cCons (cSet (cVar 7)) cNil)))) cNil)) (startR 10 [.node .lst false (cs.map pr)]) = .nx [some (.node .lst false (cs.map pr)), some (.node .lst true ((srtP (tgs 0 cs)).map pr)), none, none, none, none, none, none, none, none] := asg_ok (sortedP_pr c1)
  obtain ⟨ts', y1, y2, y3, y4, e⟩ := j_loop cs (by omega) 260 fuel (srtP (tgs 0 cs)) [] none none none none (by rw [srtP_len, tgs_len]; omega) (by omega) (by rw [List.length_nil]; omega) (VL.lt_fuel (by omega))
  rw [List.nil_append] at e
  exact runF_ok (n := 10) (x := .loc 2) ((seq_nx s1).trans ((seq_nx (r1 := R10 cs (srtP (tgs 0 cs)) [] none none none none) rfl).trans ((seq_nx e).trans rfl))) rfl
end K09.Hf

namespace K09.Hf
open VH K09
def Jn (n : Nat) : Nat → (Int → Prop) → List (Int × Int) → Prop
  | _, _, [] => True
  | k, S, (x, y) :: js => x < y ∧ S x ∧ S y ∧ Jn n (k + 1) (fun z => (S z ∧ z ≠ x ∧ z ≠ y) ∨ z = ((n + k : Nat) : Int)) js
def occ (js : List (Int × Int)) (z : Int) : Prop := ∃ p ∈ js, p.1 = z ∨ p.2 = z
def Bd (n k : Nat) (S : Int → Prop) : Prop := ∀ z, S z → 0 ≤ z ∧ z < ((n + k : Nat) : Int)
theorem Jn_split {n : Nat} : ∀ (as : List (Int × Int)) {bs : List (Int × Int)} {k : Nat} {S : Int → Prop}, Bd n k S → Jn n k S (as ++ bs) → ∃ S', Jn n (k + as.length) S' bs ∧ Bd n (k + as.length) S' ∧ (∀ z, S' z → S z ∨ ((n + k : Nat) : Int) ≤ z) ∧ ∀ z, occ as z → ¬ S' z
  | [], bs, k, S, hb, h => ⟨S, h, hb, fun z hz => .inl hz, fun z ⟨p, hp, _⟩ => by cases hp⟩
  | (x, y) :: as, bs, k, S, hb, h => by
    obtain ⟨h1, h2, h3, h4⟩ := h
    have b1 : Bd n (k + 1) (fun z => (S z ∧ z ≠ x ∧ z ≠ y) ∨ z = ((n + k : Nat) : Int)) := fun z hz => by
      rcases hz with ⟨hz, _⟩ | rfl
      · have := hb z hz; omega
      · omega
    obtain ⟨S', e1, e2, e3, e4⟩ := Jn_split as b1 h4
    refine ⟨S', ?_, ?_, fun z hz => ?_, fun z ⟨p, hp, ho⟩ hz => ?_⟩
    · rw [List.length_cons, show k + (as.length + 1) = k + 1 + as.length by omega]; exact e1
    · rw [List.length_cons, show k + (as.length + 1) = k + 1 + as.length by omega]; exact e2
    · rcases e3 z hz with (⟨q, _⟩ | rfl) | q
      · exact .inl q
      · exact .inr (Int.le_refl _)
      · exact .inr (by omega)
    · rcases List.mem_cons.mp hp with rfl | hp
      · have hx := hb x h2
        have hy := hb y h3
        have ho : x = z ∨ y = z := ho
        rcases e3 z hz with (⟨_, q1, q2⟩ | q) | q
        · rcases ho with ho | ho
          · exact q1 ho.symm
          · exact q2 ho.symm
        · rcases ho with ho | ho <;> omega
        · rcases ho with ho | ho <;> omega
      · exact e4 z ⟨p, hp, ho⟩ hz
theorem Jn_at {n k : Nat} {S : Int → Prop} {js as bs : List (Int × Int)} {x y : Int} (hb : Bd n k S) (h : Jn n k S js) (e : js = as ++ (x, y) :: bs) : x < y ∧ 0 ≤ x ∧ y < ((n + k + as.length : Nat) : Int) ∧ ¬ occ as x ∧ ¬ occ as y := by
  subst e
  obtain ⟨S', e1, e2, e3, e4⟩ := Jn_split as hb h
  obtain ⟨h1, h2, h3, h4⟩ := e1
  have := e2 x h2
  have hy := e2 y h3
  exact ⟨h1, by omega, by omega, fun o => e4 x o h2, fun o => e4 y o h3⟩
def dep (n : Nat) : Nat → List (Int × Int) → Int → Nat
  | _, [], _ => 0
  | k, (x, y) :: js, z => if z = x ∨ z = y then dep n (k + 1) js ((n + k : Nat) : Int) + 1 else dep n (k + 1) js z
theorem dep_le {n : Nat} : ∀ (js : List (Int × Int)) (k : Nat) (z : Int), dep n k js z ≤ js.length
  | [], _, _ => Nat.le_refl _
  | (x, y) :: js, k, z => by
    show (if z = x ∨ z = y then dep n (k + 1) js ((n + k : Nat) : Int) + 1 else dep n (k + 1) js z) ≤ js.length + 1
    have h1 := dep_le (n := n) js (k + 1) ((n + k : Nat) : Int)
    have h2 := dep_le (n := n) js (k + 1) z
    split <;> omega
structure Inv (n k : Nat) (ks : List Int) (w : Int → Int) (ts : List (Int × Int)) : Prop where
  up : ts.Pairwise fun p q => leP p q = true
  pm : ts.Perm (ks.map fun x => (w x, x))
  nd : ks.Nodup
  bd : Bd n k (· ∈ ks)
def wo (ks : List Int) (x y : Int) : List Int := (ks.filter fun z => decide (z ≠ x)).filter fun z => decide (z ≠ y)
theorem mem_wo {ks : List Int} {x y z : Int} : z ∈ wo ks x y ↔ z ∈ ks ∧ z ≠ x ∧ z ≠ y := by
  unfold wo
  rw [List.mem_filter, List.mem_filter, decide_eq_true_eq, decide_eq_true_eq, and_assoc]
theorem wo_comm (ks : List Int) (x y : Int) : wo ks x y = wo ks y x := by
  unfold wo
  rw [List.filter_filter, List.filter_filter]
  congr 1
  funext z
  exact Bool.and_comm _ _
theorem wo_perm {ks : List Int} (nd : ks.Nodup) {a b : Int} (ha : a ∈ ks) (hb : b ∈ ks) (hab : a ≠ b) : ks.Perm (a :: b :: wo ks a b) := by
  have h : ∀ {ks : List Int} (nd : ks.Nodup) {a : Int} (ha : a ∈ ks), ks.Perm (a :: ks.filter fun z => decide (z ≠ a)) := fun {ks} nd {a} ha => by
    have p := List.perm_cons_erase ha
    rw [nd.erase_eq_filter] at p
    refine p.trans (List.Perm.of_eq ?_)
    congr 1
    refine List.filter_congr fun z _ => ?_
    by_cases e : z = a <;> simp [e]
  refine (h nd ha).trans (List.Perm.cons a ?_)
  exact h (nd.filter _) (List.mem_filter.mpr ⟨hb, by simpa using fun e => hab e.symm⟩)
def upW (w : Int → Int) (x d : Int) : Int → Int := fun y => if y = x then d else w y
theorem Inv.step {n k : Nat} {ks : List Int} {w : Int → Int} {l a h b : Int} {rest : List (Int × Int)} (I : Inv n k ks w ((l, a) :: (h, b) :: rest)) :
    min a b < max a b ∧ min a b ∈ ks ∧ max a b ∈ ks ∧ max (w (min a b)) (w (max a b)) = h ∧ w (min a b) + w (max a b) = l + h ∧ (∀ z ∈ ks, z ≠ min a b → z ≠ max a b → h ≤ w z) ∧ ((n + k : Nat) : Int) ∉ wo ks (min a b) (max a b) ∧
    Inv n (k + 1) (wo ks (min a b) (max a b) ++ [((n + k : Nat) : Int)]) (upW w ((n + k : Nat) : Int) (l + h)) (srtP (rest ++ [(l + h, ((n + k : Nat) : Int))])) := by
  have up1 := List.pairwise_cons.mp I.up
  have up2 := List.pairwise_cons.mp up1.2
  have ma : (l, a) ∈ ks.map fun x => (w x, x) := I.pm.mem_iff.mp List.mem_cons_self
  have mb : (h, b) ∈ ks.map fun x => (w x, x) := I.pm.mem_iff.mp (List.mem_cons_of_mem _ List.mem_cons_self)
  obtain ⟨a', ha, ea⟩ := List.mem_map.mp ma
  obtain ⟨b', hb, eb⟩ := List.mem_map.mp mb
  simp only [Prod.mk.injEq] at ea eb
  obtain ⟨wa, rfl⟩ := ea
  obtain ⟨wb, rfl⟩ := eb
  have ndm : (ks.map fun x => (w x, x)).Nodup := by
    unfold List.Nodup
    rw [List.pairwise_map]
    exact List.Pairwise.imp (fun {x y} h e => h (by injection e)) I.nd
  have ndt : ((l, a') :: (h, b') :: rest).Nodup := I.pm.nodup_iff.mpr ndm
  have hab : a' ≠ b' := fun e => by
    subst e
    have e2 : l = h := wa.symm.trans wb
    subst e2
    exact (List.nodup_cons.mp ndt).1 List.mem_cons_self
  have hlh : l ≤ h := by
    have := leP_iff.mp (up1.1 (h, b') List.mem_cons_self)
    simp only at this
    omega
  have pk := wo_perm I.nd ha hb hab
  have pr1 : rest.Perm ((wo ks a' b').map fun x => (w x, x)) := by
    have p := I.pm.trans (pk.map fun x => (w x, x))
    rw [List.map_cons, List.map_cons, wa, wb] at p
    exact (List.perm_cons _).mp ((List.perm_cons _).mp p)
  have hoth : ∀ z ∈ ks, z ≠ a' → z ≠ b' → h ≤ w z := fun z hz h1 h2 => by
    have : (w z, z) ∈ rest := pr1.mem_iff.mpr (List.mem_map.mpr ⟨z, mem_wo.mpr ⟨hz, h1, h2⟩, rfl⟩)
    have := leP_iff.mp (up2.1 _ this)
    simp only at this
    omega
  have hnew : ((n + k : Nat) : Int) ∉ ks := fun q => by have := I.bd _ q; omega
  have ewo : wo ks (min a' b') (max a' b') = wo ks a' b' := by
    rcases Int.le_total a' b' with q | q
    · rw [Int.min_eq_left q, Int.max_eq_right q]
    · rw [Int.min_eq_right q, Int.max_eq_left q, wo_comm]
  have hn2 : ((n + k : Nat) : Int) ∉ wo ks a' b' := fun q => hnew (mem_wo.mp q).1
  have fin : Inv n (k + 1) (wo ks a' b' ++ [((n + k : Nat) : Int)]) (upW w ((n + k : Nat) : Int) (l + h)) (srtP (rest ++ [(l + h, ((n + k : Nat) : Int))])) := by
    refine ⟨srtP_up _, (srtP_perm _).trans ?_, ?_, fun z hz => ?_⟩
    · rw [List.map_append]
      refine List.Perm.append ?_ (List.Perm.of_eq ?_)
      · refine pr1.trans (List.Perm.of_eq (List.map_congr_left fun x hx => ?_))
        unfold upW
        rw [if_neg (fun e : x = ((n + k : Nat) : Int) => hn2 (e ▸ hx))]
      · simp [upW]
    · rw [List.nodup_append]
      exact ⟨(I.nd.filter _).filter _, List.nodup_cons.mpr ⟨fun h => (List.not_mem_nil h), List.nodup_nil⟩, fun x hx y hy e => hn2 (by rw [List.mem_singleton.mp hy] at e; exact e ▸ hx)⟩
    · rcases List.mem_append.mp hz with hz | hz
      · have := I.bd z (mem_wo.mp hz).1; omega
      · rw [List.mem_singleton.mp hz]; omega
  rw [ewo]
  rcases Int.lt_or_gt_of_ne hab with q | q
  · rw [Int.min_eq_left (by omega), Int.max_eq_right (by omega : a' ≤ b')]
    exact ⟨q, ha, hb, by omega, by omega, hoth, hn2, fin⟩
  · rw [Int.min_eq_right (by omega), Int.max_eq_left (by omega : b' ≤ a')]
    exact ⟨q, hb, ha, by omega, by omega, fun z hz h1 h2 => hoth z hz h2 h1, hn2, fin⟩
theorem jo_len (n : Nat) : ∀ (m : Nat) (ts : List (Int × Int)) (k : Nat), ts.length ≤ m + 1 → (jo n m ts k).length = ts.length - 1
  | 0, [], k, h => rfl
  | 0, [_], k, h => rfl
  | 0, _ :: _ :: _, k, h => by simp at h
  | m + 1, [], k, h => rfl
  | m + 1, [_], k, h => rfl
  | m + 1, (l, a) :: (hh, b) :: ts, k, h => by
    rw [List.length_cons, List.length_cons] at h
    have ih := jo_len n m (srtP (ts ++ [(l + hh, ((n + k : Nat) : Int))])) (k + 1) (by rw [srtP_len, List.length_append, List.length_singleton]; omega)
    show (jo n m _ (k + 1)).length + 1 = _
    rw [ih, srtP_len, List.length_append, List.length_singleton, List.length_cons, List.length_cons]
    omega
theorem jo_jn (n : Nat) : ∀ (m : Nat) (ts : List (Int × Int)) (k : Nat) (ks : List Int) (w : Int → Int), Inv n k ks w ts → Jn n k (· ∈ ks) (jo n m ts k)
  | 0, ts, k, ks, w, I => by
    have e : jo n 0 ts k = [] := by cases ts with | nil => rfl | cons p ts => cases ts <;> rfl
    rw [e]; trivial
  | m + 1, [], k, ks, w, I => trivial
  | m + 1, [_], k, ks, w, I => trivial
  | m + 1, (l, a) :: (h, b) :: ts, k, ks, w, I => by
    obtain ⟨h1, h2, h3, _, _, _, _, I'⟩ := I.step
    have ih := jo_jn n m _ (k + 1) _ _ I'
    refine ⟨h1, h2, h3, ?_⟩
    have e : (fun z => (z ∈ ks ∧ z ≠ min a b ∧ z ≠ max a b) ∨ z = ((n + k : Nat) : Int)) = fun z => z ∈ wo ks (min a b) (max a b) ++ [((n + k : Nat) : Int)] := by
      funext z
      rw [List.mem_append, List.mem_singleton, mem_wo]
    rw [e]
    exact ih
end K09.Hf

namespace K09.Hf
open VH K09
theorem ix_pr {r : Rho} {i k : Nat} {fb : Ev} {js : List (Int × Int)} {p : Int × Int} (h : r[i]? = some (some (.node .lst false (js.map pr)))) (h2 : fb r = .ok (.val (.int (k : Nat))) r) (hp : js[k]? = some p) : cBin gIx (cVar i) fb r = .ok (.val (pr p)) r := by
  refine bin_ok (cvar_loc h rfl) h2 ?_
  have hk := List.getElem?_eq_some_iff.mp hp
  have a : atI (js.map pr) (k : Int) = some (pr p) := by
    rw [VH.at_enc hk.1, hk.2]
  exact ix_fz h (frzs_pr js) a rfl
theorem ix_pr2 {r : Rho} {fa fb : Ev} {p : Int × Int} (h : fa r = .ok (.val (pr p)) r) : cBin gIx fa (cC (.int 0)) r = .ok (.val (.int p.1)) r ∧ cBin gIx fa (cC (.int 1)) r = .ok (.val (.int p.2)) r :=
  ⟨bin_ok h rfl rfl, bin_ok h rfl rfl⟩
def rg (t : Nat) : List Int := (List.range t).map fun i => ((i : Nat) : Int)
theorem rg_mem {t : Nat} {z : Int} : z ∈ rg t ↔ 0 ≤ z ∧ z < t := by
  unfold rg
  rw [List.mem_map]
  constructor
  · rintro ⟨i, hi, rfl⟩
    have := List.mem_range.mp hi
    omega
  · rintro ⟨h1, h2⟩
    exact ⟨z.toNat, List.mem_range.mpr (by omega), by omega⟩
theorem rg_nd (t : Nat) : (rg t).Nodup := by
  unfold rg List.Nodup
  rw [List.pairwise_map]
  exact List.Pairwise.imp (fun {a b} hab z => by omega) (List.nodup_range (n := t))
def wc (cs : List (Int × Int)) : Int → Int := fun x => (cs.getD x.toNat (0, 0)).2
theorem tgs_at : ∀ (k : Nat) (cs : List (Int × Int)) (i : Nat), (tgs k cs)[i]? = cs[i]?.map fun p => (p.2, ((k + i : Nat) : Int))
  | k, [], i => rfl
  | k, p :: cs, 0 => rfl
  | k, p :: cs, i + 1 => by
    show (tgs (k + 1) cs)[i]? = cs[i]?.map _
    rw [tgs_at (k + 1) cs i, show k + 1 + i = k + (i + 1) by omega]
theorem tgs_rg (cs : List (Int × Int)) : tgs 0 cs = (rg cs.length).map fun x => (wc cs x, x) := by
  refine List.ext_getElem? fun i => ?_
  rw [tgs_at]
  unfold rg
  rw [List.map_map, List.getElem?_map]
  by_cases h : i < cs.length
  · rw [List.getElem?_eq_getElem h, List.getElem?_range h]
    show some _ = some _
    unfold wc
    simp [h]
  · rw [List.getElem?_eq_none (by omega), List.getElem?_eq_none (by simp; omega)]
    rfl
theorem inv0 (cs : List (Int × Int)) : Inv cs.length 0 (rg cs.length) (wc cs) (srtP (tgs 0 cs)) :=
  ⟨srtP_up _, (srtP_perm _).trans (List.Perm.of_eq (tgs_rg cs)), rg_nd _, fun z hz => by have := rg_mem.mp hz; omega⟩
abbrev JS (cs : List (Int × Int)) : List (Int × Int) := jo cs.length 260 (srtP (tgs 0 cs)) 0
theorem JS_len (cs : List (Int × Int)) (h : cs.length ≤ 260) : (JS cs).length = cs.length - 1 := by
  rw [jo_len _ _ _ _ (by rw [srtP_len, tgs_len]; omega), srtP_len, tgs_len]
theorem size_d (n : Nat) (h : n ≤ 100000) : Builtin.Range.rangeSize ((n : Int) - 1) (-1) (-1) = (n : Int) := by
  unfold Builtin.Range.rangeSize
  simp only [show ¬ ((-1 : Int) > 0) by decide, if_false]
  by_cases h2 : n = 0
  · subst h2; rfl
  · rw [if_pos (by omega), show -(-1 : Int) = 1 from rfl, Int.ediv_one]; omega
theorem fits {x : Int} (h1 : -1000000 ≤ x) (h2 : x ≤ 1000000) : Builtin.Range.rangeFitsLong x = true := by
  unfold Builtin.Range.rangeFitsLong
  rw [Bool.and_eq_true, decide_eq_true_eq, decide_eq_true_eq]
  omega
theorem small_d (n : Nat) (h : n ≤ 100000) : Builtin.Range.small ((n : Int) - 1) (-1) (-1) = true := by
  unfold Builtin.Range.small
  rw [size_d n h, fits (x := (n : Int) - 1) (by omega) (by omega), fits (x := -1) (by omega) (by omega), fits (x := (n : Int)) (by omega) (by omega), if_neg (by decide)]
  simp
  exact .inr (fits (by omega) (by omega))
theorem rng_down (n : Nat) : rngD ((n : Int) - 1) (-1) n = (List.range n).reverse.map VH.nt := by
  unfold rngD
  refine List.ext_getElem? fun j => ?_
  by_cases hj : j < n
  · rw [List.getElem?_map, List.getElem?_range hj, List.getElem?_map, List.getElem?_reverse (by rw [List.length_range]; exact hj), List.length_range, List.getElem?_range (by omega)]
    show some (D.int ((n : Int) - 1 + (j : Nat) * -1)) = some (D.int ((n - 1 - j : Nat) : Int))
    congr 2; omega
  · rw [List.getElem?_eq_none (by simp; omega), List.getElem?_eq_none (by simp; omega)]
def fd (cs js : List (Int × Int)) (i : Nat) : Int × Int := ((cs.getD i (0, 0)).1, max 1 ((dep cs.length 0 js (i : Int) : Nat) : Int))
def fds (cs js : List (Int × Int)) (t : Nat) : List (Int × Int) := (List.range t).map (fd cs js)
theorem it_len {i : Nat} {r : Rho} {xs : List (Int × Int)} (hl : xs.length ≤ 1000) (hr : r[i]? = some (some (.node .lst false (xs.map pr)))) : iRng rngI1 (cCons (cB (b1 lenD) (cCons (cVar i) cNil)) cNil) r = .ok ((List.range' 0 xs.length).map VH.nt) r := by
  have ln := VH.lenE_go (fa := cVar i) (f := pr) (xs := xs) (k := .lst) (o := false) (x := .loc i) (r := r) (cvar_loc hr rfl) (opd_loc' hr) rfl
  rw [VH.it_rngI ln (VL.within_le (by omega) (by omega)), VH.rng_nt, Int.toNat_natCast, List.range_eq_range']
def dn (cs js : List (Int × Int)) (t : Nat) : List Nat := (List.range (cs.length + js.length)).map fun i => dep cs.length t (js.drop t) ((i : Nat) : Int)
abbrev X5 (cs js : List (Int × Int)) (ds : List Nat) (k m : Option D) : Rho := [some (.node .lst false (cs.map pr)), some (.node .lst false (js.map pr)), some (.node .lst true (ds.map VH.nt)), k, m]
noncomputable abbrev bodyN : Sv := (cSetIx 2 (cVar 4) (cBin gAdd (cBin gIx (cVar 2) (cBin gAdd (cB (b1 lenD) (cCons (cVar 0) cNil)) (cVar 3))) (cC (.int 1))))
theorem n_step {cs js : List (Int × Int)} {ds : List Nat} {k z v : Nat} (hz : z < ds.length) (hk : ds[cs.length + k]? = some v) :
    bodyN (X5 cs js ds (some (VH.nt k)) (some (VH.nt z))) = .nx (X5 cs js (ds.set z (v + 1)) (some (VH.nt k)) (some (VH.nt z))) := by
  have ln := VH.lenE_go (fa := cVar 0) (f := pr) (xs := cs) (k := .lst) (o := false) (x := .loc 0) (r := X5 cs js ds (some (VH.nt k)) (some (VH.nt z))) rfl rfl rfl
  have a : cBin gAdd (cB (b1 lenD) (cCons (cVar 0) cNil)) (cVar 3) (X5 cs js ds (some (VH.nt k)) (some (VH.nt z))) = .ok (.val (VH.nt (cs.length + k))) (X5 cs js ds (some (VH.nt k)) (some (VH.nt z))) := VL.add_ok (fb := cVar 3) (j := (k : Int)) ln rfl
  obtain ⟨hv1, hv2⟩ := List.getElem?_eq_some_iff.mp hk
  have g : cBin gIx (cVar 2) (cBin gAdd (cB (b1 lenD) (cCons (cVar 0) cNil)) (cVar 3)) (X5 cs js ds (some (VH.nt k)) (some (VH.nt z))) = .ok (.val (VH.nt v)) (X5 cs js ds (some (VH.nt k)) (some (VH.nt z))) := by
    have := VH.ixA_go (fa := cVar 2) (x := .loc 2) (k := .lst) (o := true) (r := X5 cs js ds (some (VH.nt k)) (some (VH.nt z))) (r1 := X5 cs js ds (some (VH.nt k)) (some (VH.nt z))) (xs := ds.map VH.nt) (d := VH.nt v) rfl a rfl rfl (by
      rw [VH.at_enc hv1, hv2]) rfl
    exact this
  have p := VL.add_ok (fb := cC (.int 1)) (j := 1) g rfl
  refine VH.setIx_go (VH.set_val p) rfl (k := (z : Int)) (jj := z) (fk := cVar 4) (ds := ds.map VH.nt) rfl rfl (VH.ixN_nat (by rw [List.length_map]; exact hz)) ?_
  show [_, _, some (D.node .lst true ((ds.map VH.nt).set z (.int (((v : Nat) : Int) + 1)))), _, _] = [_, _, some (D.node .lst true ((ds.set z (v + 1)).map VH.nt)), _, _]
  rw [List.map_set]
  rfl
theorem dn_set {cs js : List (Int × Int)} {t : Nat} {x y : Int} (hj : js[t]? = some (x, y)) (hx : 0 ≤ x) (hxy : x < y) (hy : y < ((cs.length + t : Nat) : Int)) : dn cs js t = ((dn cs js (t + 1)).set x.toNat (dep cs.length (t + 1) (js.drop (t + 1)) ((cs.length + t : Nat) : Int) + 1)).set y.toNat (dep cs.length (t + 1) (js.drop (t + 1)) ((cs.length + t : Nat) : Int) + 1) := by
  obtain ⟨ht, hj⟩ := List.getElem?_eq_some_iff.mp hj
  have ed : js.drop t = (x, y) :: js.drop (t + 1) := by rw [List.drop_eq_getElem_cons ht, hj]
  unfold dn
  refine List.ext_getElem? fun i => ?_
  rw [ed]
  by_cases hi : i < cs.length + js.length
  · rw [List.getElem?_map, List.getElem?_range hi]
    show some (if ((i : Nat) : Int) = x ∨ ((i : Nat) : Int) = y then _ else _) = _
    by_cases h2 : ((i : Nat) : Int) = y
    · rw [if_pos (.inr h2), show i = y.toNat by omega, List.getElem?_set_self (by simp; omega)]
    · rw [List.getElem?_set_ne (by omega)]
      by_cases h1 : ((i : Nat) : Int) = x
      · rw [if_pos (.inl h1), show i = x.toNat by omega, List.getElem?_set_self (by simp; omega)]
      · rw [List.getElem?_set_ne (by omega), if_neg (fun q => q.elim h1 h2), List.getElem?_map, List.getElem?_range hi]
        rfl
  · rw [List.getElem?_eq_none (by simp; omega), List.getElem?_eq_none (by simp; omega)]
noncomputable abbrev bodyM : Sv := (cFor (.nm 4) (iTpl (cBin gIx (cVar 1) (cVar 3))) bodyN)
theorem m_step {cs js : List (Int × Int)} {S : Int → Prop} (hb : Bd cs.length 0 S) (hJ : Jn cs.length 0 S js) {t : Nat} (ht : t < js.length) (u : Option D) :
    ∃ u', bodyM (X5 cs js (dn cs js (t + 1)) (some (VH.nt t)) u) = .nx (X5 cs js (dn cs js t) (some (VH.nt t)) u') := by
  obtain ⟨x, y, hp⟩ : ∃ x y, js[t] = (x, y) := ⟨_, _, rfl⟩
  have hj : js[t]? = some (x, y) := by rw [List.getElem?_eq_getElem ht, hp]
  have hq := Jn_at (as := js.take t) (bs := js.drop (t + 1)) hb hJ (by rw [← hp, ← List.drop_eq_getElem_cons ht, List.take_append_drop])
  rw [List.length_take, Nat.min_eq_left (by omega)] at hq
  obtain ⟨q1, q2, q3, _, _⟩ := hq
  have it : iTpl (cBin gIx (cVar 1) (cVar 3)) (X5 cs js (dn cs js (t + 1)) (some (VH.nt t)) u) = .ok [.int x, .int y] (X5 cs js (dn cs js (t + 1)) (some (VH.nt t)) u) := by
    have g := ix_pr (i := 1) (k := t) (fb := cVar 3) (js := js) (r := X5 cs js (dn cs js (t + 1)) (some (VH.nt t)) u) rfl rfl hj
    show (match cSet (cBin gIx (cVar 1) (cVar 3)) (X5 cs js (dn cs js (t + 1)) (some (VH.nt t)) u) with | .ok (.val (.node .tup _ ds)) r1 => IO.ok ds r1 | .exc c r1 => .exc c r1 | _ => .bad) = _
    rw [VH.set_val g]
    rfl
  obtain ⟨xn, rfl⟩ := VH.int_nat q2
  obtain ⟨yn, rfl⟩ := VH.int_nat (show 0 ≤ y by omega)
  have hl : (dn cs js (t + 1)).length = cs.length + js.length := by unfold dn; simp
  have e0 : (dn cs js (t + 1))[cs.length + t]? = some (dep cs.length (t + 1) (js.drop (t + 1)) ((cs.length + t : Nat) : Int)) := by
    unfold dn
    rw [List.getElem?_map, List.getElem?_range (by omega)]
    rfl
  have s1 := n_step (cs := cs) (js := js) (ds := dn cs js (t + 1)) (k := t) (z := xn) (by omega) e0
  have s2 := n_step (cs := cs) (js := js) (ds := (dn cs js (t + 1)).set xn (dep cs.length (t + 1) (js.drop (t + 1)) ((cs.length + t : Nat) : Int) + 1)) (k := t) (z := yn) (by rw [List.length_set]; omega) (by rw [List.getElem?_set_ne (by omega)]; exact e0)
  have ds := dn_set (cs := cs) hj (by omega) q1 (by omega)
  rw [Int.toNat_natCast, Int.toNat_natCast] at ds
  refine ⟨some (VH.nt yn), for_ok it (((forL_cons (r1 := X5 cs js (dn cs js (t + 1)) (some (VH.nt t)) (some (VH.nt xn))) rfl s1).trans ((forL_cons (r1 := X5 cs js ((dn cs js (t + 1)).set xn (dep cs.length (t + 1) (js.drop (t + 1)) ((cs.length + t : Nat) : Int) + 1)) (some (VH.nt t)) (some (VH.nt yn))) rfl s2).trans ?_)))⟩
  rw [ds]
  rfl
theorem m_loop {cs js : List (Int × Int)} {S : Int → Prop} (hb : Bd cs.length 0 S) (hJ : Jn cs.length 0 S js) : ∀ (a : Nat) (k u : Option D), a ≤ js.length → ∃ k' u', forL (.nm 3) bodyM ((List.range a).reverse.map VH.nt) (X5 cs js (dn cs js a) k u) = .nx (X5 cs js (dn cs js 0) k' u')
  | 0, k, u, h => ⟨k, u, rfl⟩
  | a + 1, k, u, h => by
    obtain ⟨u1, st⟩ := m_step hb hJ (t := a) (by omega) u
    obtain ⟨k', u', e⟩ := m_loop hb hJ a (some (VH.nt a)) u1 (by omega)
    refine ⟨k', u', ?_⟩
    rw [List.range_succ, List.reverse_append, List.map_append]
    exact (forL_cons (r1 := X5 cs js (dn cs js (a + 1)) (some (VH.nt a)) u) rfl st).trans e
theorem lengths_ok {cs js : List (Int × Int)} {S : Int → Prop} (hb : Bd cs.length 0 S) (hJ : Jn cs.length 0 S js) (hl : js.length ≤ 300) (hc : cs.length ≤ 300) : F_lengths_by [.node .lst false (cs.map pr), .node .lst false (js.map pr)] = .ok (.node .lst true ((fds cs js cs.length).map pr)) := by
  have lens : ∀ {i : Nat} {r : Rho} {xs : List (Int × Int)}, r[i]? = some (some (.node .lst false (xs.map pr))) → cB (b1 lenD) (cCons (cVar i) cNil) r = .ok (.val (.int (xs.length : Nat))) r := fun {i r xs} hr =>
    VH.lenE_go (fa := cVar i) (f := pr) (xs := xs) (k := .lst) (o := false) (x := .loc i) (r := r) (cvar_loc hr rfl) (opd_loc' hr) rfl
  have e0 : dn cs js js.length = List.replicate (cs.length + js.length) 0 := by
    unfold dn
    rw [List.drop_length]
    refine List.ext_getElem? fun i => ?_
    by_cases hi : i < cs.length + js.length
    · rw [List.getElem?_map, List.getElem?_range hi, List.getElem?_replicate, if_pos hi]; rfl
    · rw [List.getElem?_eq_none (by simp; omega), List.getElem?_eq_none (by simp; omega)]
  have s1 : cAsg (.nm 2) (cBin VL.gMul (cLst (cCons (cSet (cC (.int 0))) cNil)) (cBin gAdd (cB (b1 lenD) (cCons (cVar 0) cNil)) (cB (b1 lenD) (cCons (cVar 1) cNil)))) (startR 5 [.node .lst false (cs.map pr), .node .lst false (js.map pr)]) = .nx (X5 cs js (dn cs js js.length) none none) := by
    have a := VL.add_ok (lens (i := 0) (r := startR 5 [.node .lst false (cs.map pr), .node .lst false (js.map pr)]) (xs := cs) rfl) (lens (i := 1) (r := startR 5 [.node .lst false (cs.map pr), .node .lst false (js.map pr)]) (xs := js) rfl)
    have m := VH.mulL_go (fa := cLst (cCons (cSet (cC (.int 0))) cNil)) (xs := [.int 0]) (o := true) rfl a inferInstance (by omega) (by omega) (by simp; omega)
    rw [show ((cs.length : Nat) : Int) + ((js.length : Nat) : Int) = ((cs.length + js.length : Nat) : Int) by omega, Int.toNat_natCast, List.flatten_replicate_singleton] at m
    have q := asg_ok (i := 2) m
    rw [show List.replicate (cs.length + js.length) (D.int 0) = (dn cs js js.length).map VH.nt by rw [e0, List.map_replicate]; rfl] at q
    rw [show cBin gAdd (cB (b1 lenD) (cCons (cVar 0) cNil)) (cB (b1 lenD) (cCons (cVar 1) cNil)) = cBin gAdd (cB (b1 lenD) (cCons (cVar 0) cNil)) (cB (b1 lenD) (cCons (cVar 1) cNil)) from rfl]
    exact q
  obtain ⟨k', u', e2⟩ := m_loop hb hJ js.length none none (Nat.le_refl _)
  have it : iRng rngI3 (cCons (cBin VL.gSub (cB (b1 lenD) (cCons (cVar 1) cNil)) (cC (.int 1))) (cCons (cNeg (cC (.int 1))) (cCons (cNeg (cC (.int 1))) cNil))) (X5 cs js (dn cs js js.length) none none) = .ok ((List.range js.length).reverse.map VH.nt) (X5 cs js (dn cs js js.length) none none) := by
    have ng : cNeg (cC (.int 1)) (X5 cs js (dn cs js js.length) none none) = .ok (.val (.int (-1))) (X5 cs js (dn cs js js.length) none none) := rfl
    have sb := VL.sub_ok (fb := cC (.int 1)) (j := 1) (lens (i := 1) (r := X5 cs js (dn cs js js.length) none none) (xs := js) rfl) rfl
    rw [VH.it_rng3 sb ng ng (by rw [small_d js.length (by omega)]; decide)]
    unfold turns
    rw [size_d js.length (by omega), Int.toNat_natCast, rng_down]
  have s2 := for_ok it e2
  have c3 : ∃ r3, cLc [3] (.nm 3) (iRng rngI1 (cCons (cB (b1 lenD) (cCons (cVar 0) cNil)) cNil)) none (cTup (cCons (cSet (cBin gIx (cBin gIx (cVar 0) (cVar 3)) (cC (.int 0)))) (cCons (cSet (cB (gMax2) (cCons (cC (.int 1)) (cCons (cBin gIx (cVar 2) (cVar 3)) cNil)))) cNil))) (X5 cs js (dn cs js 0) k' u') = .ok (.val (.node .lst true ((fds cs js cs.length).map pr))) r3 := by
    have i3 := it_len (i := 0) (r := X5 cs js (dn cs js 0) k' u') (xs := cs) (by omega) rfl
    rw [← List.range_eq_range'] at i3
    have e := VH.lc_all (t := .nm 3) (vs := [3]) (fe := cTup (cCons (cSet (cBin gIx (cBin gIx (cVar 0) (cVar 3)) (cC (.int 0)))) (cCons (cSet (cB (gMax2) (cCons (cC (.int 1)) (cCons (cBin gIx (cVar 2) (cVar 3)) cNil)))) cNil))) (g := fun i => pr (fd cs js i)) (r0 := X5 cs js (dn cs js 0) none u') (List.range cs.length) i3 rfl (by simp; omega) fun i hi => by
      have hi := List.mem_range.mp hi
      refine ⟨X5 cs js (dn cs js 0) (some (VH.nt i)) u', rfl, X5 cs js (dn cs js 0) (some (VH.nt i)) u', ?_, rfl⟩
      have g := (ix_pr2 (fb := cVar 3) (ix_pr (i := 0) (k := i) (fb := cVar 3) (js := cs) (r := X5 cs js (dn cs js 0) (some (VH.nt i)) u') rfl rfl (List.getElem?_eq_getElem hi))).1
      have g2 : cBin gIx (cVar 2) (cVar 3) (X5 cs js (dn cs js 0) (some (VH.nt i)) u') = .ok (.val (.int ((dep cs.length 0 js ((i : Nat) : Int) : Nat) : Int))) (X5 cs js (dn cs js 0) (some (VH.nt i)) u') := by
        have hl : i < (dn cs js 0).length := by unfold dn; simp; omega
        have := VH.ixA_go (fa := cVar 2) (fb := cVar 3) (x := .loc 2) (k := .lst) (o := true) (n := ((i : Nat) : Int)) (r := X5 cs js (dn cs js 0) (some (VH.nt i)) u') (r1 := X5 cs js (dn cs js 0) (some (VH.nt i)) u') (r2 := X5 cs js (dn cs js 0) (some (VH.nt i)) u') (xs := (dn cs js 0).map VH.nt) (d := VH.nt (dep cs.length 0 js ((i : Nat) : Int))) rfl rfl rfl rfl (by
          rw [VH.at_enc hl]
          unfold dn
          simp) rfl
        exact this
      have mx := VH.max_ok (fa := cC (.int 1)) (i := 1) rfl g2
      have tp := VH.tup_ok (VH.cons_ok (VH.set_val g) (VH.cons_ok (VH.set_val mx) (VH.nil_ok _))) rfl (by simp)
      rw [VH.set_val tp]
      unfold fd
      simp [hi]
      rfl
    have ef : (fds cs js cs.length).map pr = (List.range cs.length).map fun i => pr (fd cs js i) := by
      unfold fds
      rw [List.map_map]
      rfl
    rw [ef]
    exact ⟨_, e⟩
  obtain ⟨r3, c3⟩ := c3
  exact runF_ok (n := 5) ((seq_nx s1).trans ((seq_nx s2).trans (ret_ok c3))) rfl
theorem least_ok (cs : List (Int × Int)) (h : cs.length ≤ 260) : F_least_lengths [.node .lst false (cs.map pr)] = .ok (.node .lst true ((fds cs (JS cs) cs.length).map pr)) := by
  have ej := joinings_ok cs h
  have hJ := jo_jn cs.length 260 _ 0 _ _ (inv0 cs)
  have el := lengths_ok (inv0 cs).bd hJ (by rw [JS_len cs h]; omega) (by omega)
  have c1 : cCall 1 F_joinings_of (cCons (cVar 0) cNil) (startR 1 [.node .lst false (cs.map pr)]) = .ok (.val (.node .lst true ((JS cs).map pr))) (startR 1 [.node .lst false (cs.map pr)]) :=
    call1 (x := .loc 0) (z := .node .lst false (cs.map pr)) (cvar_loc rfl rfl) rfl (by rw [frz_lst (frzs_pr _)]; exact ej) (noL_prs _)
  have c2 : cCall 2 F_lengths_by (cCons (cVar 0) (cCons (cCall 1 F_joinings_of (cCons (cVar 0) cNil)) cNil)) (startR 1 [.node .lst false (cs.map pr)]) = .ok (.val (.node .lst true ((fds cs (JS cs) cs.length).map pr))) (startR 1 [.node .lst false (cs.map pr)]) :=
    VH.call_go (xs := [.loc 0, .val (.node .lst true ((JS cs).map pr))]) (VH.cons_ok (cvar_loc rfl rfl) (VH.cons_ok c1 (VH.nil_ok _))) rfl inferInstance rfl el ⟨noL_prs _⟩
  exact runF_ok (n := 1) (ret_ok c2) rfl
end K09.Hf

namespace K09.Hf
open VH K09
def dot : List Nat → List Nat → Nat
  | w :: ws, l :: ls => w * l + dot ws ls
  | _, _ => 0
def ins (x : Nat) : List Nat → List Nat
  | [] => [x]
  | y :: ys => if x ≤ y then x :: y :: ys else y :: ins x ys
abbrev Up (xs : List Nat) : Prop := xs.Pairwise (· ≤ ·)
theorem ins_perm (x : Nat) : ∀ ys : List Nat, (ins x ys).Perm (x :: ys)
  | [] => List.Perm.refl _
  | y :: ys => by
    unfold ins
    split
    · exact List.Perm.refl _
    · exact ((ins_perm x ys).cons y).trans (List.Perm.swap x y ys)
theorem ins_up (x : Nat) : ∀ {ys : List Nat}, Up ys → Up (ins x ys)
  | [], _ => List.pairwise_singleton _ _
  | y :: ys, h => by
    have h1 := List.pairwise_cons.mp h
    unfold ins
    split
    · rename_i c
      refine List.pairwise_cons.mpr ⟨fun z hz => ?_, h⟩
      rcases List.mem_cons.mp hz with e | e
      · omega
      · have := h1.1 z e; omega
    · refine List.pairwise_cons.mpr ⟨fun z hz => ?_, ins_up x h1.2⟩
      rcases List.mem_cons.mp ((ins_perm x ys).mem_iff.mp hz) with e | e
      · omega
      · exact h1.1 z e
def srt : List Nat → List Nat
  | [] => []
  | x :: xs => ins x (srt xs)
theorem srt_perm : ∀ xs : List Nat, (srt xs).Perm xs
  | [] => List.Perm.refl _
  | x :: xs => (ins_perm x _).trans ((srt_perm xs).cons x)
theorem srt_up : ∀ xs : List Nat, Up (srt xs)
  | [] => List.Pairwise.nil
  | x :: xs => ins_up x (srt_up xs)
theorem up_unique : ∀ {xs ys : List Nat}, xs.Perm ys → Up xs → Up ys → xs = ys
  | [], ys, p, _, _ => by rw [List.nil_perm.mp p]
  | x :: xs, [], p, _, _ => by have := p.length_eq; simp at this
  | x :: xs, y :: ys, p, h1, h2 => by
    have a1 := List.pairwise_cons.mp h1
    have a2 := List.pairwise_cons.mp h2
    have e : x = y := by
      rcases List.mem_cons.mp (p.mem_iff.mp List.mem_cons_self) with e | m1
      · exact e
      · rcases List.mem_cons.mp (p.mem_iff.mpr List.mem_cons_self) with e | m2
        · exact e.symm
        · have := a1.1 _ m2
          have := a2.1 _ m1
          omega
    subst e
    rw [up_unique (p.cons_inv) a1.2 a2.2]
def hc : Nat → List Nat → Nat
  | n + 1, a :: b :: ws => a + b + hc n (ins (a + b) ws)
  | _, _ => 0
theorem hc_short (n : Nat) {ws : List Nat} (h : ws.length ≤ 1) : hc n ws = 0 := by
  match n, ws with
  | 0, _ => rfl
  | _ + 1, [] => rfl
  | _ + 1, [_] => rfl
  | _ + 1, _ :: _ :: _ => simp at h
theorem sum_two (f : Int → Nat) {ks : List Int} {x y : Int} {zs : List Int} (p : ks.Perm (x :: y :: zs)) : (ks.map f).sum = f x + (f y + (zs.map f).sum) := (p.map f).sum_nat
theorem sum_last (f : Int → Nat) (zs : List Int) (v : Int) : ((zs ++ [v]).map f).sum = (zs.map f).sum + f v := by
  rw [List.map_append, List.sum_append]
  show _ + (f v + 0) = _
  rw [Nat.add_zero]
theorem sum_congr (f g : Int → Nat) {zs : List Int} (h : ∀ z ∈ zs, f z = g z) : (zs.map f).sum = (zs.map g).sum := by
  rw [List.map_congr_left h]
theorem wts_ins {l h v : Int} {rest : List (Int × Int)} (hl : 0 ≤ l) (hh : 0 ≤ h) (hu : rest.Pairwise fun p q => leP p q = true) (hr : ∀ p ∈ rest, 0 ≤ p.1) : (srtP (rest ++ [(l + h, v)])).map (fun p => p.1.toNat) = ins (l.toNat + h.toNat) (rest.map fun p => p.1.toNat) := by
  have up : ∀ {qs : List (Int × Int)}, qs.Pairwise (fun p q => leP p q = true) → Up (qs.map fun p => p.1.toNat) := fun h => List.pairwise_map.mpr (h.imp fun {p q} c => by
    have := leP_iff.mp c
    show p.1.toNat ≤ q.1.toNat
    omega)
  refine up_unique ?_ (up (srtP_up _)) (ins_up _ (up hu))
  refine ((srtP_perm _).map _).trans ?_
  rw [List.map_append]
  refine List.perm_append_comm.trans ?_
  have e : [(l + h, v)].map (fun p : Int × Int => p.1.toNat) = [l.toNat + h.toNat] := by
    show [(l + h).toNat] = _
    rw [show (l + h).toNat = l.toNat + h.toNat from by omega]
  rw [e]
  exact (ins_perm _ _).symm
theorem tell (n : Nat) : ∀ (m : Nat) (ts : List (Int × Int)) (k : Nat) (ks : List Int) (w : Int → Int), Inv n k ks w ts → ts.length ≤ m + 1 → (∀ z ∈ ks, 0 ≤ w z) → ts ≠ [] → ∀ M : Nat, ts.length ≤ M + 1 →
    (ks.map fun z => 2 ^ (M - dep n k (jo n m ts k) z)).sum = 2 ^ M ∧ (ks.map fun z => (w z).toNat * dep n k (jo n m ts k) z).sum = hc m (ts.map fun p => p.1.toNat)
  | m, [], k, ks, w, I, _, _, h0, M, _ => (h0 rfl).elim
  | m, [p], k, ks, w, I, _, _, _, M, _ => by
    have hl := I.pm.length_eq
    rw [List.length_map] at hl
    have e : jo n m [p] k = [] := by cases m <;> rfl
    rw [e]
    match ks, hl with
    | [z], _ =>
      constructor
      · show 2 ^ (M - 0) + 0 = 2 ^ M
        rw [Nat.sub_zero, Nat.add_zero]
      · rw [hc_short _ (by simp)]
        show (w z).toNat * 0 + 0 = 0
        omega
  | 0, _ :: _ :: _, _, _, _, _, hm, _, _, _, _ => by simp at hm
  | m + 1, (l, a) :: (h, b) :: rest, k, ks, w, I, hm, hw, _, M, hM => by
    obtain ⟨h1, h2, h3, h4, h5, h6, h7, I'⟩ := I.step
    have hup := (List.pairwise_cons.mp (List.pairwise_cons.mp I.up).2).2
    have hpos : ∀ p ∈ (l, a) :: (h, b) :: rest, 0 ≤ p.1 := fun p hp => by
      obtain ⟨z, hz, e⟩ := List.mem_map.mp (I.pm.mem_iff.mp hp)
      rw [← e]; exact hw z hz
    have hl0 : 0 ≤ l := hpos _ List.mem_cons_self
    have hh0 : 0 ≤ h := hpos _ (List.mem_cons_of_mem _ List.mem_cons_self)
    have hr0 : ∀ p ∈ rest, 0 ≤ p.1 := fun p hp => hpos p (List.mem_cons_of_mem _ (List.mem_cons_of_mem _ hp))
    have hlen : (srtP (rest ++ [(l + h, ((n + k : Nat) : Int))])).length = rest.length + 1 := by
      rw [(srtP_perm _).length_eq, List.length_append]; rfl
    simp only [List.length_cons] at hm hM
    have hne : srtP (rest ++ [(l + h, ((n + k : Nat) : Int))]) ≠ [] := fun q => by rw [q] at hlen; simp at hlen
    have hj : jo n (m + 1) ((l, a) :: (h, b) :: rest) k = (min a b, max a b) :: jo n m (srtP (rest ++ [(l + h, ((n + k : Nat) : Int))])) (k + 1) := rfl
    have pm := wo_perm I.nd h2 h3 (by omega)
    have hwo : ∀ z ∈ wo ks (min a b) (max a b), z ∈ ks ∧ z ≠ min a b ∧ z ≠ max a b ∧ z ≠ ((n + k : Nat) : Int) := fun z hz => by
      obtain ⟨q1, q2, q3⟩ := mem_wo.mp hz
      exact ⟨q1, q2, q3, fun e => h7 (e ▸ hz)⟩
    have hw' : ∀ z ∈ wo ks (min a b) (max a b) ++ [((n + k : Nat) : Int)], 0 ≤ upW w ((n + k : Nat) : Int) (l + h) z := fun z hz => by
      unfold upW
      rcases List.mem_append.mp hz with hz | hz
      · obtain ⟨q1, _, _, q4⟩ := hwo z hz
        rw [if_neg q4]; exact hw z q1
      · rw [List.mem_singleton.mp hz, if_pos rfl]; omega
    obtain ⟨ih1, ih2⟩ := tell n m _ (k + 1) _ _ I' (by rw [hlen]; omega) hw' hne M (by rw [hlen]; omega)
    have hjl := jo_len n m (srtP (rest ++ [(l + h, ((n + k : Nat) : Int))])) (k + 1) (by rw [hlen]; omega)
    rw [hlen] at hjl
    revert ih1 ih2 hjl
    rw [hj]
    generalize jo n m (srtP (rest ++ [(l + h, ((n + k : Nat) : Int))])) (k + 1) = js
    intro ih1 ih2 hjl
    have hd := dep_le js (k + 1) ((n + k : Nat) : Int) (n := n)
    have dx : ∀ z, z = min a b ∨ z = max a b → dep n k ((min a b, max a b) :: js) z = dep n (k + 1) js ((n + k : Nat) : Int) + 1 := fun z c => if_pos c
    have dz : ∀ z ∈ wo ks (min a b) (max a b), dep n k ((min a b, max a b) :: js) z = dep n (k + 1) js z := fun z hz => by
      obtain ⟨_, q2, q3, _⟩ := hwo z hz
      exact if_neg (fun c => c.elim q2 q3)
    rw [sum_last] at ih1 ih2
    constructor
    · rw [sum_two _ pm, dx _ (.inl rfl), dx _ (.inr rfl), sum_congr _ (fun z => 2 ^ (M - dep n (k + 1) js z)) fun z hz => by rw [dz z hz]]
      rw [← ih1]
      have e : 2 ^ (M - dep n (k + 1) js ((n + k : Nat) : Int)) = 2 * 2 ^ (M - (dep n (k + 1) js ((n + k : Nat) : Int) + 1)) := by
        rw [← Nat.pow_succ']
        congr 1; omega
      rw [e]
      omega
    · have eh : hc (m + 1) (((l, a) :: (h, b) :: rest).map fun p => p.1.toNat) = l.toNat + h.toNat + hc m ((srtP (rest ++ [(l + h, ((n + k : Nat) : Int))])).map fun p => p.1.toNat) := by
        rw [wts_ins hl0 hh0 hup hr0]; rfl
      rw [eh, ← ih2, sum_two _ pm, dx _ (.inl rfl), dx _ (.inr rfl), sum_congr _ (fun z => (upW w ((n + k : Nat) : Int) (l + h) z).toNat * dep n (k + 1) js z) fun z hz => by
        rw [dz z hz]
        obtain ⟨_, _, _, q4⟩ := hwo z hz
        unfold upW
        rw [if_neg q4]]
      have ev : upW w ((n + k : Nat) : Int) (l + h) ((n + k : Nat) : Int) = l + h := if_pos rfl
      rw [ev]
      have hx := hw _ h2
      have hy := hw _ h3
      have e1 : (w (min a b)).toNat + (w (max a b)).toNat = l.toNat + h.toNat := by omega
      have e2 : (l + h).toNat = (w (min a b)).toNat + (w (max a b)).toNat := by omega
      rw [e2, ← e1, Nat.mul_add, Nat.mul_add, Nat.add_mul]
      omega
end K09.Hf

namespace K09.Hf
open VH K09
def LL (cs : List (Int × Int)) : List Co.Lp := (List.range cs.length).map fun i : Nat => ((cs.getD i (0, 0)).1, max 1 (dep cs.length 0 (JS cs) ((i : Nat) : Int)))
theorem LL_len (cs : List (Int × Int)) : (LL cs).length = cs.length := by unfold LL; rw [List.length_map, List.length_range]
theorem LL_pl (cs : List (Int × Int)) : (fds cs (JS cs) cs.length).map pr = (LL cs).map Co.pl := by
  unfold fds LL
  rw [List.map_map, List.map_map]
  refine List.map_congr_left fun i _ => ?_
  show D.node .tup false [.int (cs.getD i (0, 0)).1, .int (max 1 ((dep cs.length 0 (JS cs) ((i : Nat) : Int) : Nat) : Int))] = D.node .tup false [.int (cs.getD i (0, 0)).1, .int ((max 1 (dep cs.length 0 (JS cs) ((i : Nat) : Int)) : Nat) : Int)]
  rw [show ((max 1 (dep cs.length 0 (JS cs) ((i : Nat) : Int)) : Nat) : Int) = max 1 ((dep cs.length 0 (JS cs) ((i : Nat) : Int) : Nat) : Int) from by omega]
theorem LL_fst (cs : List (Int × Int)) : (LL cs).map (·.1) = cs.map (·.1) := by
  unfold LL
  rw [List.map_map]
  refine List.ext_getElem (by rw [List.length_map, List.length_range, List.length_map]) fun j h1 h2 => ?_
  rw [List.getElem_map, List.getElem_range, List.getElem_map]
  show (cs.getD j (0, 0)).1 = _
  rw [List.length_map] at h2
  rw [List.getD_eq_getElem?_getD, List.getElem?_eq_getElem h2]
  rfl
theorem lt_sum (f : Int → Nat) (hf : ∀ z, 0 < f z) : ∀ {zs : List Int} {z0 : Int}, z0 ∈ zs → 2 ≤ zs.length → f z0 < (zs.map f).sum
  | [_], _, _, h => by simp at h
  | [x, y], z0, hz, _ => by
    show f z0 < f x + (f y + 0)
    have := hf x
    have := hf y
    rcases List.mem_cons.mp hz with e | hz
    · rw [e]; omega
    · rw [List.mem_singleton.mp hz]; omega
  | x :: y :: w :: zs, z0, hz, _ => by
    show f z0 < f x + ((y :: w :: zs).map f).sum
    have h0 := hf x
    rcases List.mem_cons.mp hz with e | hz
    · have := lt_sum f hf (z0 := y) (zs := y :: w :: zs) List.mem_cons_self (by simp)
      have := hf y
      rw [e]; omega
    · have := lt_sum f hf hz (by simp)
      omega
structure Told (cs : List (Int × Int)) : Prop where
  kr : 1 ≤ cs.length → ((rg cs.length).map fun z => 2 ^ (256 - dep cs.length 0 (JS cs) z)).sum = 2 ^ 256
  co : 1 ≤ cs.length → ((rg cs.length).map fun z => (wc cs z).toNat * dep cs.length 0 (JS cs) z).sum = hc 260 (srt (cs.map fun p => p.2.toNat))
  one : 2 ≤ cs.length → ∀ z ∈ rg cs.length, 1 ≤ dep cs.length 0 (JS cs) z
theorem srt_wts (cs : List (Int × Int)) : (srtP (tgs 0 cs)).map (fun p => p.1.toNat) = srt (cs.map fun p => p.2.toNat) := by
  refine up_unique ?_ ?_ (srt_up _)
  · refine ((srtP_perm _).map _).trans ?_
    refine List.Perm.trans (List.Perm.of_eq ?_) (srt_perm _).symm
    have : ∀ (k : Nat) (cs : List (Int × Int)), (tgs k cs).map (fun p => p.1.toNat) = cs.map fun p => p.2.toNat := by
      intro k cs
      induction cs generalizing k with
      | nil => rfl
      | cons p cs ih =>
        show p.2.toNat :: (tgs (k + 1) cs).map _ = _
        rw [ih]; rfl
    exact this 0 cs
  · exact List.pairwise_map.mpr ((srtP_up _).imp fun {p q} c => by
      have := leP_iff.mp c
      show p.1.toNat ≤ q.1.toNat
      omega)
theorem told (cs : List (Int × Int)) (hn : cs.length ≤ 256) (hp : ∀ p ∈ cs, 0 ≤ p.2) : Told cs := by
  have hlen : (srtP (tgs 0 cs)).length = cs.length := by rw [srtP_len, tgs_len]
  have hw : ∀ z ∈ rg cs.length, 0 ≤ wc cs z := fun z hz => by
    obtain ⟨h1, h2⟩ := rg_mem.mp hz
    unfold wc
    rw [List.getD_eq_getElem?_getD, List.getElem?_eq_getElem (by omega)]
    exact hp _ (List.getElem_mem _)
  have t : 1 ≤ cs.length → _ := fun h => tell cs.length 260 (srtP (tgs 0 cs)) 0 (rg cs.length) (wc cs) (inv0 cs) (by omega) hw (fun q => by rw [q] at hlen; simp at hlen; omega) 256 (by omega)
  refine ⟨fun h => (t h).1, fun h => by rw [← srt_wts]; exact (t h).2, fun h z hz => ?_⟩
  have k := (t (by omega)).1
  rcases Nat.eq_zero_or_pos (dep cs.length 0 (JS cs) z) with e | e
  · exfalso
    have h2 := lt_sum (fun z => 2 ^ (256 - dep cs.length 0 (jo cs.length 260 (srtP (tgs 0 cs)) 0) z)) (fun z => Nat.pow_pos (by decide)) hz (by unfold rg; rw [List.length_map, List.length_range]; exact h)
    rw [k] at h2
    have h2 : 2 ^ (256 - dep cs.length 0 (JS cs) z) < 2 ^ 256 := h2
    rw [e] at h2
    exact Nat.lt_irrefl _ h2
  · exact e
theorem rg_sum (n : Nat) (f : Int → Nat) : ((rg n).map f).sum = ((List.range n).map fun i : Nat => f ((i : Nat) : Int)).sum := by
  unfold rg
  rw [List.map_map]; rfl
theorem LL_good (cs : List (Int × Int)) (hn : cs.length ≤ 256) (hp : ∀ p ∈ cs, 0 ≤ p.2) (nd : (cs.map (·.1)).Nodup) : Co.Good (LL cs) := by
  have T := told cs hn hp
  have jl : (JS cs).length = cs.length - 1 := JS_len cs (by omega)
  have hle : ∀ p ∈ LL cs, p.2 ≤ 256 := fun p h => by
    obtain ⟨i, _, rfl⟩ := List.mem_map.mp h
    have := dep_le (JS cs) 0 ((i : Nat) : Int) (n := cs.length)
    show max 1 (dep cs.length 0 (JS cs) ((i : Nat) : Int)) ≤ 256
    omega
  refine ⟨hle, fun p h => ?_, ?_, by rw [LL_fst]; exact nd, by rw [LL_len]; omega⟩
  · obtain ⟨i, _, rfl⟩ := List.mem_map.mp h
    show 1 ≤ max 1 _
    omega
  · unfold Co.kr LL
    rw [List.map_map]
    rcases Nat.lt_or_ge cs.length 2 with h | h
    · have e : cs.length = 0 ∨ cs.length = 1 := by omega
      rcases e with e | e
      · rw [e]; exact Nat.zero_le _
      · rw [e]
        show 2 ^ (256 - max 1 _) + 0 ≤ 2 ^ 256
        rw [Nat.add_zero]
        exact Nat.pow_le_pow_right (by decide) (by omega)
    · have k := T.kr (by omega)
      rw [rg_sum] at k
      rw [← k]
      refine Nat.le_of_eq ?_
      congr 1
      refine List.map_congr_left fun i hi => ?_
      have h1 := T.one h ((i : Nat) : Int) (rg_mem.mpr ⟨by omega, by have := List.mem_range.mp hi; omega⟩)
      show 2 ^ (256 - max 1 (dep cs.length 0 (JS cs) ((i : Nat) : Int))) = _
      rw [show max 1 (dep cs.length 0 (JS cs) ((i : Nat) : Int)) = dep cs.length 0 (JS cs) ((i : Nat) : Int) from by omega]
end K09.Hf

namespace K09.Ct
open K09
theorem draw_ok (a b c m : Int) (hm : 0 < m) (hm2 : m < 1000) : ∃ v a' c', F__law_draw (dk a b c) [.int m] = .ok (.int v) (dk a' b c') ∧ 0 ≤ v ∧ v < m := by
  have p : ∀ i, posOk i m = true := fun i => posOk_of hm
  have hd : ∀ i, divOk i m = true := fun i => divOk_of' hm (by omega)
  by_cases h : b = 0
  · refine ⟨a % m, a / m, c, ?_, Int.emod_nonneg _ (by omega), Int.emod_lt_of_pos _ hm⟩
    unfold F__law_draw runQ f__law_draw
    simp [dk, startR, putQ, h, atI, ixN, p, hd]
  · refine ⟨((((a % 1000000007 * 7919 + (c + 1) * 104729) % 1000000009) * ((a % 1000000007 * 7919 + (c + 1) * 104729) % 1000000009) % 998244353 * 31337 + (c + 1)) % 754974721 / 3) % m, a, c + 1, ?_, Int.emod_nonneg _ (by omega), Int.emod_lt_of_pos _ hm⟩
    unfold F__law_draw runQ f__law_draw
    have q1 : ∀ i, posOk i 1000000007 = true := fun i => rfl
    have q2 : ∀ i, posOk i 1000000009 = true := fun i => rfl
    have q3 : ∀ i, posOk i 998244353 = true := fun i => rfl
    have q4 : ∀ i, posOk i 754974721 = true := fun i => rfl
    have q5 : ∀ i, divOk i 3 = true := fun i => rfl
    have m1 : ∀ i, mulOk i 7919 = true := fun i => mulOk_r (by decide)
    have m2 : ∀ i, mulOk i 104729 = true := fun i => mulOk_r (by decide)
    have m3 : ∀ i, mulOk i 31337 = true := fun i => mulOk_r (by decide)
    have m4 : ∀ i : Int, mulOk (i % 1000000009) (i % 1000000009) = true := fun i => mulOk_r (by omega)
    simp [dk, startR, putQ, h, atI, ixN, p, hd, q1, q2, q3, q4, q5, m1, m2, m3, m4]
theorem ints_frz (ns : List Int) (o : Bool) : frz (.node .lst o (ns.map .int)) = .node .lst false (ns.map .int) := by
  show D.node .lst false (frzs (ns.map D.int)) = _
  rw [frzs_ints]
theorem seq_nx {f g : Sv} {r r1 : Rho} (h : f r = .nx r1) : cSeq f g r = g r1 := by
  rw [q_seq, h]; rfl
theorem cutD_63 (xs : List D) (h : xs.length ≤ 63) : VL.cutD xs none (some 63) = xs := by
  unfold VL.cutD
  have e : HT.sIx xs.length xs.length (some ((63 : Nat) : Int)) = xs.length := by rw [HT.sIx_nat, Nat.min_eq_right h]
  show (xs.drop (HT.sIx xs.length 0 none)).take (HT.sIx xs.length xs.length (some ((63 : Nat) : Int)) - HT.sIx xs.length 0 none) = xs
  rw [e, HT.sIx_none, List.drop_zero, Nat.sub_zero, List.take_length]
theorem len_script (ns : List Int) (r : Rho) (h : r[0]? = some (some (script ns))) : cB (b1 lenD) (cCons (cVar 0) cNil) r = .ok (.val (.int ns.length)) r := by
  have a : atom (script ns) = false := rfl
  have l : lenD (script ns) = some (.int ns.length) := by
    show some (D.int ((ns.map D.int).length : Nat)) = _
    rw [List.length_map]
  simp [h, a, l]
theorem rng_range' (n : Nat) : rngD 0 1 n = (List.range' 0 n).map fun i => D.int (0 + (i : Nat) * 1) := by
  unfold rngD; rw [List.range_eq_range']
theorem decks_loop (S Cc : D) (o : Bool) (cs : List Int) (hc : Cc = .node .lst o (cs.map .int)) (len : Int) (hS : ∀ r : Rho, r[0]? = some (some S) → cB (b1 lenD) (cCons (cVar 0) cNil) r = .ok (.val (.int len)) r) :
    ∀ (k n : Nat) (acc : List D) , n + k = cs.length → acc.length = n → (∀ d ∈ acc, ∃ a b c, d = dk a b c) → cs.length < 1000 →
    ∃ acc', lcL (.nm 2) none (cLst (cCons (cSet (cBin gIx (cVar 1) (cVar 2))) (cCons (cSet (cBin gMod (cB (b1 lenD) (cCons (cVar 0) cNil)) (cC (.int 2)))) (cCons (cSet (cBin gMul (cC (.int 7)) (cVar 2))) cNil)))) [2] ((List.range' n k).map fun i => .int (0 + (i : Nat) * 1)) acc [some S, some Cc, none] = .ok acc' [some S, some Cc, none] ∧ acc'.length = cs.length ∧ ∀ d ∈ acc', ∃ a b c, d = dk a b c
  | 0, n, acc, h, ha, hd, hl => ⟨acc, rfl, by omega, hd⟩
  | k + 1, n, acc, h, ha, hd, hl => by
    have hn : n < cs.length := by omega
    obtain ⟨acc', e, h1, h2⟩ := decks_loop S Cc o cs hc len hS k (n + 1) (acc ++ [dk cs[n] (len % 2) (7 * (n : Int))]) (by omega) (by simp [ha]) (fun d hd' => by
      rcases List.mem_append.mp hd' with z | z
      · exact hd d z
      · rw [List.mem_singleton.mp z]; exact ⟨_, _, _, rfl⟩) hl
    refine ⟨acc', ?_, h1, h2⟩
    rw [List.range'_succ, List.map_cons]
    unfold lcL
    have ix : atI (cs.map D.int) (0 + (n : Int) * 1) = some (.int cs[n]) := by
      unfold atI ixN
      have z1 : (0 : Int) ≤ 0 + (n : Int) * 1 := by omega
      have z2 : 0 + (n : Int) * 1 < ((cs.map D.int).length : Nat) := by rw [List.length_map]; omega
      have z3 : (0 + (n : Int) * 1).toNat = n := by omega
      rw [if_pos z1, if_pos z2, z3]
      show (cs.map D.int)[n]? = _
      rw [List.getElem?_map, List.getElem?_eq_getElem hn]; rfl
    have q1 : posOk len 2 = true := rfl
    have q2 : ∀ i : Int, mulOk 7 i = true := fun i => mulOk_l (by decide)
    have e0 : (0 : Int) + (n : Int) * 1 = n := by omega
    rw [e0] at ix ⊢
    have hs := fun r h => hS r h
    simp only [q_B, q_cons, q_var, q_nil] at hs
    subst hc
    have acl : acc.length < 16777216 := by omega
    have cell : cLst (cCons (cSet (cBin gIx (cVar 1) (cVar 2))) (cCons (cSet (cBin gMod (cB (b1 lenD) (cCons (cVar 0) cNil)) (cC (.int 2)))) (cCons (cSet (cBin gMul (cC (.int 7)) (cVar 2))) cNil))) [some S, some (.node .lst o (cs.map .int)), some (.int n)] = .ok (.val (dk cs[n] (len % 2) (7 * (n : Int)))) [some S, some (.node .lst o (cs.map .int)), some (.int n)] := by
      have c1 : cBin gMod (cB (b1 lenD) (cCons (cVar 0) cNil)) (cC (.int 2)) [some S, some (.node .lst o (cs.map .int)), some (.int n)] = .ok (.val (.int (len % 2))) [some S, some (.node .lst o (cs.map .int)), some (.int n)] := by
        rw [q_bin, hS _ rfl]; rfl
      have c2 : cBin gIx (cVar 1) (cVar 2) [some S, some (.node .lst o (cs.map .int)), some (.int n)] = .ok (.val (.int cs[n])) [some S, some (.node .lst o (cs.map .int)), some (.int n)] := by
        simp [ix]
      have c3 : cBin gMul (cC (.int 7)) (cVar 2) [some S, some (.node .lst o (cs.map .int)), some (.int n)] = .ok (.val (.int (7 * (n : Int)))) [some S, some (.node .lst o (cs.map .int)), some (.int n)] := by
        simp [q2]
      simp only [q_lst, q_cons, q_set, c1, c2, c3, bd_ok, q_nil, q_abd1, q_valsR1, q_valsR0]
      rfl
    simp only [q_tgt, List.set_cons_succ, List.set_cons_zero, tstR, q_set, cell, bd_ok]
    rw [if_pos acl]
    exact e
theorem decks_ok (ns : List Int) (hl : ns.length ≤ 63) : ∃ ds, F__law_decks [script ns] = .ok (.node .lst true ds) ∧ ds.length ≤ 63 ∧ ∀ d ∈ ds, ∃ a b c, d = dk a b c := by
  have a : atom (script ns) = false := rfl
  have s1 : cAsg (.nm 1) (cSl (cVar 0) none (some (cC (.int 63)))) [some (script ns), none, none] = .nx [some (script ns), some (.node .lst true (ns.map .int)), none] := by
    have c := cutD_63 (ns.map .int) (by rw [List.length_map]; exact hl)
    simp [script, frzs_int, c]
  have s2 : ∃ cs : List Int, cs.length ≤ 63 ∧ cIfS (cBin gEq (cVar 1) (cLst cNil)) (cAsg (.nm 1) (cLst (cCons (cSet (cC (.int 0))) cNil))) cSkip [some (script ns), some (.node .lst true (ns.map .int)), none] = .nx [some (script ns), some (.node .lst true (cs.map .int)), none] := by
    have ee : eqD (.node .lst true (ns.map .int)) (.node .lst true []) = some (.bl (decide (ns = []))) := eq_lints ns []
    by_cases h : ns = []
    · refine ⟨[0], by decide, ?_⟩
      subst h
      have ee0 : eqD (.node .lst true []) (.node .lst true []) = some (.bl true) := eq_lints [] []
      simp [ee0]
    · refine ⟨ns, hl, ?_⟩
      simp [ee, h]
  obtain ⟨cs, hc, s2⟩ := s2
  obtain ⟨acc, e, h1, h2⟩ := decks_loop (script ns) (.node .lst true (cs.map .int)) true cs rfl ns.length (len_script ns) cs.length 0 [] (by omega) rfl (fun d hd => by cases hd) (by omega)
  rw [← rng_range'] at e
  have s3 : cRet (cLc [2] (.nm 2) (iRng rngI1 (cCons (cB (b1 lenD) (cCons (cVar 1) cNil)) cNil)) none (cLst (cCons (cSet (cBin gIx (cVar 1) (cVar 2))) (cCons (cSet (cBin gMod (cB (b1 lenD) (cCons (cVar 0) cNil)) (cC (.int 2)))) (cCons (cSet (cBin gMul (cC (.int 7)) (cVar 2))) cNil))))) [some (script ns), some (.node .lst true (cs.map .int)), none] = .rt (.val (.node .lst true acc)) [some (script ns), some (.node .lst true (cs.map .int)), none] := by
    have w : within (cs.length : Int) = true := by unfold within; simp; omega
    have i1 : iRng rngI1 (cCons (cB (b1 lenD) (cCons (cVar 1) cNil)) cNil) [some (script ns), some (.node .lst true (cs.map .int)), none] = .ok (rngD 0 1 cs.length) [some (script ns), some (.node .lst true (cs.map .int)), none] := by
      simp [w]
    rw [q_ret, q_lc, i1]
    show EO.st (match lcL _ _ _ _ _ _ (wipeR [some (script ns), some (.node .lst true (cs.map .int)), none] [2]) with | .ok acc r2 => _ | .bad => _) _ = _
    have wp : wipeR [some (script ns), some (D.node .lst true (cs.map .int)), none] [2] = [some (script ns), some (.node .lst true (cs.map .int)), none] := rfl
    rw [wp, e]
    rfl
  refine ⟨acc, ?_, by omega, h2⟩
  have fin : f__law_decks (startR 3 [script ns]) = .rt (.val (.node .lst true acc)) [some (script ns), some (.node .lst true (cs.map .int)), none] := by
    unfold f__law_decks
    exact (seq_nx s1).trans ((seq_nx s2).trans s3)
  unfold F__law_decks runF
  rw [fin]
  rfl
theorem drawM {r : Rho} {a b c m : Int} {fb : Ev} (h : r[2]? = some (some (dk a b c))) (hb : fb r = .ok (.val (.int m)) r) (hm : 0 < m) (hm2 : m < 1000) : ∃ v a' c', cCallQ 0 1 F__law_draw (cCons (cVar 2) (cCons (cSet fb) cNil)) r = .ok (.val (.int v)) (r.set 2 (some (dk a' b c'))) ∧ 0 ≤ v ∧ v < m := by
  obtain ⟨v, a', c', e, h1, h2⟩ := draw_ok a b c m hm hm2
  have fz : frzs [D.int m] = [D.int m] := rfl
  have at0 : atom (dk a b c) = false := rfl
  have hs : cSet fb r = .ok (.val (.int m)) r := by simp [hb]
  exact ⟨v, a', c', callQ_loc (VH.cons_ok (VL.cvar_loc h rfl) (VH.cons_ok hs (VH.nil_ok _))) rfl rfl rfl rfl h e, h1, h2⟩
abbrev R6 (S : D) (ts : List Int) (d w l k : Option D) : Rho := [some S, some (.node .lst true (ts.map .int)), d, w, l, k]
abbrev ct (t : Int) : Prop := 0 ≤ t ∧ t < 256
theorem lc_loop (S : D) (ts : List Int) (w l : Int) (hw : 0 < w) (hw2 : w < 1000) (hl : 0 ≤ l) (hs : l + w ≤ 256) (a b c : Int) (ds : List D) (hd : ds.length < 1000) :
    ∃ (bs : List Int) (a' c' : Int), lcL (.nm 5) none (cBin gAdd (cVar 4) (cCallQ 0 1 F__law_draw (cCons (cVar 2) (cCons (cSet (cVar 3)) cNil)))) [5] ds [] (R6 S ts (some (dk a b c)) (some (.int w)) (some (.int l)) none) = .ok (bs.map .int) (R6 S ts (some (dk a' b c')) (some (.int w)) (some (.int l)) none) ∧ bs.length = ds.length ∧ ∀ t ∈ bs, ct t := by
  obtain ⟨⟨a', c'⟩, acc, h1, ⟨bs, h2, h3⟩, h4⟩ := lcL_all (α := Int × Int) (fe := cBin gAdd (cVar 4) (cCallQ 0 1 F__law_draw (cCons (cVar 2) (cCons (cSet (cVar 3)) cNil)))) (t := .nm 5) (vs := [5])
    (fun q => R6 S ts (some (dk q.1 b q.2)) (some (.int w)) (some (.int l)) none) (fun _ acc => ∃ bs : List Int, acc = bs.map .int ∧ ∀ t ∈ bs, ct t) ds (a, c) [] (by simp; omega) ⟨[], rfl, fun t h => by cases h⟩ fun q acc d _ ⟨bs, e, h⟩ => by
      obtain ⟨v, a1, c1, e1, h1, h2⟩ := drawM (r := (R6 S ts (some (dk q.1 b q.2)) (some (.int w)) (some (.int l)) (some d))) (fb := cVar 3) (m := w) rfl rfl hw hw2
      refine ⟨_, R6 S ts (some (dk a1 b c1)) (some (.int w)) (some (.int l)) (some d), .int (l + v), (a1, c1), rfl, ?_, rfl, bs ++ [l + v], by rw [e, List.map_append]; rfl, fun t ht => ?_⟩
      · rw [q_set, bin_ok (fa := cVar 4) (g := gAdd) (x := .val (.int l)) (r1 := R6 S ts (some (dk q.1 b q.2)) (some (.int w)) (some (.int l)) (some d)) rfl e1 q_addI]
        rfl
      · rcases List.mem_append.mp ht with z | z
        · exact h t z
        · rw [List.mem_singleton.mp z]; exact ⟨by omega, by omega⟩
  exact ⟨bs, a', c', by rw [h1, h2], by have := congrArg List.length h2; rw [List.length_map] at this; rw [List.length_nil] at h4; omega, h3⟩
noncomputable abbrev bodyD : Sv := (cSeq (cAsg (.nm 3) (cBin gIx (cLst (cCons (cSet (cC (.int 2))) (cCons (cSet (cC (.int 5))) (cCons (cSet (cC (.int 16))) (cCons (cSet (cC (.int 256))) cNil))))) (cCallQ 0 1 F__law_draw (cCons (cVar 2) (cCons (cSet (cC (.int 4))) cNil)))))
  (cSeq (cAsg (.nm 4) (cCallQ 0 1 F__law_draw (cCons (cVar 2) (cCons (cSet (cBin VL.gSub (cC (.int 257)) (cVar 3))) cNil))))
  (cAsg (.nm 1) (cBin gAdd (cVar 1) (cLc [5] (.nm 5) (iRng rngI1 (cCons (cCallQ 0 1 F__law_draw (cCons (cVar 2) (cCons (cSet (cC (.int 7))) cNil))) cNil)) none (cBin gAdd (cVar 4) (cCallQ 0 1 F__law_draw (cCons (cVar 2) (cCons (cSet (cVar 3)) cNil)))))))))
theorem body_ok (S : D) (ts : List Int) (a b c : Int) (w0 l0 : Option D) (hts : ∀ t ∈ ts, ct t) (hl : ts.length < 10000) : ∃ ts' d' w' l', bodyD (R6 S ts (some (dk a b c)) w0 l0 none) = .nx (R6 S ts' d' w' l' none) ∧ ts'.length ≤ ts.length + 6 ∧ ∀ t ∈ ts', ct t := by
  obtain ⟨v, a1, c1, e1, v1, v2⟩ := drawM (r := R6 S ts (some (dk a b c)) w0 l0 none) (fb := cC (.int 4)) (m := 4) rfl rfl (by decide) (by decide)
  have s1 : ∃ w : Int, 0 < w ∧ w ≤ 256 ∧ cAsg (.nm 3) (cBin gIx (cLst (cCons (cSet (cC (.int 2))) (cCons (cSet (cC (.int 5))) (cCons (cSet (cC (.int 16))) (cCons (cSet (cC (.int 256))) cNil))))) (cCallQ 0 1 F__law_draw (cCons (cVar 2) (cCons (cSet (cC (.int 4))) cNil)))) (R6 S ts (some (dk a b c)) w0 l0 none) = .nx (R6 S ts (some (dk a1 b c1)) (some (.int w)) l0 none) := by
    have hv : v = 0 ∨ v = 1 ∨ v = 2 ∨ v = 3 := by omega
    have go : ∀ w : Int, gIx (.val (.node .lst true [.int 2, .int 5, .int 16, .int 256])) (.val (.int v)) (R6 S ts (some (dk a1 b c1)) w0 l0 none) = .ok (.val (.int w)) (R6 S ts (some (dk a1 b c1)) w0 l0 none) → cAsg (.nm 3) (cBin gIx (cLst (cCons (cSet (cC (.int 2))) (cCons (cSet (cC (.int 5))) (cCons (cSet (cC (.int 16))) (cCons (cSet (cC (.int 256))) cNil))))) (cCallQ 0 1 F__law_draw (cCons (cVar 2) (cCons (cSet (cC (.int 4))) cNil)))) (R6 S ts (some (dk a b c)) w0 l0 none) = .nx (R6 S ts (some (dk a1 b c1)) (some (.int w)) l0 none) := fun w hw => by
      have e := bin_ok (fa := cLst (cCons (cSet (cC (.int 2))) (cCons (cSet (cC (.int 5))) (cCons (cSet (cC (.int 16))) (cCons (cSet (cC (.int 256))) cNil))))) (g := gIx) (r := R6 S ts (some (dk a b c)) w0 l0 none) (x := .val (.node .lst true [.int 2, .int 5, .int 16, .int 256])) (r1 := R6 S ts (some (dk a b c)) w0 l0 none) rfl e1 hw
      rw [q_asg, q_set, e]
      rfl
    rcases hv with h | h | h | h <;> subst h
    · exact ⟨2, by decide, by decide, go 2 rfl⟩
    · exact ⟨5, by decide, by decide, go 5 rfl⟩
    · exact ⟨16, by decide, by decide, go 16 rfl⟩
    · exact ⟨256, by decide, by decide, go 256 rfl⟩
  obtain ⟨w, w1, w2, s1⟩ := s1
  obtain ⟨l, a2, c2, e2, l1, l2⟩ := drawM (r := R6 S ts (some (dk a1 b c1)) (some (.int w)) l0 none) (fb := cBin VL.gSub (cC (.int 257)) (cVar 3)) (m := 257 - w) rfl rfl (by omega) (by omega)
  have s2 : cAsg (.nm 4) (cCallQ 0 1 F__law_draw (cCons (cVar 2) (cCons (cSet (cBin VL.gSub (cC (.int 257)) (cVar 3))) cNil))) (R6 S ts (some (dk a1 b c1)) (some (.int w)) l0 none) = .nx (R6 S ts (some (dk a2 b c2)) (some (.int w)) (some (.int l)) none) := by
    rw [q_asg, q_set, e2]
    rfl
  obtain ⟨n, a3, c3, e3, n1, n2⟩ := drawM (r := R6 S ts (some (dk a2 b c2)) (some (.int w)) (some (.int l)) none) (fb := cC (.int 7)) (m := 7) rfl rfl (by decide) (by decide)
  obtain ⟨bs, a4, c4, e4, b1, b2⟩ := lc_loop S ts w l w1 (by omega) l1 (by omega) a3 b c3 (rngD 0 1 n.toNat) (by simp [rngD]; omega)
  have hb : bs.length ≤ 6 := by rw [b1]; simp [rngD]; omega
  have wi : within n = true := by unfold within; simp; omega
  have i1 : iRng rngI1 (cCons (cCallQ 0 1 F__law_draw (cCons (cVar 2) (cCons (cSet (cC (.int 7))) cNil))) cNil) (R6 S ts (some (dk a2 b c2)) (some (.int w)) (some (.int l)) none) = .ok (rngD 0 1 n.toNat) (R6 S ts (some (dk a3 b c3)) (some (.int w)) (some (.int l)) none) := by
    rw [q_iRng, q_cons, e3]
    simp [wi]
  have s3 : cAsg (.nm 1) (cBin gAdd (cVar 1) (cLc [5] (.nm 5) (iRng rngI1 (cCons (cCallQ 0 1 F__law_draw (cCons (cVar 2) (cCons (cSet (cC (.int 7))) cNil))) cNil)) none (cBin gAdd (cVar 4) (cCallQ 0 1 F__law_draw (cCons (cVar 2) (cCons (cSet (cVar 3)) cNil)))))) (R6 S ts (some (dk a2 b c2)) (some (.int w)) (some (.int l)) none) = .nx (R6 S (ts ++ bs) (some (dk a4 b c4)) (some (.int w)) (some (.int l)) none) := by
    have c1 : cLc [5] (.nm 5) (iRng rngI1 (cCons (cCallQ 0 1 F__law_draw (cCons (cVar 2) (cCons (cSet (cC (.int 7))) cNil))) cNil)) none (cBin gAdd (cVar 4) (cCallQ 0 1 F__law_draw (cCons (cVar 2) (cCons (cSet (cVar 3)) cNil)))) (R6 S ts (some (dk a2 b c2)) (some (.int w)) (some (.int l)) none) = .ok (.val (.node .lst true (bs.map .int))) (R6 S ts (some (dk a4 b c4)) (some (.int w)) (some (.int l)) none) := by
      rw [q_lc, i1]
      show (match lcL (.nm 5) none _ [5] _ [] (R6 S ts (some (dk a3 b c3)) (some (.int w)) (some (.int l)) none) with | .ok acc r2 => _ | .bad => _) = _
      rw [e4]
      rfl
    have hA := q_addLI (r := R6 S ts (some (dk a4 b c4)) (some (.int w)) (some (.int l)) none) (o := true) (o' := true) ts bs (by omega)
    have e := bin_ok (g := gAdd) (fa := cVar 1) (x := .loc 1) (r := R6 S ts (some (dk a2 b c2)) (some (.int w)) (some (.int l)) none) rfl c1 (o := .ok (.val (.node .lst true ((ts ++ bs).map .int))) (R6 S ts (some (dk a4 b c4)) (some (.int w)) (some (.int l)) none)) (by
      rw [q_add]
      have : touch (touch (R6 S ts (some (dk a4 b c4)) (some (.int w)) (some (.int l)) none) (.val (.node .lst true (bs.map .int)))) (.loc 1) = R6 S ts (some (dk a4 b c4)) (some (.int w)) (some (.int l)) none := by
        show (some S :: some (D.node .lst true (frzs (ts.map .int))) :: [some (dk a4 b c4), some (.int w), some (.int l), none] : Rho) = _
        rw [frzs_ints]
      show (if (ts.map D.int).length + (bs.map D.int).length ≤ 16777216 then EO.ok (.val (.node .lst true (frzs (ts.map .int) ++ frzs (bs.map .int)))) (touch (touch _ _) _) else .bad) = _
      rw [if_pos (by rw [List.length_map, List.length_map]; omega), this, frzs_ints, frzs_ints, List.map_append])
    rw [q_asg, q_set, e]
    rfl
  refine ⟨ts ++ bs, some (dk a4 b c4), some (.int w), some (.int l), (seq_nx s1).trans ((seq_nx s2).trans s3), by rw [List.length_append]; omega, fun t ht => ?_⟩
  rcases List.mem_append.mp ht with z | z
  · exact hts t z
  · exact b2 t z
theorem text_loop (S : D) : ∀ (ds : List D) (ts : List Int) (d w l : Option D), (∀ d ∈ ds, ∃ a b c, d = dk a b c) → (∀ t ∈ ts, ct t) → ts.length + 6 * ds.length < 10000 → ∃ ts' d' w' l', forL (.nm 2) bodyD ds (R6 S ts d w l none) = .nx (R6 S ts' d' w' l' none) ∧ ts'.length ≤ ts.length + 6 * ds.length ∧ ∀ t ∈ ts', ct t
  | [], ts, d, w, l, _, h, hl => ⟨ts, d, w, l, rfl, by omega, h⟩
  | e :: ds, ts, d, w, l, hd, h, hl => by
    rw [List.length_cons] at hl
    obtain ⟨a, b, c, he⟩ := hd e List.mem_cons_self
    subst he
    obtain ⟨ts1, d1, w1, l1, e1, h1, h2⟩ := body_ok S ts a b c w l h (by omega)
    obtain ⟨ts2, d2, w2, l2, e2, h3, h4⟩ := text_loop S ds ts1 d1 w1 l1 (fun x hx => hd x (List.mem_cons_of_mem _ hx)) h2 (by omega)
    exact ⟨ts2, d2, w2, l2, (forL_cons (r1 := R6 S ts (some (dk a b c)) w l none) rfl e1).trans e2, by rw [List.length_cons]; omega, h4⟩
theorem frz_script (ns : List Int) : frz (script ns) = script ns := by
  show D.node .rd false (frzs (ns.map D.int)) = _
  rw [frzs_ints]; rfl
theorem text_ok (ns : List Int) (hl : ns.length ≤ 63) : ∃ ts : List Int, F__law_text [script ns] = .ok (.node .lst true (ts.map .int)) ∧ ts.length ≤ 1000 ∧ ∀ t ∈ ts, ct t := by
  obtain ⟨ds, e1, h1, h2⟩ := decks_ok ns hl
  obtain ⟨ts, d, w, l, e2, h3, h4⟩ := text_loop (script ns) ds [] none none none h2 (fun t h => by cases h) (by simp; omega)
  rw [List.length_nil] at h3
  refine ⟨ts, ?_, by omega, h4⟩
  have s1 : cAsg (.nm 1) (cLst cNil) (startR 6 [script ns]) = .nx (R6 (script ns) [] none none none none) := rfl
  have it : iLst (cCall 1 F__law_decks (cCons (cVar 0) cNil)) (R6 (script ns) [] none none none none) = .ok ds (R6 (script ns) [] none none none none) := by
    have nl : ∀ ds : List D, (∀ d ∈ ds, ∃ a b c, d = dk a b c) → noLs ds = true := by
      intro ds
      induction ds with
      | nil => intro _; rfl
      | cons d ds ih =>
        intro h
        obtain ⟨a, b, c, hd⟩ := h d List.mem_cons_self
        subst hd
        have := ih fun d hd => h d (List.mem_cons_of_mem _ hd)
        show (noL (dk a b c) && noLs ds) = true
        rw [this]; rfl
    have nd : noL (.node .lst true ds) = true := by
      show ((true || isTup .lst) && noLs ds) = true
      rw [nl ds h2]; rfl
    have e := call1 (fa := cVar 0) (r := R6 (script ns) [] none none none none) (x := .loc 0) (z := script ns) (cvar_loc rfl rfl) rfl (by rw [frz_script]; exact e1) nd
    rw [q_iLst, q_set, e]
    rfl
  have s2 := for_ok it e2
  exact runF_ok (n := 6) (x := .loc 1) ((seq_nx s1).trans ((seq_nx s2).trans rfl)) rfl
def cnt (ts : List Int) (x : Int) : Int × Int := (x, (ts.count x : Nat))
def clN (ts : List Int) (ns : List Nat) : List (Int × Int) := (ns.filter fun s => decide (0 < ts.count ((s : Nat) : Int))).map fun s => cnt ts (s : Nat)
def cl (ts : List Int) : List (Int × Int) := clN ts (List.range 256)
def ksOf (ts : List Int) : List Int := ts.foldl addK []
theorem ksOf_snoc (ts : List Int) (x : Int) : ksOf (ts ++ [x]) = addK (ksOf ts) x := by unfold ksOf; rw [List.foldl_append]; rfl
theorem ks_ok (ts : List Int) : (ksOf ts).Nodup ∧ (∀ x, x ∈ ksOf ts ↔ x ∈ ts) ∧ (ksOf ts).length ≤ ts.length := by
  have go : ∀ (ts acc : List Int), acc.Nodup → (ts.foldl addK acc).Nodup ∧ (∀ x, x ∈ ts.foldl addK acc ↔ x ∈ acc ∨ x ∈ ts) ∧ (ts.foldl addK acc).length ≤ acc.length + ts.length := by
    intro ts
    induction ts with
    | nil => exact fun acc h => ⟨h, fun x => ⟨.inl, fun z => z.elim id fun z => by cases z⟩, by simp⟩
    | cons t ts ih =>
      intro acc h
      obtain ⟨h1, h2, h3⟩ := ih (addK acc t) (addK_nodup h)
      refine ⟨h1, fun x => ?_, ?_⟩
      · show x ∈ ts.foldl addK (addK acc t) ↔ _
        rw [h2, addK_mem, List.mem_cons, or_assoc]
      · show (ts.foldl addK (addK acc t)).length ≤ _
        have := addK_len acc t
        rw [List.length_cons]
        omega
  obtain ⟨h1, h2, h3⟩ := go ts [] List.nodup_nil
  exact ⟨h1, fun x => by rw [show ksOf ts = ts.foldl addK [] from rfl, h2]; simp, by show (ts.foldl addK []).length ≤ _; simpa using h3⟩
abbrev fC (ts : List Int) : Int → D := fun x => .int (ts.count x : Nat)
abbrev R3 (N : D) (ts : List Int) (u : Option D) : Rho := [some N, some (dD (ksOf ts) (fC ts)), u]
abbrev bodyP : Sv := (cDPut 1 (cVar 2) (cBin gAdd (cDGetZ 1 (cVar 2) (cC (.int 0))) (cC (.int 1))))
theorem p_step (N : D) (ts : List Int) (x : Int) (hl : ts.length < 10000) : bodyP (R3 N ts (some (.int x))) = .nx (R3 N (ts ++ [x]) (some (.int x))) := by
  obtain ⟨k1, k2, k3⟩ := ks_ok ts
  have g := dget2_ok (fk := cVar 2) (fz := cC (.int 0)) (i := 1) (r := R3 N ts (some (.int x))) (ks := ksOf ts) (f := fC ts) (x := x) (y := .val (.int x)) (z := .val (.int 0)) (d := .int 0) rfl (cvar_at rfl rfl) rfl rfl rfl rfl rfl (fun _ _ => rfl)
  have e : (if x ∈ ksOf ts then fC ts x else D.int 0) = .int (ts.count x : Nat) := by
    split
    · rfl
    · rename_i h
      rw [k2] at h
      rw [List.count_eq_zero.mpr h]
      rfl
  rw [e] at g
  have g2 := add_ok (fb := cC (.int 1)) (j := 1) g rfl
  have p := dput_ok (fk := cVar 2) (i := 1) (ks := ksOf ts) (f := fC ts) (x := x) g2 rfl ⟨.val (.int x), cvar_at rfl rfl, rfl⟩ rfl k1 (by omega)
  refine p.trans ?_
  have e2 : upF (fC ts) x (.int ((ts.count x : Nat) + 1)) = fC (ts ++ [x]) := by
    funext y
    unfold upF
    show _ = D.int ((ts ++ [x]).count y : Nat)
    rw [List.count_append]
    split
    · rename_i h
      subst h
      rw [List.count_singleton_self]
      congr 1
    · rename_i h
      rw [List.count_singleton, if_neg (by simpa using fun z => h z.symm)]
      rfl
  rw [e2, ← ksOf_snoc]
  rfl
theorem p_loop (N : D) : ∀ (xs ts : List Int) (u : Option D), ts.length + xs.length < 10000 → ∃ u', forL (.nm 2) bodyP (xs.map .int) (R3 N ts u) = .nx (R3 N (ts ++ xs) u')
  | [], ts, u, _ => ⟨u, by rw [List.append_nil]; rfl⟩
  | x :: xs, ts, u, hl => by
    rw [List.length_cons] at hl
    obtain ⟨u', e⟩ := p_loop N xs (ts ++ [x]) (some (.int x)) (by rw [List.length_append, List.length_singleton]; omega)
    exact ⟨u', (forL_cons (r1 := R3 N ts (some (.int x))) rfl (p_step N ts x (by omega))).trans (by rw [e, List.append_assoc]; rfl)⟩
theorem clN_up (ts : List Int) : ∀ (ns : List Nat), ns.Pairwise (· < ·) → (clN ts ns).Pairwise (fun p q => leP p q = true) := by
  intro ns h
  unfold clN
  rw [List.pairwise_map]
  exact List.Pairwise.imp (fun {a b} hab => leP_iff.mpr (.inl (show ((a : Nat) : Int) < (b : Nat) by omega))) (List.Pairwise.filter _ h)
theorem cl_sorted (ts : List Int) (h : ∀ t ∈ ts, ct t) : srtP ((ksOf ts).map (cnt ts)) = cl ts := by
  obtain ⟨k1, k2, _⟩ := ks_ok ts
  refine upP_unique ((srtP_perm _).trans ?_) (srtP_up _) (clN_up ts _ List.pairwise_lt_range)
  have e : cl ts = (((List.range 256).filter fun s => decide (0 < ts.count ((s : Nat) : Int))).map fun s => ((s : Nat) : Int)).map (cnt ts) := by
    unfold cl clN
    rw [List.map_map]
    rfl
  rw [e]
  refine List.Perm.map _ ((List.perm_ext_iff_of_nodup k1 ?_).mpr fun x => ?_)
  · unfold List.Nodup
    rw [List.pairwise_map]
    exact List.Pairwise.imp (fun {a b} hab z => by omega) (List.Pairwise.filter _ List.pairwise_lt_range)
  · rw [k2, List.mem_map]
    constructor
    · intro hx
      obtain ⟨h1, h2⟩ := h x hx
      refine ⟨x.toNat, List.mem_filter.mpr ⟨List.mem_range.mpr (by omega), ?_⟩, by omega⟩
      rw [show ((x.toNat : Nat) : Int) = x by omega]
      exact decide_eq_true (List.count_pos_iff.mpr hx)
    · rintro ⟨n, hn, rfl⟩
      exact List.count_pos_iff.mp (of_decide_eq_true (List.mem_filter.mp hn).2)
theorem counts_ok (ts : List Int) (hl : ts.length < 10000) (h : ∀ t ∈ ts, ct t) : F_counts_of [.node .lst false (ts.map .int)] = .ok (.node .lst true ((cl ts).map pr)) := by
  obtain ⟨u, e⟩ := p_loop (.node .lst false (ts.map .int)) ts [] none (by simpa using hl)
  rw [List.nil_append] at e
  have s1 : cAsg (.nm 1) cDNew (startR 3 [.node .lst false (ts.map .int)]) = .nx (R3 (.node .lst false (ts.map .int)) [] none) := rfl
  have it := it_lst (r := R3 (.node .lst false (ts.map .int)) [] none) (i := 0) rfl (frzs_ints ts)
  have s2 := for_ok it e
  have s3 := sortItems_ok (r := R3 (.node .lst false (ts.map .int)) ts u) (i := 1) (ks := ksOf ts) (f := fun x => (ts.count x : Nat)) rfl
  have e3 : srtP ((ksOf ts).map fun x => (x, ((ts.count x : Nat) : Int))) = cl ts := cl_sorted ts h
  rw [e3] at s3
  exact runF_ok (n := 3) (x := .val (.node .lst true ((cl ts).map pr))) ((seq_nx s1).trans ((seq_nx s2).trans (ret_ok s3))) rfl
end K09.Ct

namespace K09.Lw
open VH K09
open K09.Co
def Ok8 (xs : List Int) : Prop := ∀ x ∈ xs, 0 ≤ x ∧ x < 256
theorem cl_eq (X : List Int) : Ct.cl X = (((List.range 256).filter fun s => decide (0 < X.count ((s : Nat) : Int))).map fun s => (((s : Nat) : Int))).map fun s => (s, ((X.count s : Nat) : Int)) := by
  rw [List.map_map]; rfl
def sgs (X : List Int) : List Int := ((List.range 256).filter fun s => decide (0 < X.count ((s : Nat) : Int))).map fun s => ((s : Nat) : Int)
theorem sgs_nd (X : List Int) : (sgs X).Nodup := List.pairwise_map.mpr ((List.nodup_range.filter _).imp fun h e => h (Int.ofNat.inj e))
theorem cl_sgs (X : List Int) : Ct.cl X = (sgs X).map fun s => (s, ((X.count s : Nat) : Int)) := cl_eq X
theorem cl_fst (X : List Int) : (Ct.cl X).map (·.1) = sgs X := by
  rw [cl_sgs, List.map_map]
  exact List.map_id' _
theorem cl_snd {X : List Int} (p : Int × Int) (hp : p ∈ Ct.cl X) : 0 ≤ p.2 ∧ p.2 ≤ X.length := by
  rw [cl_sgs] at hp
  obtain ⟨s, _, rfl⟩ := List.mem_map.mp hp
  have := List.count_le_length (a := s) (l := X)
  show 0 ≤ ((X.count s : Nat) : Int) ∧ ((X.count s : Nat) : Int) ≤ X.length
  omega
end K09.Lw

namespace K09.Co
open VH K09
open K09.Bt
def letP (L : List Lp) : Prop := (∀ p ∈ L, p.2 ≤ 256) ∧ kr L ≤ 2 ^ 256
instance (L : List Lp) : Decidable (letP L) := by unfold letP; infer_instance
theorem fold_max : ∀ (ns : List Int) (a : Int), ns.foldl max a ≤ 256 ↔ a ≤ 256 ∧ ∀ n ∈ ns, n ≤ 256
  | [], a => by simp
  | n :: ns, a => by
    show ns.foldl max (max a n) ≤ 256 ↔ _
    rw [fold_max ns]
    rw [Int.max_le, and_assoc]
    simp only [List.mem_cons, forall_eq_or_imp]
abbrev Z7 (L : List Lp) (a b c d e f : Option D) : Rho := [some (.node .lst false (L.map pl)), a, b, c, d, e, f]
theorem lens_lc (L : List Lp) (hl : L.length < 16777000) : cLc [3, 4] (.tp [3, 4]) (iLst (cVar 0)) none (cVar 4) (Z7 L none none none none none none) = .ok (.val (.node .lst true ((L.map fun p => ((p.2 : Nat) : Int)).map .int))) (Z7 L none none none none none none) := by
  rw [List.map_map]
  refine lc_all (enc := pl) (g := D.int ∘ fun p => ((p.2 : Nat) : Int)) L (r1 := Z7 L none none none none none none) (r0 := Z7 L none none none none none none) (it_lstG (o := false) (k := .lst) (set_loc (d := .node .lst false (L.map pl)) rfl rfl inferInstance rfl) rfl) rfl (by omega) ?_
  intro p _
  exact ⟨Z7 L none none (some (.int p.1)) (some (.int (p.2 : Nat))) none none, rfl, Z7 L none none (some (.int p.1)) (some (.int (p.2 : Nat))) none none, set_val (cvar_at rfl rfl), rfl⟩
theorem max_lens (L : List Lp) (hl : L.length < 16777000) : ∃ m : Int, cB (b1 maxD) (cCons (cBin gAdd (cLst (cCons (cSet (cC (.int 0))) cNil)) (cLc [3, 4] (.tp [3, 4]) (iLst (cVar 0)) none (cVar 4))) cNil) (Z7 L none none none none none none) = .ok (.val (.int m)) (Z7 L none none none none none none) ∧ (m ≤ 256 ↔ ∀ p ∈ L, p.2 ≤ 256) := by
  refine ⟨(L.map fun p => ((p.2 : Nat) : Int)).foldl max 0, ?_, ?_⟩
  · have e : cBin gAdd (cLst (cCons (cSet (cC (.int 0))) cNil)) (cLc [3, 4] (.tp [3, 4]) (iLst (cVar 0)) none (cVar 4)) (Z7 L none none none none none none) = .ok (.val (.node .lst true ([D.int 0] ++ (L.map fun p => ((p.2 : Nat) : Int)).map .int))) (Z7 L none none none none none none) :=
      addL_go (r1 := Z7 L none none none none none none) (x := .val (.node .lst true [D.int 0])) rfl (lens_lc L hl) rfl rfl inferInstance inferInstance (by rw [List.length_map, List.length_map, List.length_singleton]; omega) rfl rfl
    refine b1_ok e rfl ?_ rfl
    show (lstInts (.node .lst true ((0 :: (L.map fun p => ((p.2 : Nat) : Int))).map D.int))).bind _ = _
    have e2 : lstInts (.node .lst true ((0 :: (L.map fun p => ((p.2 : Nat) : Int))).map D.int)) = some (0 :: (L.map fun p => ((p.2 : Nat) : Int))) := by
      show intsOf _ = _
      rw [intsOf_map]
    rw [e2]
    rfl
  · rw [fold_max]
    constructor
    · intro h p hp
      have := h.2 _ (List.mem_map_of_mem (f := fun p : Lp => ((p.2 : Nat) : Int)) hp)
      have this : ((p.2 : Nat) : Int) ≤ 256 := this
      omega
    · intro h
      refine ⟨by decide, fun n hn => ?_⟩
      obtain ⟨p, hp, rfl⟩ := List.mem_map.mp hn
      have := h p hp
      show ((p.2 : Nat) : Int) ≤ 256
      omega
theorem half_loop (x0 x1 x2 x3 x4 : Option D) : ∀ (ks : List Nat) (n : Nat) (u : Option D), ∃ u', forL (.nm 6) (cAsg (.nm 5) (cBin gDiv (cVar 5) (cC (.int 2)))) (ks.map nt) [x0, x1, x2, x3, x4, some (nt n), u] = .nx [x0, x1, x2, x3, x4, some (nt (n / 2 ^ ks.length)), u']
  | [], n, u => ⟨u, by rw [List.length_nil, Nat.pow_zero, Nat.div_one]; rfl⟩
  | k :: ks, n, u => by
    obtain ⟨u', ih⟩ := half_loop x0 x1 x2 x3 x4 ks (n / 2) (some (nt k))
    refine ⟨u', forL_c (r2 := [x0, x1, x2, x3, x4, some (nt (n / 2)), some (nt k)]) rfl ?_ ?_⟩
    · exact VH.asg_go (set_val (div_ok (i := (n : Int)) (j := 2) rfl rfl (by decide) (by decide))) (by rfl)
    · rw [ih, List.length_cons, Nat.div_div_eq_div_mul, ← Nat.pow_succ']
noncomputable abbrev ltB : Sv := (cSeq (cAsg (.nm 5) (cVar 1))
  (cSeq (cFor (.nm 6) (iRng rngI1 (cCons (cVar 4) cNil)) (cAsg (.nm 5) (cBin gDiv (cVar 5) (cC (.int 2)))))
  (cAsg (.nm 2) (cBin gAdd (cVar 2) (cVar 5)))))
theorem let_loop (L : List Lp) : ∀ (M : List Lp) (t : Nat) (c d e f : Option D), (∀ p ∈ M, p.2 ≤ 256) → ∃ c' d' e' f', forL (.tp [3, 4]) ltB (M.map pl) (Z7 L (some (nt (2 ^ 256))) (some (nt t)) c d e f) = .nx (Z7 L (some (nt (2 ^ 256))) (some (nt (t + kr M))) c' d' e' f')
  | [], t, c, d, e, f, _ => ⟨c, d, e, f, rfl⟩
  | p :: M, t, c, d, e, f, h => by
    obtain ⟨u', e1⟩ := half_loop (some (.node .lst false (L.map pl))) (some (nt (2 ^ 256))) (some (nt t)) (some (.int p.1)) (some (nt p.2)) (List.range p.2) (2 ^ 256) f
    have hp := h p List.mem_cons_self
    rw [List.length_range, show 2 ^ 256 / 2 ^ p.2 = room p.2 from Nat.pow_div hp (by decide)] at e1
    obtain ⟨c', d', e', f', ih⟩ := let_loop L M (t + room p.2) (some (.int p.1)) (some (nt p.2)) (some (nt (room p.2))) u' fun q hq => h q (List.mem_cons_of_mem _ hq)
    refine ⟨c', d', e', f', ?_⟩
    have e2 : t + kr (p :: M) = t + room p.2 + kr M := by
      unfold kr
      rw [List.map_cons, List.sum_cons, Nat.add_assoc]
    rw [e2]
    refine forL_c (r1 := Z7 L (some (nt (2 ^ 256))) (some (nt t)) (some (.int p.1)) (some (nt p.2)) e f) (r2 := Z7 L (some (nt (2 ^ 256))) (some (nt (t + room p.2))) (some (.int p.1)) (some (nt p.2)) (some (nt (room p.2))) u') rfl ?_ ih
    refine seq_go (r1 := Z7 L (some (nt (2 ^ 256))) (some (nt t)) (some (.int p.1)) (some (nt p.2)) (some (nt (2 ^ 256))) f) (VH.asg_go (set_val (cvar_at rfl rfl)) rfl) ?_
    refine seq_go (r1 := Z7 L (some (nt (2 ^ 256))) (some (nt t)) (some (.int p.1)) (some (nt p.2)) (some (nt (room p.2))) u') (for_go (it_rngI (n := ((p.2 : Nat) : Int)) (cvar_at rfl rfl) (by unfold within; exact decide_eq_true (by omega))) (by rw [Int.toNat_natCast, rng_nt]; exact e1)) ?_
    refine VH.asg_go (set_val (add_ok (i := (t : Int)) (j := ((room p.2 : Nat) : Int)) rfl rfl)) ?_
    rw [show (t : Int) + ((room p.2 : Nat) : Int) = ((t + room p.2 : Nat) : Int) from by omega]
    rfl
theorem whole_ev (r : Rho) : cBin gMul (cBin gMul (cBin gMul (cBin gPow (cC (.int 2)) (cC (.int 64))) (cBin gPow (cC (.int 2)) (cC (.int 64)))) (cBin gPow (cC (.int 2)) (cC (.int 64)))) (cBin gPow (cC (.int 2)) (cC (.int 64))) r = .ok (.val (nt (2 ^ 256))) r := by
  have p1 : cBin gPow (cC (.int 2)) (cC (.int 64)) r = .ok (.val (.int (2 ^ 64))) r := pow_go (i := 2) (j := 64) rfl rfl (by decide +kernel) (by decide +kernel)
  have m1 := mul_ok p1 p1 (by decide +kernel)
  have m2 := mul_ok m1 p1 (by decide +kernel)
  have m3 := mul_ok m2 p1 (by decide +kernel)
  rw [m3]
  have e : (2 ^ 64 * 2 ^ 64 * 2 ^ 64 * 2 ^ 64 : Int) = ((2 ^ 256 : Nat) : Int) := by decide +kernel
  rw [e]
theorem let_ok (L : List Lp) (hl : L.length < 16777000) : F__law_let [.node .lst false (L.map pl)] = .ok (.bl (decide (letP L))) := by
  obtain ⟨m, e1, h1⟩ := max_lens L hl
  have g := gt_ok (fb := cC (.int 256)) (j := 256) e1 rfl
  unfold F__law_let f__law_let
  by_cases h : ∀ p ∈ L, p.2 ≤ 256
  · rw [decide_eq_false (show ¬ 256 < m from by have := h1.mpr h; omega)] at g
    obtain ⟨c', d', e', f', e2⟩ := let_loop L L 0 none none none none h
    rw [Nat.zero_add] at e2
    refine runF_go (x := .val (.bl (decide (letP L)))) (r := Z7 L none none none none none none) (r1 := Z7 L (some (nt (2 ^ 256))) (some (nt (kr L))) c' d' e' f') (by walk_at "start") (seq_go (ifs_n (r1 := Z7 L none none none none none none) g rfl rfl) (seq_go (r1 := Z7 L (some (nt (2 ^ 256))) none none none none none) (VH.asg_go (set_val (whole_ev _)) rfl) (seq_go (r1 := Z7 L (some (nt (2 ^ 256))) (some (nt 0)) none none none none) (VH.asg_go (set_val rfl) rfl) (seq_go (for_go (it_lstG (o := false) (k := .lst) (set_loc (d := .node .lst false (L.map pl)) rfl rfl inferInstance rfl) rfl) e2) (ret_go ?_))))) rfl
    have e3 := le_ok (i := ((kr L : Nat) : Int)) (j := ((2 ^ 256 : Nat) : Int)) (fa := cVar 2) (fb := cVar 1) (r := Z7 L (some (nt (2 ^ 256))) (some (nt (kr L))) c' d' e' f') rfl rfl
    rw [e3]
    have e4 : decide (((kr L : Nat) : Int) ≤ ((2 ^ 256 : Nat) : Int)) = decide (letP L) := by
      congr 1
      refine propext ⟨fun q => ⟨h, Int.ofNat_le.mp q⟩, fun q => Int.ofNat_le.mpr q.2⟩
    rw [e4]
  · rw [decide_eq_true (show 256 < m from by
      rcases Int.lt_or_le 256 m with q | q
      · exact q
      · exact (h (h1.mp q)).elim)] at g
    have e5 : decide (letP L) = false := decide_eq_false fun q => h q.1
    rw [e5]
    exact runF_go (r := Z7 L none none none none none none) (by walk_at "start") (seq_rt (ifs_y g rfl (ret_go rfl))) rfl
end K09.Co

namespace K09.Co
open VH K09
open K09.Bt
theorem wh_s {ft : Ev} {f : Sv} {n : Nat} {r r1 : Rho} (h : ft r = .ok (.val (.bl true)) r1) {r2 : Rho} (h2 : f r1 = .nx r2) : whileL ft f (n + 1) r = whileL ft f n r2 := by
  conv => lhs; unfold whileL
  rw [h]
  show (match f r1 with | .nx r2 => whileL ft f n r2 | .ct r2 => whileL ft f n r2 | .bk r2 => .nx r2 | o => o) = _
  rw [h2]
theorem touch_I {r : Rho} {i : Nat} {o : Bool} {xs : List Int} (h : r[i]? = some (some (.node .lst o (xs.map .int)))) : touch r (.loc i) = r := by
  show (match r[i]? with | some (some d) => r.set i (some (frzB d)) | _ => r) = r
  rw [h]
  show r.set i (some (.node .lst o (frzs (xs.map .int)))) = r
  rw [frzs_ints]
  exact Bt.set_same h
theorem bw_wb : ∀ (k : Nat) (x : List Bool), x.length = k → bw k (wb x) = x
  | 0, x, h => by
    have : x = [] := List.length_eq_zero_iff.mp h
    subst this; rfl
  | k + 1, x, h => by
    rcases List.eq_nil_or_concat x with e | ⟨y, b, e⟩
    · subst e; cases h
    · subst e
      rw [List.concat_eq_append] at h ⊢
      rw [List.length_append, List.length_singleton] at h
      have ih := bw_wb k y (by omega)
      rw [wb_snoc]
      show bw k ((2 * wb y + b.toNat) / 2) ++ [(2 * wb y + b.toNat) % 2 == 1] = y ++ [b]
      have e1 : (2 * wb y + b.toNat) / 2 = wb y := by cases b <;> simp <;> omega
      have e2 : ((2 * wb y + b.toNat) % 2 == 1) = b := by cases b <;> simp <;> omega
      rw [e1, e2, ih]
theorem wb_false (x : List Bool) : ∀ k : Nat, wb (x ++ List.replicate k false) = wb x * 2 ^ k
  | 0 => by rw [List.replicate_zero, List.append_nil, Nat.pow_zero, Nat.mul_one]
  | k + 1 => by
    rw [List.replicate_succ', ← List.append_assoc, wb_snoc, wb_false x k, Nat.pow_succ]
    show 2 * (wb x * 2 ^ k) + 0 = _
    rw [Nat.add_zero, Nat.mul_comm 2, Nat.mul_assoc]
theorem wb_true (x : List Bool) : ∀ k : Nat, wb (x ++ List.replicate k true) + 1 = (wb x + 1) * 2 ^ k
  | 0 => by rw [List.replicate_zero, List.append_nil, Nat.pow_zero, Nat.mul_one]
  | k + 1 => by
    have ih := wb_true x k
    rw [List.replicate_succ', ← List.append_assoc, wb_snoc, Nat.pow_succ]
    show 2 * wb (x ++ List.replicate k true) + 1 + 1 = _
    rw [← Nat.mul_assoc, ← ih]
    omega
theorem ones : ∀ (n : Nat) (x : List Bool), x.length = n → wb x + 1 < 2 ^ n → ∃ y k, x = y ++ false :: List.replicate k true
  | 0, x, h, h2 => by
    have : x = [] := List.length_eq_zero_iff.mp h
    subst this
    have : wb ([] : List Bool) = 0 := rfl
    rw [this] at h2
    omega
  | n + 1, x, h, h2 => by
    rcases List.eq_nil_or_concat x with e | ⟨y, b, e⟩
    · subst e; cases h
    · subst e
      rw [List.concat_eq_append] at h h2 ⊢
      rw [List.length_append, List.length_singleton] at h
      cases b with
      | false => exact ⟨y, 0, rfl⟩
      | true =>
        rw [wb_snoc, Nat.pow_succ] at h2
        have h3 : wb y + 1 < 2 ^ n := by
          have : (true : Bool).toNat = 1 := rfl
          omega
        obtain ⟨z, k, e⟩ := ones n y (by omega) h3
        refine ⟨z, k + 1, ?_⟩
        rw [e, List.replicate_succ', List.append_assoc]
        rfl
theorem inc_wb (y : List Bool) (k : Nat) : wb (y ++ true :: List.replicate k false) = wb (y ++ false :: List.replicate k true) + 1 := by
  have e1 : y ++ true :: List.replicate k false = (y ++ [true]) ++ List.replicate k false := by rw [List.append_assoc]; rfl
  have e2 : y ++ false :: List.replicate k true = (y ++ [false]) ++ List.replicate k true := by rw [List.append_assoc]; rfl
  rw [e1, e2, wb_false, wb_true, wb_snoc, wb_snoc]
  show (2 * wb y + 1) * 2 ^ k = (2 * wb y + 0 + 1) * 2 ^ k
  rw [Nat.add_zero]
theorem bw_next {a m : Nat} {y : List Bool} {k : Nat} (e : bw a m = y ++ false :: List.replicate k true) (hm : m + 1 < 2 ^ a) : y ++ true :: List.replicate k false = bw a (m + 1) := by
  have h := wb_bw a m (by omega)
  have l := bw_len a m
  rw [e] at h l
  have h2 := inc_wb y k
  rw [h] at h2
  have := bw_wb a (y ++ true :: List.replicate k false) (by simp at l ⊢; omega)
  rw [h2] at this
  exact this.symm
theorem bw_zeros {a n l : Nat} (h : n < 2 ^ a) (hl : a ≤ l) : bw a n ++ List.replicate (l - a) false = bw l (n * 2 ^ (l - a)) := by
  have e := wb_false (bw a n) (l - a)
  rw [wb_bw a n h] at e
  have := bw_wb l (bw a n ++ List.replicate (l - a) false) (by rw [List.length_append, bw_len, List.length_replicate]; omega)
  rw [e] at this
  exact this.symm
theorem bw_zero : ∀ l : Nat, bw l 0 = List.replicate l false
  | 0 => rfl
  | l + 1 => by
    show bw l (0 / 2) ++ [0 % 2 == 1] = _
    rw [show (0 : Nat) / 2 = 0 from rfl, bw_zero l, List.replicate_succ']
    rfl
theorem bi_set (x : List Bool) (i : Nat) (b : Bool) : ((VL.bi x).map D.int).set i (.int ((b.toNat : Nat) : Int)) = (VL.bi (x.set i b)).map .int := by
  unfold VL.bi
  rw [List.map_map, List.map_map, List.map_set]
  rfl
theorem bi_rep (k : Nat) : (List.replicate k (D.int 0)) = (VL.bi (List.replicate k false)).map .int := by
  unfold VL.bi
  rw [List.map_map, List.map_replicate]
  rfl
abbrev LBo (o : Bool) (x : List Bool) : D := .node .lst o ((VL.bi x).map .int)
abbrev W6 (A : D) (f : D) (x : List Bool) (l s a : Option D) : Rho := [some A, some f, some (LBo true x), l, s, a]
theorem one_loop (A f : D) (l s : Option D) (y : List Bool) : ∀ (k j m : Nat), k < m → whileL (cBin gEq (cBin gIx (cVar 2) (cVar 5)) (cC (.int 1))) (cSeq (cSetIx 2 (cVar 5) (cC (.int 0))) (cAsg (.nm 5) (cBin VL.gSub (cVar 5) (cC (.int 1))))) m (W6 A f ((y ++ false :: List.replicate k true) ++ List.replicate j false) l s (some (nt (y.length + k)))) = .nx (W6 A f ((y ++ false :: List.replicate (k + j) false)) l s (some (nt y.length)))
  | k, j, 0, h => by omega
  | 0, j, m + 1, _ => by
    have hx : atI ((VL.bi ((y ++ false :: List.replicate 0 true) ++ List.replicate j false)).map D.int) ((y.length + 0 : Nat) : Int) = some (.int 0) := by
      rw [VL.atI_nat, List.getElem?_map]
      unfold VL.bi
      rw [List.getElem?_map, List.append_assoc, Nat.add_zero, List.getElem?_append_right (Nat.le_refl _), Nat.sub_self]
      rfl
    have e := eq_ok (ixA_go (r := W6 A f ((y ++ false :: List.replicate 0 true) ++ List.replicate j false) l s (some (nt (y.length + 0)))) (fa := cVar 2) (fb := cVar 5) (VL.cvar_loc rfl rfl) (cvar_at rfl rfl) rfl rfl hx rfl) (j := 1) (fb := cC (.int 1)) rfl
    rw [wh_n e rfl, Nat.zero_add]
    have e2 : (y ++ false :: List.replicate 0 true) ++ List.replicate j false = y ++ false :: List.replicate j false := by rw [List.append_assoc]; rfl
    rw [e2]
    rfl
  | k + 1, j, m + 1, h => by
    have hlen : y.length + (k + 1) < ((y ++ false :: List.replicate (k + 1) true) ++ List.replicate j false).length := by simp; omega
    have hget : ((y ++ false :: List.replicate (k + 1) true) ++ List.replicate j false)[y.length + (k + 1)]? = some true := by
      rw [List.append_assoc, List.getElem?_append_right (by omega), Nat.add_sub_cancel_left]
      show (false :: (List.replicate (k + 1) true ++ List.replicate j false))[k + 1]? = _
      rw [List.getElem?_cons_succ, List.getElem?_append_left (by rw [List.length_replicate]; omega), List.getElem?_replicate, if_pos (by omega)]
    have hx : atI ((VL.bi ((y ++ false :: List.replicate (k + 1) true) ++ List.replicate j false)).map D.int) ((y.length + (k + 1) : Nat) : Int) = some (.int 1) := by
      rw [VL.atI_nat, List.getElem?_map]
      unfold VL.bi
      rw [List.getElem?_map, hget]
      rfl
    have e := eq_ok (ixA_go (r := W6 A f ((y ++ false :: List.replicate (k + 1) true) ++ List.replicate j false) l s (some (nt (y.length + (k + 1))))) (fa := cVar 2) (fb := cVar 5) (VL.cvar_loc rfl rfl) (cvar_at rfl rfl) rfl rfl hx rfl) (j := 1) (fb := cC (.int 1)) rfl
    have es : ((y ++ false :: List.replicate (k + 1) true) ++ List.replicate j false).set (y.length + (k + 1)) false = (y ++ false :: List.replicate k true) ++ List.replicate (j + 1) false := by
      have e0 : (y ++ false :: List.replicate (k + 1) true) ++ List.replicate j false = (y ++ false :: List.replicate k true) ++ true :: List.replicate j false := by
        rw [List.replicate_succ']
        simp [List.append_assoc]
      rw [e0, List.set_append_right _ _ (by simp), show y.length + (k + 1) - (y ++ false :: List.replicate k true).length = 0 from by simp]
      rfl
    have ih := one_loop A f l s y k (j + 1) m (by omega)
    refine (wh_s e ?_).trans (ih.trans ?_)
    · refine seq_go (r1 := W6 A f ((y ++ false :: List.replicate k true) ++ List.replicate (j + 1) false) l s (some (nt (y.length + (k + 1))))) ?_ ?_
      · have hix : ixN ((VL.bi ((y ++ false :: List.replicate (k + 1) true) ++ List.replicate j false)).map D.int).length ((y.length + (k + 1) : Nat) : Int) = some (y.length + (k + 1)) := ixN_nat (by rw [List.length_map, Bt.bi_len]; exact hlen)
        refine setIx_go (set_val rfl) rfl (cvar_at rfl rfl) rfl hix ?_
        show [some A, some f, some (.node .lst true (((VL.bi ((y ++ false :: List.replicate (k + 1) true) ++ List.replicate j false)).map D.int).set (y.length + (k + 1)) (.int (((false : Bool).toNat : Nat) : Int)))), l, s, _] = _
        rw [bi_set, es]
      · refine VH.asg_go (set_val (sub_ok (i := ((y.length + (k + 1) : Nat) : Int)) (j := 1) rfl rfl)) ?_
        rw [show ((y.length + (k + 1) : Nat) : Int) - 1 = ((y.length + k : Nat) : Int) from by omega]
        rfl
    · rw [show k + (j + 1) = k + 1 + j from by omega]
noncomputable abbrev lwB : Sv := (cSeq (cIfS (cBin gEq (cVar 1) (cLst cNil)) (cAsg (.nm 2) (cBin gMul (cLst (cCons (cSet (cC (.int 0))) cNil)) (cVar 3))) (cSeq (cAsg (.nm 2) (cB (gListOf) (cCons (cVar 2) cNil)))
  (cSeq (cAsg (.nm 5) (cBin VL.gSub (cB (b1 lenD) (cCons (cVar 2) cNil)) (cC (.int 1))))
  (cSeq (whileL (cBin gEq (cBin gIx (cVar 2) (cVar 5)) (cC (.int 1))) (cSeq (cSetIx 2 (cVar 5) (cC (.int 0)))
  (cAsg (.nm 5) (cBin VL.gSub (cVar 5) (cC (.int 1))))) fuel)
  (cSeq (cSetIx 2 (cVar 5) (cC (.int 1)))
  (cAsg (.nm 2) (cBin gAdd (cVar 2) (cBin gMul (cLst (cCons (cSet (cC (.int 0))) cNil)) (cBin VL.gSub (cVar 3) (cB (b1 lenD) (cCons (cVar 2) cNil)))))))))))
  (cExpr (cApp 1 (cTup (cCons (cSet (cVar 4)) (cCons (cSet (cVar 2)) cNil))))))
abbrev Y6 (A : D) (f : List (Int × List Bool)) (o : Bool) (x : List Bool) (l s a : Option D) : Rho := [some A, some (.node .lst true (f.map (nw false))), some (LBo o x), l, s, a]
theorem fp_nw (f : List (Int × List Bool)) : ∀ d ∈ f.map (nw false), FP 2 d := fun d hd => by
  obtain ⟨q, _, rfl⟩ := List.mem_map.mp hd
  refine fp_tup (k := 1) fun y hy => ?_
  simp only [List.mem_cons, List.not_mem_nil, or_false] at hy
  rcases hy with rfl | rfl
  · exact fp_int _ 1
  · exact fp_lst (k := 0) (fqs_enc (fun _ => fp_int _ 0) _)
theorem f_empty (A : D) (f : List (Int × List Bool)) (o : Bool) (x : List Bool) (l s a : Option D) : cBin gEq (cVar 1) (cLst cNil) (Y6 A f o x l s a) = .ok (.val (.bl (f.map (nw false)).isEmpty)) (Y6 A f o x l s a) :=
  eqD_go (VL.cvar_loc rfl rfl) (y := .val (.node .lst true [])) (r2 := Y6 A f o x l s a) rfl rfl rfl (VL.eq_nil (k := 2) (fp_nw f) (by decide))
theorem lw_app (A : D) (f : List (Int × List Bool)) (x : List Bool) (l a : Option D) (z : Int) (hf : f.length < 10000) : cExpr (cApp 1 (cTup (cCons (cSet (cVar 4)) (cCons (cSet (cVar 2)) cNil)))) (Y6 A f true x l (some (.int z)) a) = .nx (Y6 A (f ++ [(z, x)]) false x l (some (.int z)) a) := by
  refine app_go rfl (set_val (tup_ok (ds := [.int z, LBo false x]) (cons_ok (set_val (cvar_at rfl rfl)) (cons_ok (set_loc (d := LBo true x) rfl rfl inferInstance rfl) (nil_ok _))) rfl (Nat.le_of_ble_eq_true rfl))) rfl (by rw [List.length_map]; omega) ?_
  show _ = [some A, some (.node .lst true ((f ++ [(z, x)]).map (nw false))), _, _, _, _]
  rw [List.map_append]
  rfl
theorem lw_first (A : D) (o : Bool) (x : List Bool) (l : Nat) (z : Int) (a : Option D) (hl : l ≤ 256) : lwB (Y6 A [] o x (some (nt l)) (some (.int z)) a) = .nx (Y6 A [(z, bw l 0)] false (bw l 0) (some (nt l)) (some (.int z)) a) := by
  have e := f_empty A [] o x (some (nt l)) (some (.int z)) a
  have m := mulL_go (fa := cLst (cCons (cSet (cC (.int 0))) cNil)) (fb := cVar 3) (xs := [D.int 0]) (xs' := [D.int 0]) (r := Y6 A [] o x (some (nt l)) (some (.int z)) a) (r1 := Y6 A [] o x (some (nt l)) (some (.int z)) a) (r2 := Y6 A [] o x (some (nt l)) (some (.int z)) a) (n := (l : Int)) (o := true) rfl (cvar_at rfl rfl) inferInstance (by omega) (by omega) (by rw [List.length_singleton]; omega)
  have e3 : (List.replicate ((l : Nat) : Int).toNat [D.int 0]).flatten = (VL.bi (bw l 0)).map .int := by
    rw [Int.toNat_natCast, bw_zero, ← bi_rep, List.flatten_replicate_singleton]
  rw [e3] at m
  refine seq_go (r1 := Y6 A [] true (bw l 0) (some (nt l)) (some (.int z)) a) (ifs_y e rfl (VH.asg_go (set_val m) rfl)) ?_
  exact lw_app A [] (bw l 0) (some (nt l)) a z (by decide)
theorem lw_next (A : D) (f : List (Int × List Bool)) (hf : f ≠ []) (hf2 : f.length < 10000) (o : Bool) (a m l : Nat) (z : Int) (a5 : Option D) (hm : m + 1 < 2 ^ a) (hal : a ≤ l) (hl : l ≤ 256) : ∃ a5', lwB (Y6 A f o (bw a m) (some (nt l)) (some (.int z)) a5) = .nx (Y6 A (f ++ [(z, bw l ((m + 1) * 2 ^ (l - a)))]) false (bw l ((m + 1) * 2 ^ (l - a))) (some (nt l)) (some (.int z)) a5') := by
  have e := f_empty A f o (bw a m) (some (nt l)) (some (.int z)) a5
  have e1 : (f.map (nw false)).isEmpty = false := by cases f with
    | nil => exact (hf rfl).elim
    | cons _ _ => rfl
  rw [e1] at e
  obtain ⟨y, k, ey⟩ := ones a (bw a m) (bw_len a m) (by rw [wb_bw a m (by omega)]; exact hm)
  have hlen : a = y.length + 1 + k := by
    have := congrArg List.length ey
    rw [bw_len] at this
    simp at this; omega
  have hn := bw_next ey hm
  have k0 : k < 1000 := by omega
  have s1 : cAsg (.nm 2) (cB (gListOf) (cCons (cVar 2) cNil)) (Y6 A f o (bw a m) (some (nt l)) (some (.int z)) a5) = .nx (Y6 A f true (bw a m) (some (nt l)) (some (.int z)) a5) :=
    VH.asg_go (set_val (listOf_go (o := o) (k := .lst) (xs := (VL.bi (bw a m)).map .int) (VL.cvar_loc rfl rfl) rfl rfl inferInstance (touch_I (o := o) (xs := VL.bi (bw a m)) rfl))) rfl
  have l2 : cB (b1 lenD) (cCons (cVar 2) cNil) (Y6 A f true (bw a m) (some (nt l)) (some (.int z)) a5) = .ok (.val (.int ((VL.bi (bw a m)).map D.int).length)) (Y6 A f true (bw a m) (some (nt l)) (some (.int z)) a5) := len_go (VL.cvar_loc rfl rfl) rfl rfl
  rw [List.length_map, Bt.bi_len, bw_len] at l2
  have s2 : cAsg (.nm 5) (cBin VL.gSub (cB (b1 lenD) (cCons (cVar 2) cNil)) (cC (.int 1))) (Y6 A f true (bw a m) (some (nt l)) (some (.int z)) a5) = .nx (Y6 A f true (bw a m) (some (nt l)) (some (.int z)) (some (nt (y.length + k)))) := by
    refine VH.asg_go (set_val (sub_ok l2 (j := 1) (fb := cC (.int 1)) rfl)) ?_
    rw [show ((a : Nat) : Int) - 1 = ((y.length + k : Nat) : Int) from by omega]
    rfl
  have s3 := one_loop A (.node .lst true (f.map (nw false))) (some (nt l)) (some (.int z)) y k 0 fuel (VH.lt_fuel (by omega))
  rw [List.replicate_zero, List.append_nil, ← ey, Nat.add_zero] at s3
  have s4 : cSetIx 2 (cVar 5) (cC (.int 1)) (Y6 A f true (y ++ false :: List.replicate k false) (some (nt l)) (some (.int z)) (some (nt y.length))) = .nx (Y6 A f true (bw a (m + 1)) (some (nt l)) (some (.int z)) (some (nt y.length))) := by
    have hix : ixN ((VL.bi (y ++ false :: List.replicate k false)).map D.int).length ((y.length : Nat) : Int) = some y.length := ixN_nat (by rw [List.length_map, Bt.bi_len]; simp)
    refine setIx_go (set_val rfl) rfl (cvar_at rfl rfl) rfl hix ?_
    show [some A, some (.node .lst true (f.map (nw false))), some (.node .lst true (((VL.bi (y ++ false :: List.replicate k false)).map D.int).set y.length (.int (((true : Bool).toNat : Nat) : Int)))), some (nt l), some (.int z), _] = _
    rw [bi_set, List.set_append_right _ _ (Nat.le_refl _), Nat.sub_self, ← hn]
    rfl
  have l5 : cB (b1 lenD) (cCons (cVar 2) cNil) (Y6 A f true (bw a (m + 1)) (some (nt l)) (some (.int z)) (some (nt y.length))) = .ok (.val (.int ((VL.bi (bw a (m + 1))).map D.int).length)) (Y6 A f true (bw a (m + 1)) (some (nt l)) (some (.int z)) (some (nt y.length))) := len_go (VL.cvar_loc rfl rfl) rfl rfl
  rw [List.length_map, Bt.bi_len, bw_len] at l5
  have s5 : cAsg (.nm 2) (cBin gAdd (cVar 2) (cBin gMul (cLst (cCons (cSet (cC (.int 0))) cNil)) (cBin VL.gSub (cVar 3) (cB (b1 lenD) (cCons (cVar 2) cNil))))) (Y6 A f true (bw a (m + 1)) (some (nt l)) (some (.int z)) (some (nt y.length))) = .nx (Y6 A f true (bw l ((m + 1) * 2 ^ (l - a))) (some (nt l)) (some (.int z)) (some (nt y.length))) := by
    have e5 := sub_ok (r := Y6 A f true (bw a (m + 1)) (some (nt l)) (some (.int z)) (some (nt y.length))) (fa := cVar 3) (i := (l : Int)) rfl l5
    rw [show (l : Int) - ((a : Nat) : Int) = ((l - a : Nat) : Int) from by omega] at e5
    have e6 := mulL_go (fa := cLst (cCons (cSet (cC (.int 0))) cNil)) (xs := [D.int 0]) (xs' := [D.int 0]) (r := Y6 A f true (bw a (m + 1)) (some (nt l)) (some (.int z)) (some (nt y.length))) (r1 := Y6 A f true (bw a (m + 1)) (some (nt l)) (some (.int z)) (some (nt y.length))) (o := true) rfl e5 inferInstance (by omega) (by omega) (by rw [List.length_singleton]; omega)
    rw [Int.toNat_natCast, List.flatten_replicate_singleton, bi_rep] at e6
    have e7 := addL_go (r := Y6 A f true (bw a (m + 1)) (some (nt l)) (some (.int z)) (some (nt y.length))) (fa := cVar 2) (VL.cvar_loc rfl rfl) e6 rfl rfl (xs' := (VL.bi (bw a (m + 1))).map .int) inferInstance inferInstance (by rw [List.length_map, List.length_map, Bt.bi_len, Bt.bi_len, bw_len, List.length_replicate]; omega) rfl (touch_I (o := true) (xs := VL.bi (bw a (m + 1))) rfl)
    have e8 : (VL.bi (bw a (m + 1))).map D.int ++ (VL.bi (List.replicate (l - a) false)).map D.int = (VL.bi (bw l ((m + 1) * 2 ^ (l - a)))).map .int := by
      rw [← bw_zeros hm hal]
      unfold VL.bi
      rw [List.map_append, List.map_append]
    rw [e8] at e7
    exact VH.asg_go (set_val e7) rfl
  exact ⟨_, seq_go (ifs_n (r1 := Y6 A f o (bw a m) (some (nt l)) (some (.int z)) a5) e rfl (seq_go s1 (seq_go s2 (seq_go s3 (seq_go s4 s5))))) (lw_app A f _ _ _ z hf2)⟩
theorem lw_loop (A : D) : ∀ (S : List (Nat × Int)) (f : List (Int × List Bool)) (m a : Nat) (o : Bool) (x4 x5 x6 : Option D), f ≠ [] → Fit (m + 1) a S → m + 1 ≤ 2 ^ a → f.length + S.length < 10000 → ∃ o' x x4' x5' x6', forL (.tp [3, 4]) lwB (S.map fun q => VL.pairD (((q.1 : Nat) : Int), q.2)) (Y6 A f o (bw a m) x4 x5 x6) = .nx (Y6 A (f ++ ws (m + 1) a S) o' x x4' x5' x6')
  | [], f, m, a, o, x4, x5, x6, _, _, _, _ => ⟨o, bw a m, x4, x5, x6, by
    show SO.nx _ = _
    rw [show ws (m + 1) a [] = [] from rfl, List.append_nil]⟩
  | q :: S, f, m, a, o, x4, x5, x6, hf, h, hm, hl => by
    rw [List.length_cons] at hl
    have hq := h.2.1 q List.mem_cons_self
    have h1 := h.head
    have hm2 : m + 1 < 2 ^ a := by
      have h2 := h1.1
      have e : 2 ^ q.1 = 2 ^ a * 2 ^ (q.1 - a) := by rw [← Nat.pow_add]; congr 1; omega
      rw [e] at h2
      exact Nat.lt_of_mul_lt_mul_right h2
    obtain ⟨a5, e⟩ := lw_next A f hf (by omega) o a m q.1 q.2 x6 hm2 hq.1 hq.2
    obtain ⟨o', x, y4, y5, y6, ih⟩ := lw_loop A S (f ++ [(q.2, bw q.1 ((m + 1) * 2 ^ (q.1 - a)))]) ((m + 1) * 2 ^ (q.1 - a)) q.1 false (some (nt q.1)) (some (.int q.2)) a5 (by simp) h1.2 h1.1 (by rw [List.length_append, List.length_singleton]; omega)
    refine ⟨o', x, y4, y5, y6, ?_⟩
    rw [List.append_assoc] at ih
    exact forL_c rfl e ih
theorem lwords_ok {L : List Lp} (g : Good L) : F__law_words [.node .lst false (L.map pl)] = .ok (.node .lst true ((Wt L).map (nlD false))) := by
  have hfit := so_fit g.le g.fit
  have h : ∃ o x x4 x5 x6, forL (.tp [3, 4]) lwB ((so L).map fun q => VL.pairD (((q.1 : Nat) : Int), q.2)) (Y6 (.node .lst false (L.map pl)) [] true [] none none none) = .nx (Y6 (.node .lst false (L.map pl)) (Ws L) o x x4 x5 x6) := by
    have hlen := so_len L
    unfold Ws
    revert hfit hlen
    generalize so L = S
    intro hfit hlen
    cases S with
    | nil => exact ⟨true, [], none, none, none, rfl⟩
    | cons q S =>
      have hq := hfit.2.1 q List.mem_cons_self
      have h1 := hfit.head
      rw [Nat.zero_mul] at h1
      have e := lw_first (.node .lst false (L.map pl)) true [] q.1 q.2 none hq.2
      obtain ⟨o', x, y4, y5, y6, ih⟩ := lw_loop (.node .lst false (L.map pl)) S [(q.2, bw q.1 0)] 0 q.1 false (some (nt q.1)) (some (.int q.2)) none (by simp) h1.2 (Nat.pow_pos (by decide)) (by
        have := g.few
        rw [List.length_cons] at hlen
        rw [List.length_singleton]; omega)
      refine ⟨o', x, y4, y5, y6, ?_⟩
      have e2 : ws 0 0 (q :: S) = [(q.2, bw q.1 0)] ++ ws (0 + 1) q.1 S := by
        show (q.2, bw q.1 (0 * 2 ^ (q.1 - 0))) :: ws (0 * 2 ^ (q.1 - 0) + 1) q.1 S = _
        rw [Nat.zero_mul]; rfl
      rw [e2]
      exact forL_c rfl e ih
  obtain ⟨o, x, x4, x5, x6, e⟩ := h
  have e1 : cLc [4, 3] (.tp [4, 3]) (iLst (cVar 0)) none (cTup (cCons (cSet (cVar 3)) (cCons (cSet (cVar 4)) cNil))) (Y6 (.node .lst false (L.map pl)) [] true [] none none none) = .ok (.val (.node .lst true ((L.map fun p => (((p.2 : Nat) : Int), p.1)).map VL.pairD))) (Y6 (.node .lst false (L.map pl)) [] true [] none none none) := by
    rw [List.map_map]
    refine lc_all (enc := pl) (g := VL.pairD ∘ fun p => (((p.2 : Nat) : Int), p.1)) L (r1 := Y6 (.node .lst false (L.map pl)) [] true [] none none none) (r0 := Y6 (.node .lst false (L.map pl)) [] true [] none none none) ?_ rfl (by have := g.few; omega) ?_
    · exact it_lstG (o := false) (k := .lst) (set_loc (d := .node .lst false (L.map pl)) rfl rfl inferInstance rfl) rfl
    · intro p hp
      refine ⟨Y6 (.node .lst false (L.map pl)) [] true [] (some (nt p.2)) (some (.int p.1)) none, rfl, Y6 (.node .lst false (L.map pl)) [] true [] (some (nt p.2)) (some (.int p.1)) none, ?_, rfl⟩
      exact set_val (tup_ok (cons_ok (set_val (cvar_at rfl rfl)) (cons_ok (set_val (cvar_at rfl rfl)) (nil_ok _))) rfl (Nat.le_of_ble_eq_true rfl))
  have e2 := VL.sortedP_ok e1
  rw [so_back, List.map_map] at e2
  have e3 : cFor (.tp [3, 4]) (iLst (cB gSortedP (cCons (cLc [4, 3] (.tp [4, 3]) (iLst (cVar 0)) none (cTup (cCons (cSet (cVar 3)) (cCons (cSet (cVar 4)) cNil)))) cNil))) lwB (Y6 (.node .lst false (L.map pl)) [] true [] none none none) = .nx (Y6 (.node .lst false (L.map pl)) (Ws L) o x x4 x5 x6) :=
    for_go (it_lstG (set_val e2) rfl) e
  have e4 : cB gSortedN (cCons (cVar 1) cNil) (Y6 (.node .lst false (L.map pl)) (Ws L) o x x4 x5 x6) = .ok (.val (.node .lst true ((Wt L).map (nlD false)))) (touch (Y6 (.node .lst false (L.map pl)) (Ws L) o x x4 x5 x6) (.loc 1)) := by
    rw [q_B, q_cons, VL.cvar_loc (d := .node .lst true ((Ws L).map (nw false))) rfl rfl]
    show (match nlsOf ((Ws L).map (nw false)) with | some ps => EO.ok (.val (.node .lst true ((srtN ps).map (nlD false)))) (touch _ _) | none => .bad) = _
    have e5 : (Ws L).map (nw false) = ((Ws L).map fun q => (q.1, VL.bi q.2)).map (nlD false) := by rw [List.map_map]; rfl
    rw [e5, nlsOf_map]
    rfl
  unfold F__law_words f__law_words
  exact runF_go (x := .val (.node .lst true ((Wt L).map (nlD false)))) (r := [some (.node .lst false (L.map pl)), none, none, none, none, none]) (by walk_at "start") (seq_go (r1 := [some (.node .lst false (L.map pl)), some (.node .lst true []), none, none, none, none]) (VH.asg_go (set_val rfl) rfl) (seq_go (r1 := Y6 (.node .lst false (L.map pl)) [] true [] none none none) (VH.asg_go (set_val rfl) rfl) (seq_go e3 (ret_go e4)))) rfl
theorem mk_good {L : List Lp} {z : Int} (d : Dr L z) (h : letP L) (hl : L.length < 10000) : Good L := ⟨h.1, d.pos, h.2, List.pairwise_map.mpr (d.up.imp fun h e => by
  have e : _ = _ := e
  omega), hl⟩
theorem not_let {L : List Lp} {r : Rho} {i : Nat} (hl : L.length < 10000) (h : r[i]? = some (some (.node .lst false (L.map pl)))) : cNot (cCall 1 F__law_let (cCons (cVar i) cNil)) r = .ok (.val (.bl (!decide (letP L)))) r := by
  refine not_ok (call_go (ds := [.node .lst false (L.map pl)]) (cons_ok (VL.cvar_loc h rfl) (nil_ok _)) ?_ (show Fzs [.node .lst false (L.map pl)] [.node .lst false (L.map pl)] from inferInstance) rfl (let_ok L (by omega)) inferInstance)
  show (match opd r (.loc i), opds r [] with | some d, some ds => some (d :: ds) | _, _ => none) = _
  rw [VL.opd_loc' h]; rfl
theorem call_lwords {L : List Lp} (g : Good L) {r : Rho} {i : Nat} (h : r[i]? = some (some (.node .lst false (L.map pl)))) : cCall 1 F__law_words (cCons (cVar i) cNil) r = .ok (.val (.node .lst true ((Wt L).map (nlD false)))) r := by
  refine call_any (cons_ok (VL.cvar_loc h rfl) (nil_ok _)) (ds := [.node .lst false (L.map pl)]) ?_ (show Fzs [.node .lst false (L.map pl)] [.node .lst false (L.map pl)] from inferInstance) rfl (lwords_ok g) ?_
  · show (match opd r (.loc i), opds r [] with | some d, some ds => some (d :: ds) | _, _ => none) = _
    rw [VL.opd_loc' h]; rfl
  · show VL.settles (VL.settle r (.loc i)) [] = r
    show VL.settle r (.loc i) = r
    unfold VL.settle
    simp only [h]
    show r.set i (some (.node .lst false (frzs (L.map pl)))) = r
    rw [frzs_pl]
    exact Bt.set_same h
end K09.Co

namespace K09.Lw
open VH K09
open K09.Co
abbrev Nd (o : Bool) (ds : List D) : D := .node .lst o ds
abbrev PL (o : Bool) (L : List Lp) : D := .node .lst o (L.map pl)
abbrev WL (o b : Bool) (W : List NK) : D := .node .lst o (W.map (nlD b))
theorem forL_look {v : Nat} {f : Sv} {r0 : Rho} : ∀ (ds : List D), (∀ d ∈ ds, f (r0.set v (some d)) = .nx (r0.set v (some d))) → ∀ x : Option D, ∃ y, forL (.nm v) f ds (r0.set v x) = .nx (r0.set v y)
  | [], _, x => ⟨x, rfl⟩
  | d :: ds, h, x => by
    obtain ⟨y, e⟩ := forL_look ds (fun z hz => h z (List.mem_cons_of_mem _ hz)) (some d)
    refine ⟨y, forL_c (r1 := r0.set v (some d)) ?_ (h d List.mem_cons_self) e⟩
    show some ((r0.set v x).set v (some d)) = _
    rw [List.set_set]
theorem cl_len256 (X : List Int) : (Ct.cl X).length ≤ 256 := by
  rw [cl_sgs, List.length_map]
  unfold sgs
  rw [List.length_map]
  have := List.length_filter_le (fun s : Nat => decide (0 < X.count ((s : Nat) : Int))) (List.range 256)
  rw [List.length_range] at this
  exact this
theorem frz_PL (o : Bool) (L : List Lp) : frz (PL o L) = PL false L := by
  show D.node .lst false (frzs _) = _
  rw [frzs_pl]
theorem frz_WL (o b : Bool) (W : List NK) : frz (WL o b W) = WL false false W := by
  show D.node .lst false (frzs _) = _
  rw [frzs_map, List.map_map]
  congr 1
  exact List.map_congr_left fun p _ => VL.frz_nl b p
theorem fp_PL (o : Bool) (L : List Lp) : VL.FP 2 (PL o L) := VL.fp_lst (k := 1) fun x hx => by
  obtain ⟨p, _, rfl⟩ := List.mem_map.mp hx
  refine VL.fp_tup (k := 0) fun y hy => ?_
  have hy : y = .int p.1 ∨ y = .int ((p.2 : Nat) : Int) := by simpa only [List.mem_cons, List.not_mem_nil, or_false] using hy
  rcases hy with e | e
  · rw [e]; exact VL.fp_int _ _
  · rw [e]; exact VL.fp_int _ _
theorem fp_WL (o b : Bool) (W : List NK) : VL.FP 3 (WL o b W) := VL.fp_lst (k := 2) fun x hx => by
  obtain ⟨p, _, rfl⟩ := List.mem_map.mp hx
  refine VL.fp_tup (k := 1) fun y hy => ?_
  have hy : y = .int p.1 ∨ y = .node .lst b (p.2.map .int) := by simpa only [List.mem_cons, List.not_mem_nil, or_false] using hy
  rcases hy with e | e
  · rw [e]; exact VL.fp_int _ _
  · rw [e]
    exact VL.fp_lst (k := 0) fun z hz => by
      obtain ⟨j, _, rfl⟩ := List.mem_map.mp hz
      exact VL.fp_int _ _
theorem py_WL (o b o' b' : Bool) (W : List NK) : toPy (WL o b W) = toPy (WL o' b' W) := by
  show PyData.list (toPys (W.map (nlD b))) = PyData.list (toPys (W.map (nlD b')))
  rw [toPys_map, toPys_map, List.map_map, List.map_map]
  congr 1
structure GI (L : List Lp) : Prop where
  few : L.length < 10000
  good : letP L → Good L
theorem words_no {L : List Lp} (h : GI L) (hn : ¬ letP L) : F_words_by [PL false L] = .exc 2 := by
  refine words_exc L h.few ?_
  have hf := h.few
  by_cases hl : ∃ p ∈ L, 256 < p.2
  · exact need_long L (by omega) hl
  · have hle : ∀ p ∈ L, p.2 ≤ 256 := fun p hp => by
      rcases Nat.lt_or_ge 256 p.2 with z | z
      · exact absurd ⟨p, hp, z⟩ hl
      · exact z
    refine need_full L (by omega) hle ?_
    rcases Nat.lt_or_ge (2 ^ 256) (kr L) with z | z
    · exact z
    · exact absurd ⟨hle, z⟩ hn
theorem refused_ok {L : List Lp} (h : GI L) (hn : ¬ letP L) : F__law_refused [PL false L] = .ok (.bl true) := by
  let R : Option D → Option D → Rho := fun c e => [some (PL false L), c, e]
  have ca : cCall 1 F_words_by (cCons (cVar 0) cNil) (R (some .non) none) = .exc 2 (R (some .non) none) := VH.call_exc (n := 1) (F := F_words_by) (xs := [.loc 0]) (ds := [PL false L]) (ds' := [PL false L]) (VH.cons_ok (VL.cvar_loc rfl rfl) (VH.nil_ok _)) rfl ⟨by show [frz (PL false L)] = _; rw [frz_PL]⟩ rfl (words_no h hn)
  have ex : cExpr (cCall 1 F_words_by (cCons (cVar 0) cNil)) (R (some .non) none) = .exc 2 (R (some .non) none) := by rw [q_expr, ca]; rfl
  have s2 : cTry (tbOf tab 0) (some 2) (cExpr (cCall 1 F_words_by (cCons (cVar 0) cNil))) (cAsg (.nm 1) (cVar 2)) (R (some .non) none) = .nx (R (some (.exc 2)) none) := VH.try_go ex (by decide) rfl (r3 := R (some (.exc 2)) (some (.exc 2))) rfl rfl
  have v : cVar 1 (R (some (.exc 2)) none) = .ok (.val (.exc 2)) (R (some (.exc 2)) none) := rfl
  have t1 : cB (gIsi (etab tab)) (cCons (cVar 1) (cCons (cC (.cls 2)) cNil)) (R (some (.exc 2)) none) = .ok (.val (.bl true)) (R (some (.exc 2)) none) := isiC_go v rfl (by decide)
  have t2 : cB (gIsi (etab tab)) (cCons (cVar 1) (cCons (cC (.ty "ValueError")) cNil)) (R (some (.exc 2)) none) = .ok (.val (.bl true)) (R (some (.exc 2)) none) := VH.isi_go v rfl (by decide)
  have t3 : cB (gIsi (etab tab)) (cCons (cVar 1) (cCons (cSet (cTup (cCons (cSet (cC (.cls 4))) (cCons (cSet (cC (.cls 6))) (cCons (cSet (cC (.cls 1))) (cCons (cSet (cC (.cls 3))) (cCons (cSet (cC (.cls 7))) (cCons (cSet (cC (.cls 5))) cNil)))))))) cNil)) (R (some (.exc 2)) none) = .ok (.val (.bl false)) (R (some (.exc 2)) none) := rfl
  unfold F__law_refused f__law_refused
  exact VH.runF_go (r := R none none) (x := .val (.bl true)) rfl (VH.seq_go (r1 := R (some .non) none) rfl (VH.seq_go s2 (VH.seq_go (VH.ifs_n (VH.or_go (VH.not_t t1) (VH.not_t t2)) rfl rfl) (VH.ret_go (VH.not_f t3))))) rfl
theorem shaped_ok (W : List NK) (hW : ∀ p ∈ W, p.2.length ≤ 256) (hl : W.length < 10000) : F__law_shaped [WL false false W] = .ok (.bl true) := by
  let R0 : Rho := [some (WL false false W), none, none]
  have t1 : cB (gIsi (etab tab)) (cCons (cVar 0) (cCons (cC (.ty "list")) cNil)) R0 = .ok (.val (.bl true)) R0 := VH.isi_go (VL.cvar_loc rfl rfl) rfl rfl
  have it := VH.it_lstG (fa := cVar 0) (k := .lst) (o := false) (ds := W.map (nlD false)) (VH.set_any (i := 0) (r := R0) rfl (frz_WL _ _ _)) rfl
  obtain ⟨y, e⟩ := forL_look (v := 1) (f := (cSeq (cIfS (cOr (cNot (cB (gIsi (etab tab)) (cCons (cVar 1) (cCons (cC (.ty "tuple")) cNil)))) (cOr (cBin gNe (cB (b1 lenD) (cCons (cVar 1) cNil)) (cC (.int 2))) (cNot (cB (gIsi (etab tab)) (cCons (cBin gIx (cVar 1) (cC (.int 1))) (cCons (cC (.ty "list")) cNil)))))) (cRet (cC (.bl false))) cSkip)
      (cIfS (cBin gNe (cLc [2] (.nm 2) (iLst (cBin gAdd (cLst (cCons (cSet (cBin gIx (cVar 1) (cC (.int 0)))) cNil)) (cBin gIx (cVar 1) (cC (.int 1))))) (some (cOr (cNot (cB (gIsi (etab tab)) (cCons (cVar 2) (cCons (cC (.ty "int")) cNil)))) (cB (gIsi (etab tab)) (cCons (cVar 2) (cCons (cC (.ty "bool")) cNil))))) (cVar 2)) (cLst cNil)) (cRet (cC (.bl false))) cSkip))) (r0 := R0) (W.map (nlD false)) (fun d hd => by
    obtain ⟨p, hp, rfl⟩ := List.mem_map.mp hd
    have hpl := hW p hp
    let R : Rho := [some (WL false false W), some (nlD false p), none]
    show _ = SO.nx R
    have fI : frz (.node .lst false (p.2.map D.int)) = .node .lst false (p.2.map D.int) := by
      show D.node .lst false (frzs _) = _
      rw [frzs_ints]
    have fE : frzs [D.int p.1, .node .lst false (p.2.map D.int)] = [D.int p.1, .node .lst false (p.2.map D.int)] := by
      show [D.int p.1, frz (.node .lst false (p.2.map D.int))] = _
      rw [fI]
    have a1 : cB (gIsi (etab tab)) (cCons (cVar 1) (cCons (cC (.ty "tuple")) cNil)) R = .ok (.val (.bl true)) R := VH.isi_go (VL.cvar_loc rfl rfl) rfl rfl
    have a2 := VL.ne_ok (fb := cC (.int 2)) (j := 2) (VH.len_go (k := .tup) (o := false) (xs := [D.int p.1, .node .lst false (p.2.map D.int)]) (fa := cVar 1) (x := .loc 1) (r := R) (VL.cvar_loc rfl rfl) rfl rfl) rfl
    have i1 : cBin gIx (cVar 1) (cC (.int 1)) R = .ok (.val (.node .lst false (p.2.map D.int))) R := VH.ix_go (n := 1) (x := .loc 1) (k := .tup) (o := false) (xs := [D.int p.1, .node .lst false (p.2.map D.int)]) (d := .node .lst false (p.2.map D.int)) (VL.cvar_loc rfl rfl) rfl rfl rfl rfl ⟨fI⟩ (VH.touch_l (o := false) (k := .tup) (ys := [D.int p.1, .node .lst false (p.2.map D.int)]) rfl ⟨fE⟩) (fun h => by cases h)
    have i0 : cBin gIx (cVar 1) (cC (.int 0)) R = .ok (.val (.int p.1)) R := VH.ixA_go (n := 0) (x := .loc 1) (k := .tup) (o := false) (xs := [D.int p.1, .node .lst false (p.2.map D.int)]) (VL.cvar_loc rfl rfl) rfl rfl rfl rfl rfl
    have a3 : cB (gIsi (etab tab)) (cCons (cBin gIx (cVar 1) (cC (.int 1))) (cCons (cC (.ty "list")) cNil)) R = .ok (.val (.bl true)) R := VH.isi_go i1 rfl rfl
    have l0 := VH.lst_ok (ds := [D.int p.1]) (VH.cons_ok (VH.set_val i0) (VH.nil_ok _)) rfl (Nat.le_of_ble_eq_true rfl)
    have ad := VH.addL_go (x := .val (.node .lst true [D.int p.1])) (o := true) (o' := false) (xs := [p.1].map D.int) (ys := p.2.map .int) (xs' := [p.1].map D.int) (ys' := p.2.map .int) l0 i1 rfl rfl inferInstance inferInstance (by rw [List.length_map, List.length_map]; show 1 + _ ≤ _; omega) rfl rfl
    rw [← List.map_append] at ad
    have lc := VL.lc_fl (α := Int) (enc := D.int) (g := D.int) (p := fun _ => false) (t := .nm 2) (fc := some (cOr (cNot (cB (gIsi (etab tab)) (cCons (cVar 2) (cCons (cC (.ty "int")) cNil)))) (cB (gIsi (etab tab)) (cCons (cVar 2) (cCons (cC (.ty "bool")) cNil))))) (fe := cVar 2) (vs := [2]) (r0 := R) ([p.1] ++ p.2) (VH.it_lstG (VH.set_val ad) rfl) rfl (by rw [List.length_append]; show 1 + _ < _; omega) (fun z _ => ⟨R.set 2 (some (.int z)), rfl, R.set 2 (some (.int z)), rfl, rfl, fun h => nomatch h⟩)
    have ef : ([p.1] ++ p.2).filter (fun _ => false) = [] := List.filter_eq_nil_iff.mpr fun _ _ h => nomatch h
    rw [ef] at lc
    have ne := VH.neD_go (fb := cLst cNil) (x := .val (Nd true [])) (y := .val (Nd true [])) lc rfl rfl rfl (VL.neD_same (k := 1) (VL.fp_lst (k := 0) fun x hx => by cases hx) (by decide) rfl)
    exact VH.seq_go (VH.ifs_n (VH.or_go (VH.not_t a1) (VH.or_go a2 (VH.not_t a3))) rfl rfl) (VH.ifs_n ne rfl rfl)) none
  unfold F__law_shaped f__law_shaped
  exact VH.runF_go (r := R0) (x := .val (.bl true)) rfl (VH.seq_go (VH.ifs_n (VH.not_t t1) rfl rfl) (VH.seq_go (VH.for_go (t := .nm 1) it e) rfl)) rfl
theorem words_apart {L : List Lp} (g : Good L) : ((Wt L).map (·.2)).Pairwise fun x y => ¬ x <+: y ∧ ¬ y <+: x := by
  have nd : (Wt L).Nodup := (List.pairwise_map.mp g.nodup).imp fun h e => h (by rw [e])
  refine List.pairwise_map.mpr ?_
  refine (List.Pairwise.and_mem.mp nd).imp fun {p q} h => ?_
  exact ⟨fun z => h.2.2 (g.free p h.1 q h.2.1 z), fun z => h.2.2 (g.free q h.2.1 p h.1 z).symm⟩
theorem srt_apart {L : List Lp} (g : Good L) : (srtL ((Wt L).map (·.2))).Pairwise fun x y => ¬ x <+: y ∧ ¬ y <+: x := ((srtL_perm _).pairwise_iff (fun h => ⟨h.2, h.1⟩)).mpr (words_apart g)
theorem no_front {K : List (List Int)} (h : K.Pairwise fun x y => ¬ x <+: y ∧ ¬ y <+: x) {k : Nat} (h0 : 1 ≤ k) (hk : k < K.length) : (K[k]).take (K[k - 1]).length ≠ K[k - 1] := fun e => by
  have := (List.pairwise_iff_getElem.mp h (k - 1) k (by omega) hk (by omega)).1
  exact this ⟨(K[k]).drop (K[k - 1]).length, by
    conv => lhs; rw [← e]
    rw [List.length_take]
    have hl := congrArg List.length e
    rw [List.length_take] at hl
    rw [hl]
    exact List.take_append_drop _ _⟩

end K09.Lw

namespace K09.Lw
open VH K09
open K09.Co
theorem appAll_W : ∀ W : List NK, (∀ p ∈ W, p.2.length ≤ 256) → ∃ es, VL.appAll 1 (W.map (nlD true)) = some es
  | [], _ => ⟨[], rfl⟩
  | p :: W, h => by
    obtain ⟨es, e⟩ := appAll_W W fun x hx => h x (List.mem_cons_of_mem _ hx)
    have hp := h p List.mem_cons_self
    refine ⟨.node .tup false [.int p.1, .node .lst true (p.2.map D.int ++ [.int 1])] :: es, ?_⟩
    show (if (p.2.map D.int).length < 16777216 then (match VL.appAll 1 (W.map (nlD true)) with
      | some es => some (.node .tup false [.int p.1, .node .lst true (p.2.map D.int ++ [.int 1])] :: es)
      | none => none) else none) = _
    rw [if_pos (by rw [List.length_map]; omega), e]
abbrev G8 (L : List Lp) (du fo wo k si bi : Option D) : Rho := [some (PL false L), some (PL true L), du, fo, wo, k, si, bi]
theorem good_ok {L : List Lp} (h : GI L) : F__law_good [PL false L] = .ok (.bl true) := by
  have hf := h.few
  let R0 : Rho := [some (PL false L), none, none, none, none, none, none, none]
  have lo := VH.listOf_go (fa := cVar 0) (x := .loc 0) (o := false) (k := .lst) (xs := L.map pl) (xs' := L.map pl) (r := R0) (VL.cvar_loc rfl rfl) rfl rfl inferInstance (VH.touch_l (o := false) (k := .lst) (ys := L.map pl) rfl inferInstance)
  let R1 := G8 L none none none none none none
  have s1 := VH.asg_go (i := 1) (VH.set_val lo) (r := R0) (r2 := R1) rfl
  have t1 := not_let (L := L) (r := R1) (i := 0) hf rfl
  unfold F__law_good f__law_good
  by_cases hn : letP L
  · have g := h.good hn
    have hW := Wt_word g.le
    have hWl := Wt_len L
    rw [decide_eq_true hn] at t1
    have c2 := call_lwords g (r := R1) (i := 0) rfl
    let W := Wt L
    have s2 := VH.asg_go (i := 2) (VH.set_val c2) (r2 := G8 L (some (WL true false W)) none none none none none) rfl
    have c3 := VH.call_go (F := F_words_by) (n := 1) (xs := [.loc 1]) (ds := [PL true L]) (ds' := [PL false L]) (fs := cCons (cVar 1) cNil) (r := G8 L (some (WL true false W)) none none none none none) (VH.cons_ok (VL.cvar_loc rfl rfl) (VH.nil_ok _)) rfl ⟨by show [frz (PL true L)] = _; rw [frz_PL]⟩ rfl (words_ok L hf g.le g.fit) ⟨by
      show (true && noLs (W.map (nlD true))) = true
      have : ∀ W : List NK, noLs (W.map (nlD true)) = true := fun W => by
        induction W with
        | nil => rfl
        | cons p W ih =>
          show (noL (nlD true p) && noLs (W.map (nlD true))) = true
          rw [ih, show noL (nlD true p) = true from by
            show (noL (.node .lst true (p.2.map D.int)) && true) = true
            rw [show noL (.node .lst true (p.2.map D.int)) = true from noL_lints _]
            rfl]
          rfl
      rw [this]
      rfl⟩
    let P := fun (o2 : Bool) (wo k : Option D) => G8 L (some (WL o2 false W)) (some (WL true true W)) wo k none none
    have s3 := VH.asg_go (i := 3) (VH.set_val c3) (r2 := P true none none) rfl
    have u1 := VH.call_go (F := F__law_shaped) (n := 1) (xs := [.loc 3]) (ds := [WL true true W]) (ds' := [WL false false W]) (fs := cCons (cVar 3) cNil) (r := P true none none) (VH.cons_ok (VL.cvar_loc rfl rfl) (VH.nil_ok _)) rfl ⟨by show [frz (WL true true W)] = _; rw [frz_WL]⟩ rfl (shaped_ok W hW (by show (Wt L).length < _; omega)) ⟨rfl⟩
    have u2 := VH.neD_go (fa := cVar 3) (fb := cVar 2) (x := .loc 3) (y := .loc 2) (r := P true none none) (VL.cvar_loc rfl rfl) (VL.cvar_loc rfl rfl) rfl rfl (VL.neD_same (fp_WL true true W) (by decide) (py_WL true true true false W))
    have u3 := VH.neD_go (fa := cVar 1) (fb := cVar 0) (x := .loc 1) (y := .loc 0) (r := P true none none) (VL.cvar_loc rfl rfl) (VL.cvar_loc rfl rfl) rfl rfl (VL.neD_same (fp_PL true L) (by decide) rfl)
    have it2 := VH.it_lstG (fa := cVar 2) (k := .lst) (o := false) (ds := W.map (nlD false)) (VH.set_loc (r := P true none none) (i := 2) (d := WL true false W) rfl rfl ⟨frz_WL _ _ _⟩ (r1 := P false none none) rfl) rfl
    have lc := VH.lc_all (α := NK) (enc := nlD false) (g := fun p => VL.il false p.2) (t := .tp [6, 7]) (fe := cVar 7) (vs := [6, 7]) (r0 := P false none none) W it2 rfl (by show (Wt L).length < _; omega) (fun p _ => ⟨((P false none none).set 6 (some (.int p.1))).set 7 (some (VL.il false p.2)), rfl, ((P false none none).set 6 (some (.int p.1))).set 7 (some (VL.il false p.2)), VH.set_any (i := 7) rfl (by show D.node .lst false (frzs _) = _; rw [frzs_ints]), rfl⟩)
    have el : (W.map fun p => VL.il false p.2) = (W.map (·.2)).map (VL.il false) := by rw [List.map_map]; rfl
    rw [el] at lc
    have so := VL.sortedL_ok lc
    have ap := srt_apart g
    have lK : (srtL (W.map (·.2))).length = L.length := by rw [(srtL_perm _).length_eq, List.length_map]; exact hWl
    have ap : (srtL (W.map (·.2))).Pairwise fun x y => ¬ x <+: y ∧ ¬ y <+: x := ap
    generalize srtL (W.map (·.2)) = K at so ap lK
    have s4 := VH.asg_go (i := 4) (VH.set_val so) (r2 := P false (some (Nd true (K.map (VL.il false)))) none) rfl
    let Q := fun (k : Option D) => P false (some (Nd true (K.map (VL.il false)))) k
    have l4 := VH.lenE_go (fa := cVar 4) (f := VL.il false) (xs := K) (k := .lst) (o := true) (x := .loc 4) (r := Q none) (VL.cvar_loc rfl rfl) rfl rfl
    have it5 := VH.it_rng2 (fa := cC (.int 1)) (n := 1) (r := Q none) rfl l4 (by decide) (by unfold within; exact decide_eq_true (by omega))
    have fil : ∀ x : List Int, frz (VL.il false x) = VL.il false x := fun x => by
      show D.node .lst false (frzs _) = _
      rw [frzs_ints]
    have fK : frzs (K.map (VL.il false)) = K.map (VL.il false) := by
      rw [frzs_map, List.map_map]
      exact List.map_congr_left fun x _ => fil x
    obtain ⟨y, e5⟩ := forL_look (v := 5) (f := cIfS (cBin gEq (cSl (cBin gIx (cVar 4) (cVar 5)) none (some (cB (b1 lenD) (cCons (cBin gIx (cVar 4) (cBin VL.gSub (cVar 5) (cC (.int 1)))) cNil)))) (cBin gIx (cVar 4) (cBin VL.gSub (cVar 5) (cC (.int 1))))) (cRet (cC (.bl false))) cSkip) (r0 := Q none) (rngD 1 1 (((K.length : Nat) : Int) - 1).toNat) (fun d hd => by
      obtain ⟨i, hi, rfl⟩ := List.mem_map.mp hd
      have hi := List.mem_range.mp hi
      have hk : i + 1 < K.length := by omega
      let S := Q (some (.int (1 + (i : Nat) * 1)))
      show _ = SO.nx S
      have at_ : ∀ (z : Int) (j : Nat) (hz : z = (j : Int)) (hj : j < K.length) (f : Ev), f S = .ok (.val (.int z)) S → cBin gIx (cVar 4) f S = .ok (.val (VL.il false K[j])) S := fun z j hz hj f hf => by
        subst hz
        exact VH.ix_go (n := (j : Int)) (x := .loc 4) (k := .lst) (o := true) (xs := K.map (VL.il false)) (d := VL.il false K[j]) (VL.cvar_loc rfl rfl) hf rfl rfl (VH.at_enc (f := VL.il false) hj) ⟨fil _⟩ (VH.touch_l (o := true) (k := .lst) (ys := K.map (VL.il false)) rfl ⟨fK⟩) (fun h => by cases h)
      have a1 := at_ (1 + (i : Nat) * 1) (i + 1) (by omega) hk (cVar 5) rfl
      have sb := VL.sub_ok (fa := cVar 5) (fb := cC (.int 1)) (i := 1 + (i : Nat) * 1) (j := 1) (r := S) rfl rfl
      have a0 := at_ (1 + (i : Nat) * 1 - 1) i (by omega) (by omega) _ sb
      have l0 := VH.lenE_go (f := D.int) (xs := K[i]) (k := .lst) (o := false) (x := .val (VL.il false K[i])) a0 rfl rfl
      have sl := VH.sl_ns (k := .lst) (o := false) (xs := (K[i + 1]).map D.int) (xs' := (K[i + 1]).map D.int) a1 rfl rfl inferInstance l0 rfl (by omega)
      rw [Int.toNat_natCast, ← List.map_take] at sl
      have nf := no_front ap (k := i + 1) (by omega) hk
      have nf : (K[i + 1]).take (K[i]).length ≠ K[i] := nf
      have q := VH.eqD_go sl a0 rfl rfl (VL.eq_lints (o := true) (o' := false) _ _)
      rw [decide_eq_false nf] at q
      exact VH.ifs_n q rfl rfl) none
    have s5 := VH.for_go (t := .nm 5) it5 e5
    obtain ⟨es, ea⟩ := appAll_W W hW
    have s6 : ∃ fo k6 k7, cForApp 3 [] 6 7 1 (Q y) = .nx (G8 L (some (WL false false W)) (some fo) (some (Nd true (K.map (VL.il false)))) y k6 k7) := by
      unfold cForApp
      show ∃ fo k6 k7, (match VL.appAll 1 (W.map (nlD true)) with
        | some es => if 7 < 8 then SO.nx (if W.map (nlD true) = [] then Q y else (((Q y).set 3 (some (.node .lst true es))).set 6 (some .any)).set 7 (some .any)) else .bad
        | none => .bad) = _
      rw [ea]
      by_cases h0 : W.map (nlD true) = []
      · refine ⟨WL true true W, none, none, ?_⟩
        show (if 7 < 8 then SO.nx (if W.map (nlD true) = [] then Q y else _) else .bad) = _
        rw [if_pos (by decide), if_pos h0]
      · refine ⟨.node .lst true es, some .any, some .any, ?_⟩
        show (if 7 < 8 then SO.nx (if W.map (nlD true) = [] then Q y else _) else .bad) = _
        rw [if_pos (by decide), if_neg h0]
        rfl
    obtain ⟨fo, k6, k7, s6⟩ := s6
    let E := G8 L (some (WL false false W)) (some fo) (some (Nd true (K.map (VL.il false)))) y k6 k7
    have c9 := VH.call_go (F := F_words_by) (n := 1) (xs := [.loc 1]) (ds := [PL true L]) (ds' := [PL false L]) (fs := cCons (cVar 1) cNil) (r := E) (VH.cons_ok (VL.cvar_loc rfl rfl) (VH.nil_ok _)) rfl ⟨by show [frz (PL true L)] = _; rw [frz_PL]⟩ rfl (words_ok L hf g.le g.fit) ⟨by
      show (true && noLs (W.map (nlD true))) = true
      have : ∀ W : List NK, noLs (W.map (nlD true)) = true := fun W => by
        induction W with
        | nil => rfl
        | cons p W ih =>
          show (noL (nlD true p) && noLs (W.map (nlD true))) = true
          rw [ih, show noL (nlD true p) = true from by
            show (noL (.node .lst true (p.2.map D.int)) && true) = true
            rw [show noL (.node .lst true (p.2.map D.int)) = true from noL_lints _]
            rfl]
          rfl
      rw [this]
      rfl⟩
    have q9 := VH.eqD_go (fb := cVar 2) (y := .loc 2) c9 (VL.cvar_loc rfl rfl) rfl rfl (VL.eqD_same (fp_WL true true W) (by decide) (py_WL true true false false W))
    exact VH.runF_go (r := R0) (x := .val (.bl true)) rfl (VH.seq_go s1 (VH.seq_go (VH.ifs_n t1 rfl rfl) (VH.seq_go s2 (VH.seq_go s3 (VH.seq_go (VH.ifs_n (VH.or_go (VH.not_t u1) (VH.or_go u2 u3)) rfl rfl) (VH.seq_go s4 (VH.seq_go s5 (VH.seq_go s6 (VH.ret_go q9))))))))) rfl
  · rw [decide_eq_false hn] at t1
    have cr := VH.call_go (F := F__law_refused) (n := 1) (xs := [.loc 1]) (ds := [PL true L]) (ds' := [PL false L]) (fs := cCons (cVar 1) cNil) (r := R1) (VH.cons_ok (VL.cvar_loc rfl rfl) (VH.nil_ok _)) rfl ⟨by show [frz (PL true L)] = _; rw [frz_PL]⟩ rfl (refused_ok h hn) ⟨rfl⟩
    have eq := VH.eqD_go (fa := cVar 1) (fb := cVar 0) (x := .loc 1) (y := .loc 0) (r := R1) (VL.cvar_loc rfl rfl) (VL.cvar_loc rfl rfl) rfl rfl (VL.eqD_same (fp_PL true L) (by decide) rfl)
    exact VH.runF_go (r := R0) (x := .val (.bl true)) rfl (VH.seq_go s1 (VL.seq_rt (VH.ifs_y t1 rfl (VH.ret_go (VH.and_go cr eq))))) rfl
theorem call_good {L : List Lp} (h : GI L) {r : Rho} {i : Nat} {o : Bool} (hi : r[i]? = some (some (PL o L))) : cCall 1 F__law_good (cCons (cVar i) cNil) r = .ok (.val (.bl true)) r :=
  VH.call_go (F := F__law_good) (n := 1) (xs := [.loc i]) (ds := [PL o L]) (ds' := [PL false L]) (VH.cons_ok (VL.cvar_loc hi rfl) (VH.nil_ok _)) (by
    show (match opd r (.loc i), opds r [] with | some d, some ds => some (d :: ds) | _, _ => none) = _
    rw [VL.opd_loc' hi]; rfl) ⟨by show [frz (PL o L)] = _; rw [frz_PL]⟩ rfl (good_ok h) ⟨rfl⟩
theorem gi_take {L : List Lp} {z : Int} (d : Dr L z) (hl : L.length ≤ 60) (m : Nat) : GI (L.take m) := by
  have dt : Dr (L.take m) z := ⟨fun p hp => d.pos p (List.mem_of_mem_take hp), fun p hp => d.lo p (List.mem_of_mem_take hp), d.up.sublist (List.take_sublist _ _)⟩
  have hm : (L.take m).length < 10000 := by rw [List.length_take]; omega
  exact ⟨hm, fun h => mk_good dt h hm⟩
abbrev V5 (ns : List Int) (o : Bool) (L : List Lp) (m : Nat) (so no : Option D) : Rho := [some (script ns), some (PL o L), some (nt m), so, no]
noncomputable abbrev whE : Ev := cAnd (cBin gLt (cVar 2) (cB (b1 lenD) (cCons (cVar 1) cNil))) (cCall 1 F__law_let (cCons (cSl (cVar 1) none (some (cBin gAdd (cVar 2) (cC (.int 1))))) cNil))
theorem wh_loop (ns : List Int) {L : List Lp} (hl : L.length ≤ 60) : ∀ (q m f : Nat), L.length = m + q → q < f → ∃ m', whileL whE (cAsg (.nm 2) (cBin gAdd (cVar 2) (cC (.int 1)))) f (V5 ns true L m none none) = .nx (V5 ns true L m' none none)
  | q, m, 0, _, h => absurd h (Nat.not_lt_zero _)
  | q, m, f + 1, hm, hq => by
    let R := V5 ns true L m none none
    have ln := VH.lenE_go (fa := cVar 1) (f := pl) (xs := L) (k := .lst) (o := true) (x := .loc 1) (r := R) (VL.cvar_loc rfl rfl) rfl rfl
    have lt := VL.lt_ok (fa := cVar 2) (i := ((m : Nat) : Int)) (r := R) rfl ln
    have ad := VL.add_ok (fa := cVar 2) (fb := cC (.int 1)) (i := ((m : Nat) : Int)) (j := 1) (r := R) rfl rfl
    rw [show ((m : Nat) : Int) + 1 = ((m + 1 : Nat) : Int) by omega] at ad
    have sl := VH.sl_ns (fa := cVar 1) (fh := cBin gAdd (cVar 2) (cC (.int 1))) (x := .loc 1) (k := .lst) (o := true) (xs := L.map pl) (xs' := L.map pl) (r := R) (VL.cvar_loc rfl rfl) rfl rfl inferInstance ad (VH.touch_l (o := true) (k := .lst) (ys := L.map pl) rfl inferInstance) (by omega)
    rw [Int.toNat_natCast, ← List.map_take] at sl
    have ca := VH.call_go (F := F__law_let) (n := 1) (xs := [.val (PL true (L.take (m + 1)))]) (ds := [PL true (L.take (m + 1))]) (ds' := [PL false (L.take (m + 1))]) (fs := cCons (cSl (cVar 1) none (some (cBin gAdd (cVar 2) (cC (.int 1))))) cNil) (r := R) (VH.cons_ok sl (VH.nil_ok _)) rfl ⟨by show [frz (PL true _)] = _; rw [frz_PL]⟩ rfl (let_ok (L.take (m + 1)) (by rw [List.length_take]; omega)) ⟨rfl⟩
    by_cases h1 : m < L.length
    · rw [decide_eq_true (by omega)] at lt
      have t := VH.and_go lt ca
      by_cases h2 : letP (L.take (m + 1))
      · rw [decide_eq_true h2] at t
        obtain ⟨m', e⟩ := wh_loop ns hl (q - 1) (m + 1) f (by omega) (by omega)
        exact ⟨m', VH.wh_y t rfl (VH.asg_go (i := 2) (VH.set_val ad) (r2 := V5 ns true L (m + 1) none none) rfl) e⟩
      · rw [decide_eq_false h2] at t
        exact ⟨m, VH.wh_n t rfl⟩
    · rw [decide_eq_false (by omega)] at lt
      exact ⟨m, VH.wh_n (VH.and_no lt) rfl⟩
theorem law_plain0 (ns : List Int) (hl : ns.length ≤ 63) : F_law [script ns] = .ok (.bl true) := by
  obtain ⟨L, z, fd, dr, hz, hL, hL0⟩ := drawn_ok ns hl
  obtain ⟨X, f0, hx, h8⟩ := Ct.text_ok ns hl
  have h8 : Ok8 X := h8
  have hcl := cl_len256 X
  have g := Hf.LL_good (Ct.cl X) hcl (fun p hp => (cl_snd p hp).1) (by rw [cl_fst]; exact sgs_nd X)
  have f2 : F_counts_of [.node .lst false (X.map .int)] = .ok (.node .lst true ((Ct.cl X).map VL.pr)) := Ct.counts_ok X (by omega) fun t ht => h8 t ht
  have f3 : F_least_lengths [.node .lst false ((Ct.cl X).map VL.pr)] = .ok (PL true (Hf.LL (Ct.cl X))) := by
    have := Hf.least_ok (Ct.cl X) (by omega)
    rw [Hf.LL_pl] at this
    exact this
  have gX : GI (Hf.LL (Ct.cl X)) := ⟨g.few, fun _ => g⟩
  generalize Hf.LL (Ct.cl X) = M at f3 gX
  generalize Ct.cl X = cs at f2 f3
  have frS : frz (script ns) = script ns := by
    show D.node .rd false (frzs (ns.map D.int)) = _
    rw [frzs_ints]; rfl
  let R0 : Rho := startR 5 [script ns]
  have c1 := VH.call_go (F := F__law_drawn_lengths) (n := 2) (xs := [.loc 0, .val (.int 60)]) (ds := [script ns, .int 60]) (ds' := [script ns, .int 60]) (fs := cCons (cVar 0) (cCons (cC (.int 60)) cNil)) (r := R0) (VH.cons_ok (VL.cvar_loc rfl rfl) (VH.cons_ok rfl (VH.nil_ok _))) rfl ⟨by show [frz (script ns), _] = _; rw [frS]; rfl⟩ rfl fd ⟨by
    show (true && noLs (L.map pl)) = true
    rw [noLs_enc (fun _ => rfl)]
    rfl⟩
  have s1 := VH.asg_go (i := 1) (VH.set_val c1) (r2 := [some (script ns), some (PL true L), none, none, none]) rfl
  have s2 : cAsg (.nm 2) (cC (.int 0)) [some (script ns), some (PL true L), none, none, none] = .nx (V5 ns true L 0 none none) := rfl
  obtain ⟨m, s3⟩ := wh_loop ns hL L.length 0 fuel (by omega) (VH.lt_fuel (by omega))
  let P := fun (o : Bool) (so no : Option D) => V5 ns o L m so no
  have slc : ∀ (o : Bool) (f : Ev) (j : Nat), f (P o none none) = .ok (.val (nt j)) (P o none none) → cSl (cVar 1) none (some f) (P o none none) = .ok (.val (PL true (L.take j))) (P o none none) := fun o f j hf => by
    have sl := VH.sl_ns (fa := cVar 1) (fh := f) (j := ((j : Nat) : Int)) (x := .loc 1) (k := .lst) (o := o) (xs := L.map pl) (xs' := L.map pl) (r := P o none none) (VL.cvar_loc rfl rfl) rfl rfl inferInstance hf (VH.touch_l (o := o) (k := .lst) (ys := L.map pl) rfl inferInstance) (by omega)
    rw [Int.toNat_natCast, ← List.map_take] at sl
    exact sl
  have a1 := slc true (cVar 2) m rfl
  have a2 : cSet (cVar 1) (P true none none) = .ok (.val (PL false L)) (P false none none) := VH.set_loc (d := PL true L) rfl rfl ⟨frz_PL _ _⟩ rfl
  have ad := VL.add_ok (fa := cVar 2) (fb := cC (.int 1)) (i := ((m : Nat) : Int)) (j := 1) (r := P false none none) rfl rfl
  rw [show ((m : Nat) : Int) + 1 = ((m + 1 : Nat) : Int) by omega] at ad
  have a3 := slc false _ (m + 1) ad
  have ln := VH.lenE_go (fa := cVar 1) (f := pl) (xs := L) (k := .lst) (o := false) (x := .loc 1) (r := P false none none) (VL.cvar_loc rfl rfl) rfl rfl
  have dv := VL.div_ok (fb := cC (.int 2)) (j := 2) ln rfl (by decide) (by decide)
  rw [show ((L.length : Nat) : Int) / 2 = ((L.length / 2 : Nat) : Int) from rfl] at dv
  have a4 := slc false _ (L.length / 2) dv
  have a5 := slc false (cC (.int 1)) 1 rfl
  let ds : List D := [PL true (L.take m), PL false L, PL true (L.take (m + 1)), PL true (L.take (L.length / 2)), PL true (L.take 1), PL true []]
  have l6 := VH.lst_ok (ds := ds) (VH.cons_ok (VH.set_val a1) (VH.cons_ok a2 (VH.cons_ok (VH.set_val a3) (VH.cons_ok (VH.set_val a4) (VH.cons_ok (VH.set_val a5) (VH.cons_ok (VH.set_val (show cLst cNil (P false none none) = .ok (.val (PL true [])) (P false none none) from rfl)) (VH.nil_ok _))))))) rfl (Nat.le_of_ble_eq_true rfl)
  have all : ∀ d ∈ ds, ∃ (o : Bool) (Y : List Lp), d = PL o Y ∧ GI Y := fun d hd => by
    have hd : d = PL true (L.take m) ∨ d = PL false L ∨ d = PL true (L.take (m + 1)) ∨ d = PL true (L.take (L.length / 2)) ∨ d = PL true (L.take 1) ∨ d = PL true [] := by simpa only [ds, List.mem_cons, List.not_mem_nil, or_false] using hd
    rcases hd with e | e | e | e | e | e
    · exact ⟨_, _, e, gi_take dr hL m⟩
    · exact ⟨_, _, e, by have := gi_take dr hL L.length; rw [List.take_of_length_le (Nat.le_refl _)] at this; exact this⟩
    · exact ⟨_, _, e, gi_take dr hL _⟩
    · exact ⟨_, _, e, gi_take dr hL _⟩
    · exact ⟨_, _, e, gi_take dr hL 1⟩
    · exact ⟨_, _, e, by have := gi_take dr hL 0; rw [List.take_zero] at this; exact this⟩
  obtain ⟨y, e4⟩ := forL_look (v := 3) (f := cIfS (cNot (cCall 1 F__law_good (cCons (cVar 3) cNil))) (cRet (cC (.bl false))) cSkip) (r0 := P false none none) ds (fun d hd => by
    obtain ⟨o, Y, rfl, gY⟩ := all d hd
    exact VH.ifs_n (VH.not_t (call_good gY (i := 3) (o := o) rfl)) rfl rfl) none
  have s4 := VH.for_go (t := .nm 3) (VH.it_lstG (VH.set_val l6) rfl) e4
  have s5 : cAsg (.nm 4) (cLst cNil) (P false y none) = .nx (P false y (some (PL true []))) := rfl
  have gE : letP [] := ⟨fun p hp => (by cases hp), Nat.zero_le _⟩
  have cE := VH.call_go (F := F_words_by) (n := 1) (xs := [.loc 4]) (ds := [PL true []]) (ds' := [PL false []]) (d := .node .lst true ((Wt []).map (nlD true))) (fs := cCons (cVar 4) cNil) (r := P false y (some (PL true []))) (VH.cons_ok (VL.cvar_loc rfl rfl) (VH.nil_ok _)) rfl ⟨by show [frz (PL true [])] = _; rw [frz_PL]⟩ rfl (words_ok [] (by decide) gE.1 gE.2) ⟨by
    have h0 : (Wt []) = [] := List.eq_nil_of_length_eq_zero (Wt_len [])
    rw [h0]
    rfl⟩
  have s6 := VL.appV_ok (c := 1) cE (by rw [List.length_map, Wt_len]; decide)
  have t7 := VH.neD_go (fa := cVar 4) (fb := cLst cNil) (x := .loc 4) (y := .val (PL true [])) (r := P false y (some (PL true []))) (VL.cvar_loc rfl rfl) rfl rfl rfl (VL.neD_same (fp_PL true []) (by decide) rfl)
  let E := P false y (some (PL true []))
  have cX := VH.call_go (F := F__law_text) (n := 1) (xs := [.loc 0]) (ds := [script ns]) (ds' := [script ns]) (fs := cCons (cVar 0) cNil) (r := E) (VH.cons_ok (VL.cvar_loc rfl rfl) (VH.nil_ok _)) rfl ⟨by show [frz (script ns)] = _; rw [frS]⟩ rfl f0 ⟨noL_lints _⟩
  have cC' := VH.call_go (F := F_counts_of) (n := 1) (xs := [.val (.node .lst true (X.map .int))]) (ds := [.node .lst true (X.map .int)]) (ds' := [.node .lst false (X.map .int)]) (r := E) (VH.cons_ok cX (VH.nil_ok _)) rfl ⟨by
    show [D.node .lst false (frzs (X.map D.int))] = _
    rw [frzs_ints]⟩ rfl f2 ⟨by
    show (true && noLs (cs.map VL.pr)) = true
    rw [noLs_enc (fun _ => rfl)]
    rfl⟩
  have cL := VH.call_go (F := F_least_lengths) (n := 1) (xs := [.val (.node .lst true (cs.map VL.pr))]) (ds := [.node .lst true (cs.map VL.pr)]) (ds' := [.node .lst false (cs.map VL.pr)]) (r := E) (VH.cons_ok cC' (VH.nil_ok _)) rfl ⟨by
    show [D.node .lst false (frzs (cs.map VL.pr))] = _
    rw [frzs_pr]⟩ rfl f3 ⟨by
    show (true && noLs (M.map pl)) = true
    rw [noLs_enc (fun _ => rfl)]
    rfl⟩
  have cG := VH.call_go (F := F__law_good) (n := 1) (xs := [.val (PL true M)]) (ds := [PL true M]) (ds' := [PL false M]) (r := E) (VH.cons_ok cL (VH.nil_ok _)) rfl ⟨by show [frz (PL true M)] = _; rw [frz_PL]⟩ rfl (good_ok gX) ⟨rfl⟩
  unfold F_law f_law
  exact VH.runF_go (r := R0) (x := .val (.bl true)) rfl (VH.seq_go s1 (VH.seq_go s2 (VH.seq_go s3 (VH.seq_go s4 (VH.seq_go s5 (VH.seq_go s6 (VH.seq_go (VH.ifs_n t7 rfl rfl) (VH.ret_go cG)))))))) rfl

end K09.Lw
namespace K09
open VL
theorem law_plain (ns : List Int) (hl : ns.length ≤ 63) : F_law [script ns] = .ok (.bl true) := Lw.law_plain0 ns hl
end K09

namespace K09
local macro_rules | `(tactic| walk_at "S") => `(tactic| exact ⟨⟨rfl, rfl, rfl, by decide +kernel, rfl, by decide +kernel, by decide +kernel⟩, rfl, by decide +kernel, by decide +kernel, by decide +kernel⟩) -- own
def top (i : Nat) : Stmt := PySem.Challenge.pw_packhall_k09_words_by_lengths.main.body.getD i (.Pass ⟨0, 0, 0, 0⟩)
abbrev s__law_decks : Stmt := top 24
def N__law_decks : List Str := ["script", "cells", "k"]
theorem sc__law_decks : FnQ N__law_decks ["script", "cells"] ["range", "len"] ["script"] (defScope s__law_decks) := by walk_at "S"
abbrev s__law_draw : Stmt := top 23
def N__law_draw : List Str := ["deck", "many", "found", "number"]
theorem sc__law_draw : FnQ N__law_draw N__law_draw [] ["deck", "many"] (defScope s__law_draw) := by walk_at "S"
abbrev s__law_drawn_lengths : Stmt := top 26
def N__law_drawn_lengths : List Str := ["script", "most", "lengths", "sign", "deck"]
theorem sc__law_drawn_lengths : FnQ N__law_drawn_lengths N__law_drawn_lengths ["_law_decks", "_law_draw"] ["script", "most"] (defScope s__law_drawn_lengths) := by walk_at "S"
abbrev s__law_words : Stmt := top 28
def N__law_words : List Str := ["lengths", "found", "bits", "length", "sign", "at"]
theorem sc__law_words : FnQ N__law_words N__law_words ["sorted", "list", "len"] ["lengths"] (defScope s__law_words) := by walk_at "S"
abbrev s_room_of : Stmt := top 19
def N_room_of : List Str := ["length", "found", "k"]
theorem sc_room_of : FnQ N_room_of N_room_of ["WHOLE", "range"] ["length"] (defScope s_room_of) := by walk_at "S"
abbrev s_need_words : Stmt := top 20
def N_need_words : List Str := ["lengths", "sign", "length"]
theorem sc_need_words : FnQ N_need_words ["lengths"] ["NoCode", "sum", "WHOLE"] ["lengths"] (defScope s_need_words) := by walk_at "S"
abbrev s_figures_of : Stmt := top 10
def N_figures_of : List Str := ["n", "found"]
theorem sc_figures_of : FnQ N_figures_of N_figures_of [] ["n"] (defScope s_figures_of) := by walk_at "S"
abbrev s_low_bits : Stmt := top 11
def N_low_bits : List Str := ["n", "k", "found"]
theorem sc_low_bits : FnQ N_low_bits N_low_bits ["NoNumber", "figures_of", "len"] ["n", "k"] (defScope s_low_bits) := by walk_at "S"
abbrev s_words_by : Stmt := top 21
def N_words_by : List Str := ["lengths", "found", "number", "ahead", "length", "sign", "k"]
theorem sc_words_by : FnQ N_words_by N_words_by ["need_words", "sorted", "range", "low_bits"] ["lengths"] (defScope s_words_by) := by walk_at "S"
abbrev s__law_let : Stmt := top 27
def N__law_let : List Str := ["lengths", "whole", "total", "sign", "length", "part", "k"]
theorem sc__law_let : FnQ N__law_let N__law_let ["max", "range"] ["lengths"] (defScope s__law_let) := by walk_at "S"
abbrev s__law_refused : Stmt := top 29
def N__law_refused : List Str := ["lengths", "caught", "e"]
theorem sc__law_refused : FnQ N__law_refused N__law_refused ["words_by", "isinstance", "NoCode", "ValueError", "Broken", "NoName", "NoNumber", "NoPlace", "NoRow", "NoText"] ["lengths"] (defScope s__law_refused) := by walk_at "S"
abbrev s__law_shaped : Stmt := top 30
def N__law_shaped : List Str := ["found", "word", "one"]
theorem sc__law_shaped : FnQ N__law_shaped ["found", "word"] ["isinstance", "list", "tuple", "len"] ["found"] (defScope s__law_shaped) := by walk_at "S"
abbrev s__law_good : Stmt := top 31
def N__law_good : List Str := ["lengths", "handed", "due", "found", "words", "k", "sign", "bits"]
theorem sc__law_good : FnQ N__law_good N__law_good ["list", "_law_let", "_law_refused", "_law_words", "words_by", "_law_shaped", "sorted", "range", "len"] ["lengths"] (defScope s__law_good) := by walk_at "S"
abbrev s_lengths_by : Stmt := top 17
def N_lengths_by : List Str := ["counts", "joinings", "depths", "k", "number"]
theorem sc_lengths_by : FnQ N_lengths_by N_lengths_by ["len", "range"] ["counts", "joinings"] (defScope s_lengths_by) := by walk_at "S"
abbrev s_joinings_of : Stmt := top 16
def N_joinings_of : List Str := ["counts", "things", "found", "light", "one", "heavy", "other", "number", "sign", "many"]
theorem sc_joinings_of : FnQ N_joinings_of ["counts", "things", "found", "light", "one", "heavy", "other"] ["sorted", "enumerate", "len", "min", "max"] ["counts"] (defScope s_joinings_of) := by walk_at "S"
abbrev s_least_lengths : Stmt := top 18
def N_least_lengths : List Str := ["counts"]
theorem sc_least_lengths : FnQ N_least_lengths N_least_lengths ["lengths_by", "joinings_of"] ["counts"] (defScope s_least_lengths) := by walk_at "S"
abbrev s_counts_of : Stmt := top 15
def N_counts_of : List Str := ["text", "found", "sign"]
theorem sc_counts_of : FnQ N_counts_of N_counts_of ["sorted"] ["text"] (defScope s_counts_of) := by walk_at "S"
abbrev s__law_text : Stmt := top 25
def N__law_text : List Str := ["script", "text", "deck", "wide", "low", "k"]
theorem sc__law_text : FnQ N__law_text ["script", "text", "deck", "wide", "low"] ["_law_decks", "_law_draw", "range"] ["script"] (defScope s__law_text) := by walk_at "S"
abbrev s_law : Stmt := top 32
def N_law : List Str := ["script", "lengths", "many", "some", "none"]
theorem sc_law : FnQ N_law N_law ["_law_drawn_lengths", "len", "_law_let", "_law_good", "words_by", "least_lengths", "counts_of", "_law_text"] ["script"] (defScope s_law) := by walk_at "S"
def S__law_decks_1 : List (Str × NameKind) := [(".0", .local), ("k", .local), ("len", .globalImplicit), ("cells", .free), ("script", .free)]
def S__law_words_1 : List (Str × NameKind) := [(".0", .local), ("sign", .local), ("length", .local)]
def S_need_words_1 : List (Str × NameKind) := [(".0", .local), ("sign", .local), ("length", .local), ("LONGEST", .globalImplicit)]
def S_need_words_2 : List (Str × NameKind) := [(".0", .local), ("sign", .local), ("length", .local), ("room_of", .globalImplicit)]
def S_words_by_1 : List (Str × NameKind) := [(".0", .local), ("sign", .local), ("length", .local)]
def S__law_let_1 : List (Str × NameKind) := [(".0", .local), ("sign", .local), ("length", .local)]
def S__law_shaped_1 : List (Str × NameKind) := [(".0", .local), ("one", .local), ("isinstance", .globalImplicit), ("int", .globalImplicit), ("bool", .globalImplicit)]
def S__law_good_1 : List (Str × NameKind) := [(".0", .local), ("sign", .local), ("bits", .local)]
def S_lengths_by_1 : List (Str × NameKind) := [(".0", .local), ("k", .local), ("max", .globalImplicit), ("counts", .free), ("depths", .free)]
def S_joinings_of_1 : List (Str × NameKind) := [(".0", .local), ("number", .local), ("sign", .local), ("many", .local)]
def S__law_text_1 : List (Str × NameKind) := [(".0", .local), ("k", .local), ("_law_draw", .globalImplicit), ("deck", .free), ("low", .free), ("wide", .free)]
theorem i__law_decks_k : FNi N__law_decks 2 "k" := rfl
theorem k__law_decks_1_k : List.lookup ("k" : Str) S__law_decks_1 = some .local := by decide +kernel
theorem k__law_decks_1_cells : List.lookup ("cells" : Str) S__law_decks_1 = some .free := by decide +kernel
theorem k__law_decks_1_script : List.lookup ("script" : Str) S__law_decks_1 = some .free := by decide +kernel
theorem k__law_decks_1_len : List.lookup ("len" : Str) S__law_decks_1 = some .globalImplicit := by decide +kernel
theorem d__law_draw : FDb "_law_draw" := by decide +kernel
theorem k__law_words_1_length : List.lookup ("length" : Str) S__law_words_1 = some .local := by decide +kernel
theorem k__law_words_1_sign : List.lookup ("sign" : Str) S__law_words_1 = some .local := by decide +kernel
theorem v_sorted : bootBuiltins "sorted" = some (.builtin "sorted") := rfl
theorem nn_sorted : ("sorted" : Str) ≠ "__name__" := by decide +kernel
theorem v_list : bootBuiltins "list" = some (.type "list") := rfl
theorem nn_list : ("list" : Str) ≠ "__name__" := by decide +kernel
theorem i_need_words_length : FNi N_need_words 2 "length" := rfl
theorem k_need_words_1_length : List.lookup ("length" : Str) S_need_words_1 = some .local := by decide +kernel
theorem i_need_words_sign : FNi N_need_words 1 "sign" := rfl
theorem k_need_words_1_sign : List.lookup ("sign" : Str) S_need_words_1 = some .local := by decide +kernel
theorem k_need_words_1_LONGEST : List.lookup ("LONGEST" : Str) S_need_words_1 = some .globalImplicit := by decide +kernel
theorem d_LONGEST : FDb "LONGEST" := by decide +kernel
theorem k_need_words_2_length : List.lookup ("length" : Str) S_need_words_2 = some .local := by decide +kernel
theorem k_need_words_2_sign : List.lookup ("sign" : Str) S_need_words_2 = some .local := by decide +kernel
theorem k_need_words_2_room_of : List.lookup ("room_of" : Str) S_need_words_2 = some .globalImplicit := by decide +kernel
theorem d_room_of : FDb "room_of" := by decide +kernel
theorem v_sum : bootBuiltins "sum" = some (.builtin "sum") := rfl
theorem nn_sum : ("sum" : Str) ≠ "__name__" := by decide +kernel
theorem k_words_by_1_length : List.lookup ("length" : Str) S_words_by_1 = some .local := by decide +kernel
theorem k_words_by_1_sign : List.lookup ("sign" : Str) S_words_by_1 = some .local := by decide +kernel
theorem k__law_let_1_length : List.lookup ("length" : Str) S__law_let_1 = some .local := by decide +kernel
theorem k__law_let_1_sign : List.lookup ("sign" : Str) S__law_let_1 = some .local := by decide +kernel
theorem v_max : bootBuiltins "max" = some (.builtin "max") := rfl
theorem nn_max : ("max" : Str) ≠ "__name__" := by decide +kernel
theorem d_max : FDb "max" := by decide +kernel
theorem i__law_refused_e : FNi N__law_refused 2 "e" := rfl
theorem k__law_refused_e : FKl "e" s__law_refused := by decide +kernel
theorem k__law_refused_PackError : FKg "PackError" s__law_refused := by decide +kernel
theorem d_PackError : FDb "PackError" := by decide +kernel
theorem v_isinstance : bootBuiltins "isinstance" = some (.builtin "isinstance") := rfl
theorem nn_isinstance : ("isinstance" : Str) ≠ "__name__" := by decide +kernel
theorem v_ValueError : bootBuiltins "ValueError" = some (.type "ValueError") := rfl
theorem nn_ValueError : ("ValueError" : Str) ≠ "__name__" := by decide +kernel
theorem v_tuple : bootBuiltins "tuple" = some (.type "tuple") := rfl
theorem nn_tuple : ("tuple" : Str) ≠ "__name__" := by decide +kernel
theorem i__law_shaped_one : FNi N__law_shaped 2 "one" := rfl
theorem k__law_shaped_1_one : List.lookup ("one" : Str) S__law_shaped_1 = some .local := by decide +kernel
theorem k__law_shaped_1_int : List.lookup ("int" : Str) S__law_shaped_1 = some .globalImplicit := by decide +kernel
theorem v_int : bootBuiltins "int" = some (.type "int") := rfl
theorem nn_int : ("int" : Str) ≠ "__name__" := by decide +kernel
theorem d_int : FDb "int" := by decide +kernel
theorem k__law_shaped_1_isinstance : List.lookup ("isinstance" : Str) S__law_shaped_1 = some .globalImplicit := by decide +kernel
theorem k__law_shaped_1_bool : List.lookup ("bool" : Str) S__law_shaped_1 = some .globalImplicit := by decide +kernel
theorem v_bool : bootBuiltins "bool" = some (.type "bool") := rfl
theorem nn_bool : ("bool" : Str) ≠ "__name__" := by decide +kernel
theorem d_bool : FDb "bool" := by decide +kernel
theorem k__law_good_1_bits : List.lookup ("bits" : Str) S__law_good_1 = some .local := by decide +kernel
theorem k__law_good_1_sign : List.lookup ("sign" : Str) S__law_good_1 = some .local := by decide +kernel
theorem k_lengths_by_1_k : List.lookup ("k" : Str) S_lengths_by_1 = some .local := by decide +kernel
theorem k_lengths_by_1_counts : List.lookup ("counts" : Str) S_lengths_by_1 = some .free := by decide +kernel
theorem k_lengths_by_1_depths : List.lookup ("depths" : Str) S_lengths_by_1 = some .free := by decide +kernel
theorem k_lengths_by_1_max : List.lookup ("max" : Str) S_lengths_by_1 = some .globalImplicit := by decide +kernel
theorem i_joinings_of_many : FNi N_joinings_of 9 "many" := rfl
theorem k_joinings_of_1_many : List.lookup ("many" : Str) S_joinings_of_1 = some .local := by decide +kernel
theorem i_joinings_of_sign : FNi N_joinings_of 8 "sign" := rfl
theorem k_joinings_of_1_sign : List.lookup ("sign" : Str) S_joinings_of_1 = some .local := by decide +kernel
theorem i_joinings_of_number : FNi N_joinings_of 7 "number" := rfl
theorem k_joinings_of_1_number : List.lookup ("number" : Str) S_joinings_of_1 = some .local := by decide +kernel
theorem v_min : bootBuiltins "min" = some (.builtin "min") := rfl
theorem nn_min : ("min" : Str) ≠ "__name__" := by decide +kernel
theorem i__law_text_k : FNi N__law_text 5 "k" := rfl
theorem k__law_text_1_k : List.lookup ("k" : Str) S__law_text_1 = some .local := by decide +kernel
theorem k__law_text_1_low : List.lookup ("low" : Str) S__law_text_1 = some .free := by decide +kernel
theorem k__law_text_1_deck : List.lookup ("deck" : Str) S__law_text_1 = some .free := by decide +kernel
theorem k__law_text_1_wide : List.lookup ("wide" : Str) S__law_text_1 = some .free := by decide +kernel
theorem k__law_text_1__law_draw : List.lookup ("_law_draw" : Str) S__law_text_1 = some .globalImplicit := by decide +kernel
structure Txt (K : PySem.W.Frag) (mg : Str → Option Value) where
  C_PackError : Addr
  C_NoNumber : Addr
  C_NoCode : Addr
  C_NoPlace : Addr
  C_Broken : Addr
  C_NoText : Addr
  C_NoName : Addr
  C_NoRow : Addr
  cf_PackError : CF K mg "PackError" C_PackError
  cf_NoNumber : CF K mg "NoNumber" C_NoNumber
  cf_NoCode : CF K mg "NoCode" C_NoCode
  cf_NoPlace : CF K mg "NoPlace" C_NoPlace
  cf_Broken : CF K mg "Broken" C_Broken
  cf_NoText : CF K mg "NoText" C_NoText
  cf_NoName : CF K mg "NoName" C_NoName
  cf_NoRow : CF K mg "NoRow" C_NoRow
  rf_NoCode : RF K C_NoCode
  rf_NoNumber : RF K C_NoNumber
  ef : EF K
  su_0 : PySem.W.subIn K (.ref C_NoCode) (.ref C_PackError) = some true
  su_1 : PySem.W.subIn K (.ref C_NoCode) (.ref C_NoCode) = some true
  su_2 : PySem.W.subIn K (.ref C_NoCode) (.type "ValueError") = some true
  su_3 : PySem.W.subIn K (.ref C_NoCode) (.ref C_Broken) = some false
  su_4 : PySem.W.subIn K (.ref C_NoCode) (.ref C_NoName) = some false
  su_5 : PySem.W.subIn K (.ref C_NoCode) (.ref C_NoNumber) = some false
  su_6 : PySem.W.subIn K (.ref C_NoCode) (.ref C_NoPlace) = some false
  su_7 : PySem.W.subIn K (.ref C_NoCode) (.ref C_NoRow) = some false
  su_8 : PySem.W.subIn K (.ref C_NoCode) (.ref C_NoText) = some false
  su_9 : PySem.W.subIn K (.ref C_NoNumber) (.ref C_PackError) = some true
  su_10 : PySem.W.subIn K (.ref C_NoNumber) (.ref C_NoCode) = some false
  su_11 : PySem.W.subIn K (.ref C_NoNumber) (.type "ValueError") = some true
  su_12 : PySem.W.subIn K (.ref C_NoNumber) (.ref C_Broken) = some false
  su_13 : PySem.W.subIn K (.ref C_NoNumber) (.ref C_NoName) = some false
  su_14 : PySem.W.subIn K (.ref C_NoNumber) (.ref C_NoNumber) = some true
  su_15 : PySem.W.subIn K (.ref C_NoNumber) (.ref C_NoPlace) = some false
  su_16 : PySem.W.subIn K (.ref C_NoNumber) (.ref C_NoRow) = some false
  su_17 : PySem.W.subIn K (.ref C_NoNumber) (.ref C_NoText) = some false
  n_range : mg "range" = none
  n_len : mg "len" = none
  n_sorted : mg "sorted" = none
  n_list : mg "list" = none
  n_sum : mg "sum" = none
  n_max : mg "max" = none
  n_isinstance : mg "isinstance" = none
  n_ValueError : mg "ValueError" = none
  n_tuple : mg "tuple" = none
  n_int : mg "int" = none
  n_bool : mg "bool" = none
  n_enumerate : mg "enumerate" = none
  n_min : mg "min" = none
  g_WHOLE : KI mg "WHOLE" 115792089237316195423570985008687907853269984665640564039457584007913129639936
  g_LONGEST : KI mg "LONGEST" 256
  d__law_decks : DF K mg "_law_decks" "_law_decks" s__law_decks ["script"]
  d__law_draw : DF K mg "_law_draw" "_law_draw" s__law_draw ["deck", "many"]
  d__law_drawn_lengths : DF K mg "_law_drawn_lengths" "_law_drawn_lengths" s__law_drawn_lengths ["script", "most"]
  d__law_words : DF K mg "_law_words" "_law_words" s__law_words ["lengths"]
  d_room_of : DF K mg "room_of" "room_of" s_room_of ["length"]
  d_need_words : DF K mg "need_words" "need_words" s_need_words ["lengths"]
  d_figures_of : DF K mg "figures_of" "figures_of" s_figures_of ["n"]
  d_low_bits : DF K mg "low_bits" "low_bits" s_low_bits ["n", "k"]
  d_words_by : DF K mg "words_by" "words_by" s_words_by ["lengths"]
  d__law_let : DF K mg "_law_let" "_law_let" s__law_let ["lengths"]
  d__law_refused : DF K mg "_law_refused" "_law_refused" s__law_refused ["lengths"]
  d__law_shaped : DF K mg "_law_shaped" "_law_shaped" s__law_shaped ["found"]
  d__law_good : DF K mg "_law_good" "_law_good" s__law_good ["lengths"]
  d_lengths_by : DF K mg "lengths_by" "lengths_by" s_lengths_by ["counts", "joinings"]
  d_joinings_of : DF K mg "joinings_of" "joinings_of" s_joinings_of ["counts"]
  d_least_lengths : DF K mg "least_lengths" "least_lengths" s_least_lengths ["counts"]
  d_counts_of : DF K mg "counts_of" "counts_of" s_counts_of ["text"]
  d__law_text : DF K mg "_law_text" "_law_text" s__law_text ["script"]
  d_law : DF K mg "law" "law" s_law ["script"]
section
variable {P : Program} {w : World} {K : PySem.W.Frag} {mg : Str → Option Value} {base : Heap} (T : Txt K mg)
abbrev Txt.G : GX := ⟨fun i => match i with | 0 => T.C_PackError | 1 => T.C_NoNumber | 2 => T.C_NoCode | 3 => T.C_NoPlace | 4 => T.C_Broken | 5 => T.C_NoText | 6 => T.C_NoName | 7 => T.C_NoRow | _ => T.C_PackError, K, []⟩
theorem Txt.tab : AllT K T.G tab := ⟨rowC T.cf_NoCode T.rf_NoCode T.ef T.cf_PackError T.su_0,
    ⟨rowC T.cf_NoCode T.rf_NoCode T.ef T.cf_NoCode T.su_1,
    ⟨rowT T.cf_NoCode T.rf_NoCode T.ef T.su_2,
    ⟨rowC T.cf_NoCode T.rf_NoCode T.ef T.cf_Broken T.su_3,
    ⟨rowC T.cf_NoCode T.rf_NoCode T.ef T.cf_NoName T.su_4,
    ⟨rowC T.cf_NoCode T.rf_NoCode T.ef T.cf_NoNumber T.su_5,
    ⟨rowC T.cf_NoCode T.rf_NoCode T.ef T.cf_NoPlace T.su_6,
    ⟨rowC T.cf_NoCode T.rf_NoCode T.ef T.cf_NoRow T.su_7,
    ⟨rowC T.cf_NoCode T.rf_NoCode T.ef T.cf_NoText T.su_8,
    ⟨rowC T.cf_NoNumber T.rf_NoNumber T.ef T.cf_PackError T.su_9,
    ⟨rowC T.cf_NoNumber T.rf_NoNumber T.ef T.cf_NoCode T.su_10,
    ⟨rowT T.cf_NoNumber T.rf_NoNumber T.ef T.su_11,
    ⟨rowC T.cf_NoNumber T.rf_NoNumber T.ef T.cf_Broken T.su_12,
    ⟨rowC T.cf_NoNumber T.rf_NoNumber T.ef T.cf_NoName T.su_13,
    ⟨rowC T.cf_NoNumber T.rf_NoNumber T.ef T.cf_NoNumber T.su_14,
    ⟨rowC T.cf_NoNumber T.rf_NoNumber T.ef T.cf_NoPlace T.su_15,
    ⟨rowC T.cf_NoNumber T.rf_NoNumber T.ef T.cf_NoRow T.su_16,
    ⟨rowC T.cf_NoNumber T.rf_NoNumber T.ef T.cf_NoText T.su_17,
    trivial⟩⟩⟩⟩⟩⟩⟩⟩⟩⟩⟩⟩⟩⟩⟩⟩⟩⟩
theorem ok__law_decks : OkV P w base 1 T.d__law_decks T.G 1 F__law_decks :=
  fnV3 (N := N__law_decks) (fb := f__law_decks) sc__law_decks fun cdv A outer s H E C hr hp q =>
  (vss_cons (vs_s q hp (ve_slice rfl (ve_v q) vo_none (vo_some ve_int)))
  (vss_cons (vs_if (vt_cmp (os_eq hr.units) (ve_v q) (ve_lst va_nil) (nomark _)) (vss_one (vs_s q hp (ve_lst (va_cons (ve_set ve_int) va_nil)))) vss_nil)
  (vss_one (vs_ret (ve_lc rfl q.nd (own := [("k", 2)]) (vi_range1 (q.g 0) T.n_range (va_cons (ve_len T.n_len (q.g 1) (ve_v q)) va_nil)) (show BlkOk N__law_decks (defScope s__law_decks) _ _ from blkOk_by (by decide +kernel)) (pinVo hp [2]) (by decide) (fun _ _ _ _ _ => (vg_name q.nd i__law_decks_k (.inl (cv_own k__law_decks_1_k)) (pinV hp 2))) (fun _ _ _ _ _ => vts_nil) (fun _ _ _ _ _ => (ve_lst (va_cons (ve_set (ve_ix rfl (ve_var (q.n 1) (cv_free k__law_decks_1_cells) (q.d 1) (q.c 1)) (ve_var i__law_decks_k (.inl (cv_own k__law_decks_1_k)) (q.d 2) (q.c 2)) (fun _ _ => rfl))) (va_cons (ve_set (ve_bin os_mod (ve_len T.n_len (cv_gl k__law_decks_1_len) (ve_var (q.n 0) (cv_free k__law_decks_1_script) (q.d 0) (q.c 0))) ve_int)) (va_cons (ve_set (ve_bin os_mul ve_int (ve_var i__law_decks_k (.inl (cv_own k__law_decks_1_k)) (q.d 2) (q.c 2)))) va_nil))))))))))
theorem ok__law_draw : OkD P w base 1 T.d__law_draw (spQ T.G 0 1 F__law_draw) :=
  fnQ3 (N := N__law_draw) (fb := f__law_draw) sc__law_draw fun cdv A outer s H E C hr hp q =>
  (vss_cons (vs_if (vt_cmp (os_eq hr.units) (ve_ix rfl (ve_v q) ve_int (fun _ _ => rfl)) ve_int (nomark _)) (vss_cons (vs_set q.nd (q.n 2) (q.l 2) (pinQ hp 2 (by decide)) (ve_bin os_mod (ve_ix rfl (ve_v q) ve_int (fun _ _ => rfl)) (ve_v q)))
  (vss_cons (vs_setIx (q.n 0) (q.v 0) (q.d 0) (q.c 0) ve_int (ve_bin os_div (ve_ix rfl (ve_v q) ve_int (fun _ _ => rfl)) (ve_v q)))
  (vss_one (vs_ret (ve_v q))))) vss_nil)
  (vss_cons (vs_setIx (q.n 0) (q.v 0) (q.d 0) (q.c 0) ve_int (ve_bin os_add (ve_ix rfl (ve_v q) ve_int (fun _ _ => rfl)) ve_int))
  (vss_cons (vs_set q.nd (q.n 3) (q.l 3) (pinQ hp 3 (by decide)) (ve_bin os_mod (ve_bin os_add (ve_bin os_mul (ve_bin os_mod (ve_ix rfl (ve_v q) ve_int (fun _ _ => rfl)) ve_int) ve_int) (ve_bin os_mul (ve_ix rfl (ve_v q) ve_int (fun _ _ => rfl)) ve_int)) ve_int))
  (vss_cons (vs_set q.nd (q.n 3) (q.l 3) (pinQ hp 3 (by decide)) (ve_bin os_mod (ve_bin os_mul (ve_v q) (ve_v q)) ve_int))
  (vss_one (vs_ret (ve_bin os_mod (ve_bin os_div (ve_bin os_mod (ve_bin os_add (ve_bin os_mul (ve_v q) ve_int) (ve_ix rfl (ve_v q) ve_int (fun _ _ => rfl))) ve_int) ve_int) (ve_v q))))))))
theorem ok__law_drawn_lengths : OkV P w base 2 T.d__law_drawn_lengths T.G 2 F__law_drawn_lengths :=
  fnV3 (N := N__law_drawn_lengths) (fb := f__law_drawn_lengths) sc__law_drawn_lengths fun cdv A outer s H E C hr hp q =>
  (vss_cons (vs_s q hp (ve_lst va_nil))
  (vss_cons (vs_s q hp (ve_neg ve_int))
  (vss_cons (vs_f (vi_list rfl (ve_sliceV (ve_f (ok__law_decks T) hr q 0 (va_cons (ve_v q) va_nil)) vo_none (vo_some (ve_v q)))) (vg_n q hp) (vss_cons (vs_s q hp (ve_bin os_add (ve_bin os_add (ve_v q) ve_int) (ve_callQ (takes_of rfl rfl rfl rfl) (ok__law_draw T) (by decide) (hr.mono (by decide)) (q.g 1) T.d__law_draw.m T.d__law_draw.k T.d__law_draw.b (va_cons (ve_v q) (va_cons (ve_set ve_int) va_nil)) (q.h 1))))
  (vss_one (vs_expr (ve_app (q.n 2) (q.v 2) (q.d 2) (q.c 2) (ve_tup (va_cons (ve_set (ve_v q)) (va_cons (ve_set (ve_bin os_add ve_int (ve_callQ (takes_of rfl rfl rfl rfl) (ok__law_draw T) (by decide) (hr.mono (by decide)) (q.g 1) T.d__law_draw.m T.d__law_draw.k T.d__law_draw.b (va_cons (ve_v q) (va_cons (ve_set (ve_ix rfl (ve_lst (va_cons (ve_set ve_int) (va_cons (ve_set ve_int) (va_cons (ve_set ve_int) (va_cons (ve_set ve_int) (va_cons (ve_set (ve_bin os_pow ve_int ve_int)) va_nil)))))) (ve_callQ (takes_of rfl rfl rfl rfl) (ok__law_draw T) (by decide) (hr.mono (by decide)) (q.g 1) T.d__law_draw.m T.d__law_draw.k T.d__law_draw.b (va_cons (ve_v q) (va_cons (ve_set ve_int) va_nil)) (q.h 1)) (fun _ _ => rfl))) va_nil)) (q.h 1)))) va_nil))))))))
  (vss_one (vs_ret (ve_v q))))))
theorem ok__law_words : OkV P w base 1 T.d__law_words T.G 1 F__law_words :=
  fnV3 (N := N__law_words) (fb := f__law_words) sc__law_words fun cdv A outer s H E C hr hp q =>
  (vss_cons (vs_s q hp (ve_lst va_nil))
  (vss_cons (vs_s q hp (ve_lst va_nil))
  (vss_cons (vs_f (vi_list rfl (ve_callB rfl cs_sortedP (q.g 0) T.n_sorted v_sorted (va_cons (ve_lc rfl q.nd (own := [("sign", 4), ("length", 3)]) (vi_list rfl (ve_v q)) (show BlkOk N__law_words (defScope s__law_words) _ _ from blkOk_by (by decide +kernel)) (pinVo hp [4, 3]) (by decide) (fun _ _ _ _ _ => (vg_tup rfl (vgs_cons q.nd (q.n 4) (.inl (cv_own k__law_words_1_sign)) (pinV hp 4) (vgs_cons q.nd (q.n 3) (.inl (cv_own k__law_words_1_length)) (pinV hp 3) vgs_nil)))) (fun _ _ _ _ _ => vts_nil) (fun _ _ _ _ _ => (ve_tup (va_cons (ve_set (ve_var (q.n 3) (.inl (cv_own k__law_words_1_length)) (q.d 3) (q.c 3))) (va_cons (ve_set (ve_var (q.n 4) (.inl (cv_own k__law_words_1_sign)) (q.d 4) (q.c 4))) va_nil))))) va_nil) nn_sorted (q.h 0))) (vg_tup rfl (vgs_c q hp (vgs_c q hp vgs_nil))) (vss_cons (vs_if (vt_cmp (os_eq hr.units) (ve_v q) (ve_lst va_nil) (nomark _)) (vss_one (vs_s q hp (ve_bin os_mul (ve_lst (va_cons (ve_set ve_int) va_nil)) (ve_v q)))) (vss_cons (vs_s q hp (ve_callTy rfl cs_list (q.g 1) T.n_list v_list (va_cons (ve_v q) va_nil) nn_list (q.h 1)))
  (vss_cons (vs_s q hp (ve_bin os_sub (ve_len T.n_len (q.g 2) (ve_v q)) ve_int))
  (vss_cons (vs_while fuel (passes_of rfl) (vt_cmp (os_eq hr.units) (ve_ix rfl (ve_v q) (ve_v q) (fun _ _ => rfl)) ve_int (nomark _)) (vss_cons (vs_setIx (q.n 2) (q.v 2) (q.d 2) (q.c 2) (ve_v q) ve_int)
  (vss_one (vs_s q hp (ve_bin os_sub (ve_v q) ve_int)))))
  (vss_cons (vs_setIx (q.n 2) (q.v 2) (q.d 2) (q.c 2) (ve_v q) ve_int)
  (vss_one (vs_s q hp (ve_bin os_add (ve_v q) (ve_bin os_mul (ve_lst (va_cons (ve_set ve_int) va_nil)) (ve_bin os_sub (ve_v q) (ve_len T.n_len (q.g 2) (ve_v q))))))))))))
  (vss_one (vs_expr (ve_app (q.n 1) (q.v 1) (q.d 1) (q.c 1) (ve_tup (va_cons (ve_set (ve_v q)) (va_cons (ve_set (ve_v q)) va_nil))))))))
  (vss_one (vs_ret (ve_callB rfl (cs_sortedN (units65 hr)) (q.g 0) T.n_sorted v_sorted (va_cons (ve_v q) va_nil) nn_sorted (q.h 0)))))))
theorem ok_room_of : OkV P w base 1 T.d_room_of T.G 1 F_room_of :=
  fnV3 (N := N_room_of) (fb := f_room_of) sc_room_of fun cdv A outer s H E C hr hp q =>
  (vss_cons (vs_s q hp (ve_gint (q.g 0) T.g_WHOLE.m (q.h 0)))
  (vss_cons (vs_f (vi_range1 (q.g 1) T.n_range (va_cons (ve_v q) va_nil)) (vg_n q hp) (vss_one (vs_s q hp (ve_bin os_div (ve_v q) ve_int))))
  (vss_one (vs_ret (ve_v q)))))
theorem ok_need_words : OkV P w base 2 T.d_need_words T.G 1 F_need_words :=
  fnV3 (N := N_need_words) (fb := f_need_words) sc_need_words fun cdv A outer s H E C hr hp q =>
  (vss_cons (vs_if (vt_cmp (os_ne hr.units) (ve_lc rfl q.nd (own := [("sign", 1), ("length", 2)]) (vi_list rfl (ve_v q)) (show BlkOk N_need_words (defScope s_need_words) _ _ from blkOk_by (by decide +kernel)) (pinVo hp [1, 2]) (by decide) (fun _ _ _ _ _ => (vg_tup rfl (vgs_cons q.nd i_need_words_sign (.inl (cv_own k_need_words_1_sign)) (pinV hp 1) (vgs_cons q.nd i_need_words_length (.inl (cv_own k_need_words_1_length)) (pinV hp 2) vgs_nil)))) (fun _ _ _ _ _ => (vts_one (vt_cmp os_gt (ve_var i_need_words_length (.inl (cv_own k_need_words_1_length)) (q.d 2) (q.c 2)) (ve_gint (cv_gl k_need_words_1_LONGEST) T.g_LONGEST.m d_LONGEST) (nomark _)))) (fun _ _ _ _ _ => (ve_var i_need_words_length (.inl (cv_own k_need_words_1_length)) (q.d 2) (q.c 2)))) (ve_lst va_nil) (nomark _)) (vss_one (vs_raiseC (c := 2) T.cf_NoCode T.rf_NoCode (q.g 0) (q.h 0))) vss_nil)
  (vss_one (vs_if (vt_cmp os_gt (ve_callB rfl (cs_sum rfl) (q.g 1) T.n_sum v_sum (va_cons (ve_lc rfl q.nd (own := [("sign", 1), ("length", 2)]) (vi_list rfl (ve_v q)) (show BlkOk N_need_words (defScope s_need_words) _ _ from blkOk_by (by decide +kernel)) (pinVo hp [1, 2]) (by decide) (fun _ _ _ _ _ => (vg_tup rfl (vgs_cons q.nd i_need_words_sign (.inl (cv_own k_need_words_2_sign)) (pinV hp 1) (vgs_cons q.nd i_need_words_length (.inl (cv_own k_need_words_2_length)) (pinV hp 2) vgs_nil)))) (fun _ _ _ _ _ => vts_nil) (fun _ _ _ _ _ => (ve_callD (ok_room_of T) hr (cv_gl k_need_words_2_room_of) d_room_of (va_cons (ve_var i_need_words_length (.inl (cv_own k_need_words_2_length)) (q.d 2) (q.c 2)) va_nil) (tk := takes0)))) va_nil) nn_sum (q.h 1)) (ve_gint (q.g 2) T.g_WHOLE.m (q.h 2)) (nomark _)) (vss_one (vs_raiseC (c := 2) T.cf_NoCode T.rf_NoCode (q.g 0) (q.h 0))) vss_nil)))
theorem ok_figures_of : OkV P w base 1 T.d_figures_of T.G 1 F_figures_of :=
  fnV3 (N := N_figures_of) (fb := f_figures_of) sc_figures_of fun cdv A outer s H E C hr hp q =>
  (vss_cons (vs_s q hp (ve_lst va_nil))
  (vss_cons (vs_while fuel (passes_of rfl) (vt_cmp os_gt (ve_v q) ve_int (nomark _)) (vss_cons (vs_expr (ve_app (q.n 1) (q.v 1) (q.d 1) (q.c 1) (ve_bin os_mod (ve_v q) ve_int)))
  (vss_one (vs_s q hp (ve_bin os_div (ve_v q) ve_int)))))
  (vss_one (vs_ret (ve_v q)))))
theorem ok_low_bits : OkV P w base 2 T.d_low_bits T.G 2 F_low_bits :=
  fnV3 (N := N_low_bits) (fb := f_low_bits) sc_low_bits fun cdv A outer s H E C hr hp q =>
  (vss_cons (vs_if (vt_cmp os_lt (ve_v q) ve_int (nomark _)) (vss_one (vs_raiseC (c := 1) T.cf_NoNumber T.rf_NoNumber (q.g 0) (q.h 0))) vss_nil)
  (vss_cons (vs_s q hp (ve_f (ok_figures_of T) hr q 1 (va_cons (ve_v q) va_nil)))
  (vss_cons (vs_if (vt_cmp os_gt (ve_len T.n_len (q.g 2) (ve_v q)) (ve_v q) (nomark _)) (vss_one (vs_raiseC (c := 1) T.cf_NoNumber T.rf_NoNumber (q.g 0) (q.h 0))) vss_nil)
  (vss_one (vs_ret (ve_bin os_add (ve_bin os_mul (ve_lst (va_cons (ve_set ve_int) va_nil)) (ve_bin os_sub (ve_v q) (ve_len T.n_len (q.g 2) (ve_v q)))) (ve_rev rfl (ve_v q))))))))
theorem ok_words_by : OkV P w base 3 T.d_words_by T.G 1 F_words_by :=
  fnV3 (N := N_words_by) (fb := f_words_by) sc_words_by fun cdv A outer s H E C hr hp q =>
  (vss_cons (vs_expr (ve_f (ok_need_words T) hr q 0 (va_cons (ve_v q) va_nil)))
  (vss_cons (vs_s q hp (ve_lst va_nil))
  (vss_cons (vs_s q hp ve_int)
  (vss_cons (vs_s q hp ve_int)
  (vss_cons (vs_f (vi_list rfl (ve_callB rfl cs_sortedP (q.g 1) T.n_sorted v_sorted (va_cons (ve_lc rfl q.nd (own := [("sign", 5), ("length", 4)]) (vi_list rfl (ve_v q)) (show BlkOk N_words_by (defScope s_words_by) _ _ from blkOk_by (by decide +kernel)) (pinVo hp [5, 4]) (by decide) (fun _ _ _ _ _ => (vg_tup rfl (vgs_cons q.nd (q.n 5) (.inl (cv_own k_words_by_1_sign)) (pinV hp 5) (vgs_cons q.nd (q.n 4) (.inl (cv_own k_words_by_1_length)) (pinV hp 4) vgs_nil)))) (fun _ _ _ _ _ => vts_nil) (fun _ _ _ _ _ => (ve_tup (va_cons (ve_set (ve_var (q.n 4) (.inl (cv_own k_words_by_1_length)) (q.d 4) (q.c 4))) (va_cons (ve_set (ve_var (q.n 5) (.inl (cv_own k_words_by_1_sign)) (q.d 5) (q.c 5))) va_nil))))) va_nil) nn_sorted (q.h 1))) (vg_tup rfl (vgs_c q hp (vgs_c q hp vgs_nil))) (vss_cons (vs_f (vi_range1 (q.g 2) T.n_range (va_cons (ve_bin os_sub (ve_v q) (ve_v q)) va_nil)) (vg_n q hp) (vss_one (vs_s q hp (ve_bin os_mul ve_int (ve_v q)))))
  (vss_cons (vs_expr (ve_app (q.n 1) (q.v 1) (q.d 1) (q.c 1) (ve_tup (va_cons (ve_set (ve_v q)) (va_cons (ve_set (ve_f (ok_low_bits T) hr q 3 (va_cons (ve_v q) (va_cons (ve_v q) va_nil)))) va_nil)))))
  (vss_cons (vs_a q hp os_iadd ve_int)
  (vss_one (vs_s q hp (ve_v q)))))))
  (vss_one (vs_ret (ve_callB rfl (cs_sortedNO (units65 hr)) (q.g 1) T.n_sorted v_sorted (va_cons (ve_take (q.n 1) (q.v 1) (q.d 1) (q.c 1)) va_nil) nn_sorted (q.h 1)))))))))
theorem ok__law_let : OkV P w base 1 T.d__law_let T.G 1 F__law_let :=
  fnV3 (N := N__law_let) (fb := f__law_let) sc__law_let fun cdv A outer s H E C hr hp q =>
  (vss_cons (vs_if (vt_cmp os_gt (ve_callB rfl (cs_maxL rfl) (q.g 0) T.n_max v_max (va_cons (ve_bin os_add (ve_lst (va_cons (ve_set ve_int) va_nil)) (ve_lc rfl q.nd (own := [("sign", 3), ("length", 4)]) (vi_list rfl (ve_v q)) (show BlkOk N__law_let (defScope s__law_let) _ _ from blkOk_by (by decide +kernel)) (pinVo hp [3, 4]) (by decide) (fun _ _ _ _ _ => (vg_tup rfl (vgs_cons q.nd (q.n 3) (.inl (cv_own k__law_let_1_sign)) (pinV hp 3) (vgs_cons q.nd (q.n 4) (.inl (cv_own k__law_let_1_length)) (pinV hp 4) vgs_nil)))) (fun _ _ _ _ _ => vts_nil) (fun _ _ _ _ _ => (ve_var (q.n 4) (.inl (cv_own k__law_let_1_length)) (q.d 4) (q.c 4))))) va_nil) nn_max (q.h 0)) ve_int (nomark _)) (vss_one (vs_ret ve_bl)) vss_nil)
  (vss_cons (vs_s q hp (ve_bin os_mul (ve_bin os_mul (ve_bin os_mul (ve_bin os_pow ve_int ve_int) (ve_bin os_pow ve_int ve_int)) (ve_bin os_pow ve_int ve_int)) (ve_bin os_pow ve_int ve_int)))
  (vss_cons (vs_s q hp ve_int)
  (vss_cons (vs_f (vi_list rfl (ve_v q)) (vg_tup rfl (vgs_c q hp (vgs_c q hp vgs_nil))) (vss_cons (vs_s q hp (ve_v q))
  (vss_cons (vs_f (vi_range1 (q.g 1) T.n_range (va_cons (ve_v q) va_nil)) (vg_n q hp) (vss_one (vs_s q hp (ve_bin os_div (ve_v q) ve_int))))
  (vss_one (vs_s q hp (ve_bin os_add (ve_v q) (ve_v q)))))))
  (vss_one (vs_ret (ve_cmp os_le (ve_v q) (ve_v q) (nomark _))))))))
theorem ok__law_refused : OkV P w base 4 T.d__law_refused T.G 1 F__law_refused :=
  fnV3 (N := N__law_refused) (fb := f__law_refused) sc__law_refused fun cdv A outer s H E C hr hp q =>
  (vss_cons (vs_s q hp ve_non)
  (vss_cons (vs_try rfl rfl rfl q.nd (.inr ⟨2, "e", rfl, rfl, i__law_refused_e, k__law_refused_e⟩) (fun j e => by cases e; exact (pinV hp 2)) ⟨k__law_refused_PackError, d_PackError, .inl T.cf_PackError.m⟩ (takes_of rfl rfl rfl rfl) (T.tab.exm 0) (fun W1 pn1 xe1 tk1 pa1 => (vss_one (vs_expr (ve_f (ok_words_by T) hr q 0 (va_cons (ve_v q) va_nil) (tk := tk1))))) (fun _ _ => (vss_one (vs_s q hp (ve_v q)))))
  (vss_cons (vs_if (VW.pt (vw_or (vt_not (vt_val (ve_isi T.tab.etab (q.g 1) T.n_isinstance v_isinstance (va_cons (ve_v q) (va_cons (ve_gcls (c := 2) (q.g 2) T.cf_NoCode.m (q.h 2)) va_nil)) nn_isinstance (q.h 1)) (fun _ => rfl))) (vw_or1 (vt_not (vt_val (ve_isi T.tab.etab (q.g 1) T.n_isinstance v_isinstance (va_cons (ve_v q) (va_cons (ve_gty (q.g 3) T.n_ValueError v_ValueError nn_ValueError (q.h 3)) va_nil)) nn_isinstance (q.h 1)) (fun _ => rfl)))))) (vss_one (vs_ret ve_bl)) vss_nil)
  (vss_one (vs_ret (ve_not (ve_isi T.tab.etab (q.g 1) T.n_isinstance v_isinstance (va_cons (ve_v q) (va_cons (ve_set (ve_tup (va_cons (ve_set (ve_gcls (c := 4) (q.g 4) T.cf_Broken.m (q.h 4))) (va_cons (ve_set (ve_gcls (c := 6) (q.g 5) T.cf_NoName.m (q.h 5))) (va_cons (ve_set (ve_gcls (c := 1) (q.g 6) T.cf_NoNumber.m (q.h 6))) (va_cons (ve_set (ve_gcls (c := 3) (q.g 7) T.cf_NoPlace.m (q.h 7))) (va_cons (ve_set (ve_gcls (c := 7) (q.g 8) T.cf_NoRow.m (q.h 8))) (va_cons (ve_set (ve_gcls (c := 5) (q.g 9) T.cf_NoText.m (q.h 9))) va_nil)))))))) va_nil)) nn_isinstance (q.h 1))))))))
theorem ok__law_shaped : OkV P w base 1 T.d__law_shaped T.G 1 F__law_shaped :=
  fnV3 (N := N__law_shaped) (fb := f__law_shaped) sc__law_shaped fun cdv A outer s H E C hr hp q =>
  (vss_cons (vs_if (vt_not (vt_val (ve_isi T.tab.etab (q.g 0) T.n_isinstance v_isinstance (va_cons (ve_v q) (va_cons (ve_gty (q.g 1) T.n_list v_list nn_list (q.h 1)) va_nil)) nn_isinstance (q.h 0)) (fun _ => rfl))) (vss_one (vs_ret ve_bl)) vss_nil)
  (vss_cons (vs_f (vi_list rfl (ve_v q)) (vg_n q hp) (vss_cons (vs_if (VW.pt (vw_or (vt_not (vt_val (ve_isi T.tab.etab (q.g 0) T.n_isinstance v_isinstance (va_cons (ve_v q) (va_cons (ve_gty (q.g 2) T.n_tuple v_tuple nn_tuple (q.h 2)) va_nil)) nn_isinstance (q.h 0)) (fun _ => rfl))) (vw_or (vt_cmp (os_ne hr.units) (ve_len T.n_len (q.g 3) (ve_v q)) ve_int (nomark _)) (vw_or1 (vt_not (vt_val (ve_isi T.tab.etab (q.g 0) T.n_isinstance v_isinstance (va_cons (ve_ix rfl (ve_v q) ve_int (fun _ _ => rfl)) (va_cons (ve_gty (q.g 1) T.n_list v_list nn_list (q.h 1)) va_nil)) nn_isinstance (q.h 0)) (fun _ => rfl))))))) (vss_one (vs_ret ve_bl)) vss_nil)
  (vss_one (vs_if (vt_cmp (os_ne hr.units) (ve_lc rfl q.nd (own := [("one", 2)]) (vi_list rfl (ve_bin os_add (ve_lst (va_cons (ve_set (ve_ix rfl (ve_v q) ve_int (fun _ _ => rfl))) va_nil)) (ve_ix rfl (ve_v q) ve_int (fun _ _ => rfl)))) (show BlkOk N__law_shaped (defScope s__law_shaped) _ _ from blkOk_by (by decide +kernel)) (pinVo hp [2]) (by decide) (fun _ _ _ _ _ => (vg_name q.nd i__law_shaped_one (.inl (cv_own k__law_shaped_1_one)) (pinV hp 2))) (fun _ _ _ _ _ => (vts_one (VW.pt (vw_or (vt_not (vt_val (ve_isi T.tab.etab (cv_gl k__law_shaped_1_isinstance) T.n_isinstance v_isinstance (va_cons (ve_var i__law_shaped_one (.inl (cv_own k__law_shaped_1_one)) (q.d 2) (q.c 2)) (va_cons (ve_gty (cv_gl k__law_shaped_1_int) T.n_int v_int nn_int d_int) va_nil)) nn_isinstance (q.h 0)) (fun _ => rfl))) (vw_or1 (vt_val (ve_isi T.tab.etab (cv_gl k__law_shaped_1_isinstance) T.n_isinstance v_isinstance (va_cons (ve_var i__law_shaped_one (.inl (cv_own k__law_shaped_1_one)) (q.d 2) (q.c 2)) (va_cons (ve_gty (cv_gl k__law_shaped_1_bool) T.n_bool v_bool nn_bool d_bool) va_nil)) nn_isinstance (q.h 0)) (fun _ => rfl))))))) (fun _ _ _ _ _ => (ve_var i__law_shaped_one (.inl (cv_own k__law_shaped_1_one)) (q.d 2) (q.c 2)))) (ve_lst va_nil) (nomark _)) (vss_one (vs_ret ve_bl)) vss_nil))))
  (vss_one (vs_ret ve_bl))))
theorem ok__law_good : OkV P w base 5 T.d__law_good T.G 1 F__law_good :=
  fnV3 (N := N__law_good) (fb := f__law_good) sc__law_good fun cdv A outer s H E C hr hp q =>
  (vss_cons (vs_s q hp (ve_callTy rfl cs_list (q.g 0) T.n_list v_list (va_cons (ve_v q) va_nil) nn_list (q.h 0)))
  (vss_cons (vs_if (vt_not (vt_val (ve_f (ok__law_let T) hr q 1 (va_cons (ve_v q) va_nil)) (fun _ => rfl))) (vss_one (vs_ret (ve_and (ve_f (ok__law_refused T) hr q 2 (va_cons (ve_v q) va_nil)) (ve_one (ve_cmp (os_eq hr.units) (ve_v q) (ve_v q) (nomark _)))))) vss_nil)
  (vss_cons (vs_s q hp (ve_f (ok__law_words T) hr q 3 (va_cons (ve_v q) va_nil)))
  (vss_cons (vs_s q hp (ve_f (ok_words_by T) hr q 4 (va_cons (ve_v q) va_nil)))
  (vss_cons (vs_if (VW.pt (vw_or (vt_not (vt_val (ve_f (ok__law_shaped T) hr q 5 (va_cons (ve_v q) va_nil)) (fun _ => rfl))) (vw_or (vt_cmp (os_ne hr.units) (ve_v q) (ve_v q) (nomark _)) (vw_or1 (vt_cmp (os_ne hr.units) (ve_v q) (ve_v q) (nomark _)))))) (vss_one (vs_ret ve_bl)) vss_nil)
  (vss_cons (vs_s q hp (ve_callB rfl (cs_sortedL (units65 hr)) (q.g 6) T.n_sorted v_sorted (va_cons (ve_lc rfl q.nd (own := [("sign", 6), ("bits", 7)]) (vi_list rfl (ve_v q)) (show BlkOk N__law_good (defScope s__law_good) _ _ from blkOk_by (by decide +kernel)) (pinVo hp [6, 7]) (by decide) (fun _ _ _ _ _ => (vg_tup rfl (vgs_cons q.nd (q.n 6) (.inl (cv_own k__law_good_1_sign)) (pinV hp 6) (vgs_cons q.nd (q.n 7) (.inl (cv_own k__law_good_1_bits)) (pinV hp 7) vgs_nil)))) (fun _ _ _ _ _ => vts_nil) (fun _ _ _ _ _ => (ve_var (q.n 7) (.inl (cv_own k__law_good_1_bits)) (q.d 7) (q.c 7)))) va_nil) nn_sorted (q.h 6)))
  (vss_cons (vs_f (vi_range2 (q.g 7) T.n_range (va_cons ve_int (va_cons (ve_len T.n_len (q.g 8) (ve_v q)) va_nil))) (vg_n q hp) (vss_one (vs_if (vt_cmp (os_eq hr.units) (ve_slice rfl (ve_ix rfl (ve_v q) (ve_v q) (fun _ _ => rfl)) vo_none (vo_some (ve_len T.n_len (q.g 8) (ve_ix rfl (ve_v q) (ve_bin os_sub (ve_v q) ve_int) (fun _ _ => rfl))))) (ve_ix rfl (ve_v q) (ve_bin os_sub (ve_v q) ve_int) (fun _ _ => rfl)) (nomark _)) (vss_one (vs_ret ve_bl)) vss_nil)))
  (vss_cons (vs_forApp (passes_of rfl) rfl (pp_var (q.n 3) (q.v 3) (q.d 3) (q.c 3)) q.nd (by decide) (by decide) (by decide) (q.n 6) (q.l 6) (q.n 7) (q.l 7) (pinV hp 6) (pinV hp 7) (q.d 7) (q.c 7))
  (vss_one (vs_ret (ve_cmp (os_eq hr.units) (ve_f (ok_words_by T) hr q 4 (va_cons (ve_v q) va_nil)) (ve_v q) (nomark _))))))))))))
theorem ok_lengths_by : OkV P w base 1 T.d_lengths_by T.G 2 F_lengths_by :=
  fnV3 (N := N_lengths_by) (fb := f_lengths_by) sc_lengths_by fun cdv A outer s H E C hr hp q =>
  (vss_cons (vs_s q hp (ve_bin os_mul (ve_lst (va_cons (ve_set ve_int) va_nil)) (ve_bin os_add (ve_len T.n_len (q.g 0) (ve_v q)) (ve_len T.n_len (q.g 0) (ve_v q)))))
  (vss_cons (vs_f (vi_range3 (q.g 1) T.n_range (va_cons (ve_bin os_sub (ve_len T.n_len (q.g 0) (ve_v q)) ve_int) (va_cons (ve_neg ve_int) (va_cons (ve_neg ve_int) va_nil)))) (vg_n q hp) (vss_one (vs_f (vi_tup (ve_ix rfl (ve_v q) (ve_v q) (fun _ _ => rfl))) (vg_n q hp) (vss_one (vs_setIx (q.n 2) (q.v 2) (q.d 2) (q.c 2) (ve_v q) (ve_bin os_add (ve_ix rfl (ve_v q) (ve_bin os_add (ve_len T.n_len (q.g 0) (ve_v q)) (ve_v q)) (fun _ _ => rfl)) ve_int))))))
  (vss_one (vs_ret (ve_lc rfl q.nd (own := [("k", 3)]) (vi_range1 (q.g 1) T.n_range (va_cons (ve_len T.n_len (q.g 0) (ve_v q)) va_nil)) (show BlkOk N_lengths_by (defScope s_lengths_by) _ _ from blkOk_by (by decide +kernel)) (pinVo hp [3]) (by decide) (fun _ _ _ _ _ => (vg_name q.nd (q.n 3) (.inl (cv_own k_lengths_by_1_k)) (pinV hp 3))) (fun _ _ _ _ _ => vts_nil) (fun _ _ _ _ _ => (ve_tup (va_cons (ve_set (ve_ix rfl (ve_ix rfl (ve_var (q.n 0) (cv_free k_lengths_by_1_counts) (q.d 0) (q.c 0)) (ve_var (q.n 3) (.inl (cv_own k_lengths_by_1_k)) (q.d 3) (q.c 3)) (fun _ _ => rfl)) ve_int (fun _ _ => rfl))) (va_cons (ve_set (ve_callB rfl (cs_max2 rfl) (cv_gl k_lengths_by_1_max) T.n_max v_max (va_cons ve_int (va_cons (ve_ix rfl (ve_var (q.n 2) (cv_free k_lengths_by_1_depths) (q.d 2) (q.c 2)) (ve_var (q.n 3) (.inl (cv_own k_lengths_by_1_k)) (q.d 3) (q.c 3)) (fun _ _ => rfl)) va_nil)) nn_max d_max)) va_nil)))))))))
theorem ok_joinings_of : OkV P w base 1 T.d_joinings_of T.G 1 F_joinings_of :=
  fnV3 (N := N_joinings_of) (fb := f_joinings_of) sc_joinings_of fun cdv A outer s H E C hr hp q =>
  (vss_cons (vs_s q hp (ve_callB rfl cs_sortedP (q.g 0) T.n_sorted v_sorted (va_cons (ve_lc rfl q.nd (own := [("number", 7), ("sign", 8), ("many", 9)]) (vi_enum rfl (q.g 1) T.n_enumerate (va_cons (ve_set (ve_v q)) va_nil)) (show BlkOk N_joinings_of (defScope s_joinings_of) _ _ from blkOk_by (by decide +kernel)) (pinVo hp [7, 8, 9]) (by decide) (fun _ _ _ _ _ => (vg_nest rfl q.nd i_joinings_of_number (.inl (cv_own k_joinings_of_1_number)) (pinV hp 7) (vg_tup rfl (vgs_cons q.nd i_joinings_of_sign (.inl (cv_own k_joinings_of_1_sign)) (pinV hp 8) (vgs_cons q.nd i_joinings_of_many (.inl (cv_own k_joinings_of_1_many)) (pinV hp 9) vgs_nil))))) (fun _ _ _ _ _ => vts_nil) (fun _ _ _ _ _ => (ve_tup (va_cons (ve_set (ve_var i_joinings_of_many (.inl (cv_own k_joinings_of_1_many)) (q.d 9) (q.c 9))) (va_cons (ve_set (ve_var i_joinings_of_number (.inl (cv_own k_joinings_of_1_number)) (q.d 7) (q.c 7))) va_nil))))) va_nil) nn_sorted (q.h 0)))
  (vss_cons (vs_s q hp (ve_lst va_nil))
  (vss_cons (vs_while fuel (passes_of rfl) (vt_cmp os_gt (ve_len T.n_len (q.g 2) (ve_v q)) ve_int (nomark _)) (vss_cons (vs_asgPP rfl (vg_tup rfl (vgs_c q hp (vgs_c q hp vgs_nil))) (vg_tup rfl (vgs_c q hp (vgs_c q hp vgs_nil))) (ve_slice rfl (ve_v q) vo_none (vo_some ve_int)))
  (vss_cons (vs_s q hp (ve_callB rfl cs_sortedP (q.g 0) T.n_sorted v_sorted (va_cons (ve_bin os_add (ve_slice rfl (ve_v q) (vo_some ve_int) vo_none) (ve_lst (va_cons (ve_set (ve_tup (va_cons (ve_set (ve_bin os_add (ve_v q) (ve_v q))) (va_cons (ve_set (ve_bin os_add (ve_len T.n_len (q.g 2) (ve_v q)) (ve_len T.n_len (q.g 2) (ve_v q)))) va_nil)))) va_nil))) va_nil) nn_sorted (q.h 0)))
  (vss_one (vs_expr (ve_app (q.n 2) (q.v 2) (q.d 2) (q.c 2) (ve_tup (va_cons (ve_set (ve_callB rfl (cs_min2 rfl) (q.g 3) T.n_min v_min (va_cons (ve_v q) (va_cons (ve_v q) va_nil)) nn_min (q.h 3))) (va_cons (ve_set (ve_callB rfl (cs_max2 rfl) (q.g 4) T.n_max v_max (va_cons (ve_v q) (va_cons (ve_v q) va_nil)) nn_max (q.h 4))) va_nil)))))))))
  (vss_one (vs_ret (ve_v q))))))
theorem ok_least_lengths : OkV P w base 2 T.d_least_lengths T.G 1 F_least_lengths :=
  fnV3 (N := N_least_lengths) (fb := f_least_lengths) sc_least_lengths fun cdv A outer s H E C hr hp q =>
  (vss_one (vs_ret (ve_f (ok_lengths_by T) hr q 0 (va_cons (ve_v q) (va_cons (ve_f (ok_joinings_of T) hr q 1 (va_cons (ve_v q) va_nil)) va_nil)))))
theorem ok_counts_of : OkV P w base 1 T.d_counts_of T.G 1 F_counts_of :=
  fnV3 (N := N_counts_of) (fb := f_counts_of) sc_counts_of fun cdv A outer s H E C hr hp q =>
  (vss_cons (vs_s q hp ve_dnew)
  (vss_cons (vs_f (vi_list rfl (ve_v q)) (vg_n q hp) (vss_one (vs_dput (units1 hr) (q.n 1) (q.v 1) (q.d 1) (q.c 1) (ve_v q) (ve_bin os_add (ve_dget2 (units1 hr) (q.n 1) (q.v 1) (q.d 1) (q.c 1) (ve_v q) ve_int (M2.mk rfl rfl rfl rfl)) ve_int))))
  (vss_one (vs_ret (ve_sortItems rfl (q.n 1) (q.v 1) (q.d 1) (q.c 1) (q.g 0) T.n_sorted v_sorted nn_sorted (q.h 0))))))
theorem ok__law_text : OkV P w base 2 T.d__law_text T.G 1 F__law_text :=
  fnV3 (N := N__law_text) (fb := f__law_text) sc__law_text fun cdv A outer s H E C hr hp q =>
  (vss_cons (vs_s q hp (ve_lst va_nil))
  (vss_cons (vs_f (vi_list rfl (ve_f (ok__law_decks T) hr q 0 (va_cons (ve_v q) va_nil))) (vg_n q hp) (vss_cons (vs_s q hp (ve_ix rfl (ve_lst (va_cons (ve_set ve_int) (va_cons (ve_set ve_int) (va_cons (ve_set ve_int) (va_cons (ve_set ve_int) va_nil))))) (ve_callQ (takes_of rfl rfl rfl rfl) (ok__law_draw T) (by decide) (hr.mono (by decide)) (q.g 1) T.d__law_draw.m T.d__law_draw.k T.d__law_draw.b (va_cons (ve_v q) (va_cons (ve_set ve_int) va_nil)) (q.h 1)) (fun _ _ => rfl)))
  (vss_cons (vs_s q hp (ve_callQ (takes_of rfl rfl rfl rfl) (ok__law_draw T) (by decide) (hr.mono (by decide)) (q.g 1) T.d__law_draw.m T.d__law_draw.k T.d__law_draw.b (va_cons (ve_v q) (va_cons (ve_set (ve_bin os_sub ve_int (ve_v q))) va_nil)) (q.h 1)))
  (vss_one (vs_s q hp (ve_bin os_add (ve_v q) (ve_lc rfl q.nd (own := [("k", 5)]) (vi_range1 (q.g 2) T.n_range (va_cons (ve_callQ (takes_of rfl rfl rfl rfl) (ok__law_draw T) (by decide) (hr.mono (by decide)) (q.g 1) T.d__law_draw.m T.d__law_draw.k T.d__law_draw.b (va_cons (ve_v q) (va_cons (ve_set ve_int) va_nil)) (q.h 1)) va_nil)) (show BlkOk N__law_text (defScope s__law_text) _ _ from blkOk_by (by decide +kernel)) (pinVo hp [5]) (by decide) (fun _ _ _ _ _ => (vg_name q.nd i__law_text_k (.inl (cv_own k__law_text_1_k)) (pinV hp 5))) (fun _ _ _ _ _ => vts_nil) (fun _ _ _ _ _ => (ve_bin os_add (ve_var (q.n 4) (cv_free k__law_text_1_low) (q.d 4) (q.c 4)) (ve_callQ takes0 (ok__law_draw T) (by decide) (hr.mono (by decide)) (cv_gl k__law_text_1__law_draw) T.d__law_draw.m T.d__law_draw.k T.d__law_draw.b (va_cons (ve_var (q.n 2) (cv_free k__law_text_1_deck) (q.d 2) (q.c 2)) (va_cons (ve_set (ve_var (q.n 3) (cv_free k__law_text_1_wide) (q.d 3) (q.c 3))) va_nil)) (q.h 1)))))))))))
  (vss_one (vs_ret (ve_v q)))))
theorem ok_law : OkV P w base 6 T.d_law T.G 1 F_law :=
  fnV3 (N := N_law) (fb := f_law) sc_law fun cdv A outer s H E C hr hp q =>
  (vss_cons (vs_s q hp (ve_f (ok__law_drawn_lengths T) hr q 0 (va_cons (ve_v q) (va_cons ve_int va_nil))))
  (vss_cons (vs_s q hp ve_int)
  (vss_cons (vs_while fuel (passes_of rfl) (VW.pt (vw_and (vt_cmp os_lt (ve_v q) (ve_len T.n_len (q.g 1) (ve_v q)) (nomark _)) (vw_and1 (vt_val (ve_f (ok__law_let T) hr q 2 (va_cons (ve_slice rfl (ve_v q) vo_none (vo_some (ve_bin os_add (ve_v q) ve_int))) va_nil)) (fun _ => rfl))))) (vss_one (vs_s q hp (ve_bin os_add (ve_v q) ve_int))))
  (vss_cons (vs_f (vi_list rfl (ve_lst (va_cons (ve_set (ve_slice rfl (ve_v q) vo_none (vo_some (ve_v q)))) (va_cons (ve_set (ve_v q)) (va_cons (ve_set (ve_slice rfl (ve_v q) vo_none (vo_some (ve_bin os_add (ve_v q) ve_int)))) (va_cons (ve_set (ve_slice rfl (ve_v q) vo_none (vo_some (ve_bin os_div (ve_len T.n_len (q.g 1) (ve_v q)) ve_int)))) (va_cons (ve_set (ve_slice rfl (ve_v q) vo_none (vo_some ve_int))) (va_cons (ve_set (ve_lst va_nil)) va_nil)))))))) (vg_n q hp) (vss_one (vs_if (vt_not (vt_val (ve_f (ok__law_good T) hr q 3 (va_cons (ve_v q) va_nil)) (fun _ => rfl))) (vss_one (vs_ret ve_bl)) vss_nil)))
  (vss_cons (vs_s q hp (ve_lst va_nil))
  (vss_cons (vs_expr (ve_appV (ve_f (ok_words_by T) hr q 4 (va_cons (ve_v q) va_nil))))
  (vss_cons (vs_if (vt_cmp (os_ne hr.units) (ve_v q) (ve_lst va_nil) (nomark _)) (vss_one (vs_ret ve_bl)) vss_nil)
  (vss_one (vs_ret (ve_f (ok__law_good T) hr q 3 (va_cons (ve_f (ok_least_lengths T) hr q 5 (va_cons (ve_f (ok_counts_of T) hr q 6 (va_cons (ve_f (ok__law_text T) hr q 7 (va_cons (ve_v q) va_nil)) va_nil)) va_nil)) va_nil)))))))))))
end
end K09

namespace K09
theorem all_mk {P : Program} {w : World} {K : PySem.W.Frag} {mg : Str → Option Value} {fa : Addr} (hfa : mg "law" = some (.ref fa)) (T : Txt K mg) : ∃ fd : FuncData, (∀ (s : Shared) (u : Value), BindsTo s fd ⟨[u], []⟩ [("script", u)]) ∧ ∀ base : Heap, K.In base → base.Ns mainGlobals mg → FnOk P w K mg base (L2.CX P w) 6 fa fd ["script"] (spLaw K) := by
  have e := hfa.symm.trans T.d_law.m
  cases e
  exact ⟨T.d_law.fd, fun s u => .of_eq (T.d_law.bs [u] rfl), fun base _ _ => (ok_law T).imp fun vs H Q E q => law_imp (G := T.G) rfl rfl law_plain q⟩
end K09
open PySem PySem.W PyProof.Rows
local macro_rules | `(tactic| walk_at "d") => `(tactic| (refine' VL.DF.of (by assumption) (by assumption) ?n ?l ?c ?k ?b; (case n => k_is); (case l => k_is); (case c => k_is); (case k => k_is); (case b => first | (exact fun _ _ _ _ _ _ us hl => match us, hl with | [_], _ => rfl) | (exact fun _ _ _ _ _ _ us hl => match us, hl with | [_, _], _ => rfl)))) -- own
local macro_rules | `(tactic| walk_at "c") => `(tactic| (refine' VL.CF.of (by assumption) (by assumption) ?n ?i ?t ?b; (case n => k_is); (case i => k_is); (case t => k_is); (case b => k_is))) -- own
local macro_rules | `(tactic| walk_at "r") => `(tactic| (refine' ⟨?x, ?kc, ?hg, ?hk, ?hd, ?ha, ?hm, ?se⟩; (case x => k_exc); (case kc => k_is); (case hg => k_is); (case hk => k_is); (case hd => k_is); (case ha => k_is); (case hm => k_is); (case se => first | rfl | k_is))) -- own
local macro_rules | `(tactic| walk_at "e") => `(tactic| (refine' ⟨?n, ?t⟩; (case n => k_is); (case t => k_is))) -- own
local macro_rules | `(tactic| walk_at "su") => `(tactic| (first | rfl | k_is)) -- own
local macro_rules | `(tactic| walk_at "k") => `(tactic| (k_is)) -- own
local macro_rules | `(tactic| walk_at "n") => `(tactic| (refine' PySem.W.mg_none_of (by assumption) (by assumption) ?z; (case z => k_is))) -- own
local macro_rules | `(tactic| walk_at "g") => `(tactic| (refine' VL.KI.of (by assumption) (by assumption) ?z; (case z => k_is))) -- own
local macro_rules | `(tactic| walk_at "gs") => `(tactic| (refine' VL.KS.of (by assumption) (by assumption) ?z; (case z => k_is))) -- own
theorem PySem.Challenge.cw_packhall_k09_words_by_lengths_holds : PySem.Challenge.rw_packhall_k09_words_by_lengths.Holds := by
  w_on; o_law; k_head; (case hw => w_witness2)
  k_fill
  refine VL.walk_lawV (k := 6) (l := PySem.Challenge.rw_packhall_k09_words_by_lengths) rfl rfl ⟨rfl, by decide, by decide⟩ (fun w h Y => PySem.W.kIn_of Y) ?F
  case F =>
    intro w mg fa h KX G hmg
    refine' K09.all_mk hmg ⟨_, _, _, _, _, _, _, _, ?cf_PackError, ?cf_NoNumber, ?cf_NoCode, ?cf_NoPlace, ?cf_Broken, ?cf_NoText, ?cf_NoName, ?cf_NoRow, ?rf_NoCode, ?rf_NoNumber, ?ef, ?su_0, ?su_1, ?su_2, ?su_3, ?su_4, ?su_5, ?su_6, ?su_7, ?su_8, ?su_9, ?su_10, ?su_11, ?su_12, ?su_13, ?su_14, ?su_15, ?su_16, ?su_17, ?n_range, ?n_len, ?n_sorted, ?n_list, ?n_sum, ?n_max, ?n_isinstance, ?n_ValueError, ?n_tuple, ?n_int, ?n_bool, ?n_enumerate, ?n_min, ?g_WHOLE, ?g_LONGEST, ?d__law_decks, ?d__law_draw, ?d__law_drawn_lengths, ?d__law_words, ?d_room_of, ?d_need_words, ?d_figures_of, ?d_low_bits, ?d_words_by, ?d__law_let, ?d__law_refused, ?d__law_shaped, ?d__law_good, ?d_lengths_by, ?d_joinings_of, ?d_least_lengths, ?d_counts_of, ?d__law_text, ?d_law⟩
    (case cf_PackError | cf_NoNumber | cf_NoCode | cf_NoPlace | cf_Broken | cf_NoText | cf_NoName | cf_NoRow => walk_at "c")
    (case rf_NoCode | rf_NoNumber => walk_at "r")
    (case ef => walk_at "e")
    (case su_0 | su_1 | su_3 | su_4 | su_5 | su_6 | su_7 | su_8 | su_9 | su_10 | su_12 | su_13 | su_14 | su_15 | su_16 | su_17 => walk_at "su")
    (case su_2 | su_11 => walk_at "k")
    (case n_range | n_len | n_sorted | n_list | n_sum | n_max | n_isinstance | n_ValueError | n_tuple | n_int | n_bool | n_enumerate | n_min => walk_at "n")
    (case g_WHOLE | g_LONGEST => walk_at "g")
    (case d__law_decks | d__law_draw | d__law_drawn_lengths | d__law_words | d_room_of | d_need_words | d_figures_of | d_low_bits | d_words_by | d__law_let | d__law_refused | d__law_shaped | d__law_good | d_lengths_by | d_joinings_of | d_least_lengths | d_counts_of | d__law_text | d_law => walk_at "d")
#print axioms PySem.Challenge.cw_packhall_k09_words_by_lengths_holds

