import PyProof.Rows.All
import HandS.ForMost
import HandS.Wide
import HandS.Gcd
import HandS.SortInts
import HandS.Flow
import HandS.Style
import HandS.Deep
import HandS.TupAny
import KE.KSortedM
import HandS.Steps
import HandS.Conv
import HandS.Defaults
import HandS.Head0
import HandS.Head1
import HandS.Head2
import HandS.HeadEnd
import HandS.HeadHook1
import HandS.HeadHook2
import HandS.ExcInit
import HandS.Codes
import KE.KExcSuper
import HandS.ExcField
import HandS.ExcIs
import HandS.ExcOwn
import KE.KExcIs
import HandS.Iter
import HandS.Zip
import KE.DataCmp
import HandS.Dict
import HandS.Star
import HandS.IsInst
import PyProof.ReprLen
import PyProof.Rows.ReprOcc
import PySem.Challenge.RW_trunkweb_k02_whole_shortest_paths
set_option Elab.async false
set_option linter.all false
/-! text DL0 -/
section
set_option maxRecDepth 100000
set_option maxHeartbeats 4000000
/-! the data layer, part 0: data, modes, what represents what -/
namespace DL
open PySem PySem.Spec PyProof.Rows L2

inductive DV where
  | non | bl (b : Bool) | int (i : Int) | str (x : Str)
  | tup (ds : List DV) | lst (ds : List DV)
  | dct (ks : List Key) (ds : List DV)
  | obj (c : Str) (ns : List Str) (ds : List DV)

abbrev EnvD := List (Option DV)
inductive Rs (α : Type) where
  | ok (a : α) | ex (c : Str) (d : DV) | stuck
@[reducible] def Rs.bind {α β : Type} (r : Rs α) (f : α → Rs β) : Rs β := match r with
  | .ok a => f a
  | .ex c d => .ex c d
  | .stuck => .stuck
inductive Out where
  | nx (ρ : EnvD) | rt (d : DV) (ρ : EnvD) | bk (ρ : EnvD) | ct (ρ : EnvD) | ex (c : Str) (d : DV) | stuck
theorem bind_ok {α β : Type} {r : Rs α} {f : α → Rs β} {b : β} (h : r.bind f = .ok b) : ∃ a, r = .ok a ∧ f a = .ok b := by
  cases r with
  | ok a => exact ⟨a, rfl, h⟩
  | ex c d => cases h
  | stuck => cases h

/-- modes: frozen, borrowed (ahead of the call), peeked, owned list or dict, tuple of .., owned object, peeked object -/
inductive Md where
  | fr | bo | sc | yg | pk (m : Md) | own (m : Md) | tu (m : Md) | ob (m : Md) | po (m : Md)
  deriving DecidableEq
@[reducible] def Md.stor : Md → Bool
  | .fr => true
  | .yg => true
  | .bo => true
  | .sc => true
  | .pk _ => false
  | .own m => m.stor
  | .tu m => m.stor
  | .ob m => m.stor
  | .po _ => false
@[reducible] def Md.peek : Md → Md
  | .fr => .fr
  | .yg => .yg
  | .bo => .bo
  | .sc => .sc
  | .pk m => .pk m.peek
  | .own m => .pk m.peek
  | .tu m => .tu m.peek
  | .ob m => .po m.peek
  | .po m => .po m.peek
@[reducible] def Md.kid : Md → Md
  | .fr => .fr
  | .yg => .yg
  | .bo => .bo
  | .sc => .fr
  | .pk m => m
  | .own m => m
  | .tu m => m
  | .ob m => m
  | .po m => m
/-- is it data that DA reads -/
@[reducible] def Md.rd : Md → Bool
  | .fr => true
  | .yg => true
  | .bo => true
  | .sc => false
  | .pk m => m.rd
  | .own m => m.rd
  | .tu m => m.rd
  | .ob m => m.rd
  | .po m => m.rd
/-- no place of it is owned -/
@[reducible] def Md.free : Md → Bool
  | .fr => true
  | .yg => true
  | .bo => true
  | .sc => true
  | .pk m => m.free
  | .own _ => false
  | .tu m => m.free
  | .ob _ => false
  | .po m => m.free

structure Cxt where
  K : PySem.W.Frag
  mg : Str → Option Value
  Bp : Hp
  F0 : Hp
  io : List (Nat × V × Md)

mutual
def DA (K : PySem.W.Frag) (mg : Str → Option Value) (F : Hp) : DV → V → Prop
  | .non, v => v = .non
  | .bl b, v => v = .bl b
  | .int i, v => v = .int i
  | .str x, v => v = .str x
  | .tup ds, v => ∃ a vs, v = .ref a ∧ SqT K F a vs ∧ DAs K mg F ds vs
  | .lst ds, v => ∃ a vs, v = .ref a ∧ Rd F a (.lst vs) ∧ DAs K mg F ds vs
  | .dct ks ds, v => ∃ a vs, v = .ref a ∧ (F a = some (.dK (ks.zip vs)) ∧ ks.length = vs.length) ∧ DAs K mg F ds vs
  | .obj c ns ds, v => ∃ a vs, v = .ref a ∧ (∃ C dx, mg c = some (.ref C) ∧ F a = some (.ins C dx (ns.zip vs)) ∧ ns.length = vs.length) ∧ DAs K mg F ds vs
def DAs (K : PySem.W.Frag) (mg : Str → Option Value) (F : Hp) : List DV → List V → Prop
  | [], vs => vs = []
  | d :: ds, vs => ∃ v r, vs = v :: r ∧ DA K mg F d v ∧ DAs K mg F ds r
end

mutual
/-- frozen data whose lists are new since the function began -/
def DY (K : PySem.W.Frag) (F0 F : Hp) : DV → V → Prop
  | .non, v => v = .non
  | .bl b, v => v = .bl b
  | .int i, v => v = .int i
  | .str x, v => v = .str x
  | .tup ds, v => ∃ a vs, v = .ref a ∧ SqT K F a vs ∧ DYs K F0 F ds vs
  | .lst ds, v => ∃ a vs, v = .ref a ∧ (F a = some (.lst vs) ∧ F0 a = none) ∧ DYs K F0 F ds vs
  | .dct _ _, _ => False
  | .obj _ _ _, _ => False
def DYs (K : PySem.W.Frag) (F0 F : Hp) : List DV → List V → Prop
  | [], vs => vs = []
  | d :: ds, vs => ∃ v r, vs = v :: r ∧ DY K F0 F d v ∧ DYs K F0 F ds r
end

def kids : DV → List DV
  | .tup ds => ds
  | .lst ds => ds
  | .dct _ ds => ds
  | .obj _ _ ds => ds
  | _ => []
/-- the node of a list, a dict, an instance -/
def Node (mg : Str → Option Value) (d : DV) (vs : List V) (o : HO) : Prop := match d with
  | .lst _ => o = .lst vs
  | .dct ks _ => o = .dK (ks.zip vs) ∧ ks.length = vs.length
  | .obj c ns _ => ∃ C dx, mg c = some (.ref C) ∧ o = .ins C dx (ns.zip vs) ∧ ns.length = vs.length
  | _ => False
/-- such a node that is read -/
def RdNode (K : PySem.W.Frag) (mg : Str → Option Value) (H : Hp) (a : Addr) (d : DV) (vs : List V) : Prop := match d with
  | .lst _ => Rd H a (.lst vs)
  | .dct ks _ => H a = some (.dK (ks.zip vs)) ∧ ks.length = vs.length
  | .obj c ns _ => ∃ C dx, mg c = some (.ref C) ∧ H a = some (.ins C dx (ns.zip vs)) ∧ ns.length = vs.length
  | _ => False
def isLD : DV → Bool
  | .lst _ => true
  | .dct _ _ => true
  | _ => false
def isObj : DV → Bool
  | .obj _ _ _ => true
  | _ => false
def isTup : DV → Bool
  | .tup _ => true
  | _ => false
/-- is this data's node of the kind that this mode speaks of -/
def Md.on : Md → DV → Bool
  | .own _, d => isLD d
  | .pk _, d => isLD d
  | .tu _, d => isTup d
  | .ob _, d => isObj d
  | .po _, d => isObj d
  | _, _ => false

def Alls (R : DV → V → List Addr → Prop) : List DV → List V → List Addr → Prop
  | [], vs, fp => vs = [] ∧ fp = []
  | d :: ds, vs, fp => ∃ v r f1 f2, vs = v :: r ∧ fp = f1 ++ f2 ∧ R d v f1 ∧ Alls R ds r f2

/-- v stands for the data d in this mode; fp: the owned addresses -/
def At (C : Cxt) (F H : Hp) : Md → DV → V → List Addr → Prop
  | .fr, d, v, fp => fp = [] ∧ DA C.K C.mg F d v
  | .yg, d, v, fp => fp = [] ∧ DY C.K C.F0 F d v
  | .bo, d, v, fp => fp = [] ∧ DA C.K C.mg C.Bp d v
  | .sc, d, v, fp => fp = [] ∧ ∃ (a : Addr) (ns : List Int), v = .ref a ∧ d = .lst (ns.map DV.int) ∧ SqL C.K F a (ns.map V.int)
  | .pk m, d, v, fp => if isLD d = true then ∃ a vs, v = .ref a ∧ RdNode C.K C.mg H a d vs ∧ Alls (At C F H m) (kids d) vs fp else fp = [] ∧ DA C.K C.mg F d v
  | .po m, d, v, fp => if isObj d = true then ∃ a vs, v = .ref a ∧ RdNode C.K C.mg H a d vs ∧ Alls (At C F H m) (kids d) vs fp else fp = [] ∧ DA C.K C.mg F d v
  | .own m, d, v, fp => if isLD d = true then ∃ a vs o fc, v = .ref a ∧ F a = none ∧ C.Bp a = none ∧ H a = some o ∧ Node C.mg d vs o ∧ fp = a :: fc ∧ Alls (At C F H m) (kids d) vs fc else fp = [] ∧ DA C.K C.mg F d v
  | .ob m, d, v, fp => if isObj d = true then ∃ a vs o fc, v = .ref a ∧ F a = none ∧ C.Bp a = none ∧ H a = some o ∧ Node C.mg d vs o ∧ fp = a :: fc ∧ Alls (At C F H m) (kids d) vs fc else fp = [] ∧ DA C.K C.mg F d v
  | .tu m, d, v, fp => if isTup d = true then ∃ a vs, v = .ref a ∧ SqT C.K F a vs ∧ Alls (At C F H m) (kids d) vs fp else fp = [] ∧ DA C.K C.mg F d v

/-! ### heaps -/
theorem same_rd {H H' : Hp} {a : Addr} {u : HO} (e : Same H H') (h : Rd H a u) : Rd H' a u := by
  rcases h with h | ⟨o, h⟩
  · exact .inl (e _ _ h)
  · exact .inr ⟨o, e _ _ h⟩
theorem same_sqt {K : PySem.W.Frag} {H H' : Hp} {a : Addr} {xs : List V} (e : Same H H') (h : SqT K H a xs) : SqT K H' a xs := by
  rcases h with (h | ⟨o, h⟩) | h
  · exact .inl (.inl (e _ _ h))
  · exact .inl (.inr ⟨o, e _ _ h⟩)
  · exact .inr h
theorem same_upd {H : Hp} {p : Addr} {o : HO} (h : H p = none) : Same H (upd H p o) := fun b x e => by
  rw [upd_ne (ne_of_none e h)]
  exact e
theorem Same.none' {H H' : Hp} (e : Same H H') {a : Addr} (h : H' a = none) : H a = none := e.free h

/-! ### frozen data -/
section
variable {K : PySem.W.Frag} {mg : Str → Option Value} {F F' : Hp}
mutual
theorem DA.mono (e : Same F F') : ∀ (d : DV) (v : V), DA K mg F d v → DA K mg F' d v
  | .non, _, h => h
  | .bl _, _, h => h
  | .int _, _, h => h
  | .str _, _, h => h
  | .tup ds, _, ⟨a, vs, h1, h2, h3⟩ => ⟨a, vs, h1, same_sqt e h2, DAs.mono e ds vs h3⟩
  | .lst ds, _, ⟨a, vs, h1, h2, h3⟩ => ⟨a, vs, h1, same_rd e h2, DAs.mono e ds vs h3⟩
  | .dct _ ds, _, ⟨a, vs, h1, ⟨h2, h4⟩, h3⟩ => ⟨a, vs, h1, ⟨e _ _ h2, h4⟩, DAs.mono e ds vs h3⟩
  | .obj _ _ ds, _, ⟨a, vs, h1, ⟨C, dx, g, h2, h4⟩, h3⟩ => ⟨a, vs, h1, ⟨C, dx, g, e _ _ h2, h4⟩, DAs.mono e ds vs h3⟩
theorem DAs.mono (e : Same F F') : ∀ (ds : List DV) (vs : List V), DAs K mg F ds vs → DAs K mg F' ds vs
  | [], _, h => h
  | d :: ds, _, ⟨v, r, h1, h2, h3⟩ => ⟨v, r, h1, DA.mono e d v h2, DAs.mono e ds r h3⟩
end
mutual
theorem DY.da {F0 : Hp} : ∀ (d : DV) (v : V), DY K F0 F d v → DA K mg F d v
  | .non, _, h => h
  | .bl _, _, h => h
  | .int _, _, h => h
  | .str _, _, h => h
  | .tup ds, _, ⟨a, vs, h1, h2, h3⟩ => ⟨a, vs, h1, h2, DYs.das ds vs h3⟩
  | .lst ds, _, ⟨a, vs, h1, h2, h3⟩ => ⟨a, vs, h1, .inl h2.1, DYs.das ds vs h3⟩
  | .dct _ ds, _, h => (by exact h.elim)
  | .obj _ _ ds, _, h => (by exact h.elim)
theorem DYs.das {F0 : Hp} : ∀ (ds : List DV) (vs : List V), DYs K F0 F ds vs → DAs K mg F ds vs
  | [], _, h => h
  | d :: ds, _, ⟨v, r, h1, h2, h3⟩ => ⟨v, r, h1, DY.da d v h2, DYs.das ds r h3⟩
end
mutual
theorem DY.mono {F0 F1 : Hp} (e : Same F F') (e0 : ∀ a, F0 a = none → F1 a = none) : ∀ (d : DV) (v : V), DY K F0 F d v → DY K F1 F' d v
  | .non, _, h => h
  | .bl _, _, h => h
  | .int _, _, h => h
  | .str _, _, h => h
  | .tup ds, _, ⟨a, vs, h1, h2, h3⟩ => ⟨a, vs, h1, same_sqt e h2, DYs.mono e e0 ds vs h3⟩
  | .lst ds, _, ⟨a, vs, h1, h2, h3⟩ => ⟨a, vs, h1, ⟨e _ _ h2.1, e0 a h2.2⟩, DYs.mono e e0 ds vs h3⟩
  | .dct _ ds, _, h => (by exact h.elim)
  | .obj _ _ ds, _, h => (by exact h.elim)
theorem DYs.mono {F0 F1 : Hp} (e : Same F F') (e0 : ∀ a, F0 a = none → F1 a = none) : ∀ (ds : List DV) (vs : List V), DYs K F0 F ds vs → DYs K F1 F' ds vs
  | [], _, h => h
  | d :: ds, _, ⟨v, r, h1, h2, h3⟩ => ⟨v, r, h1, DY.mono e e0 d v h2, DYs.mono e e0 ds r h3⟩
end
theorem DAs.length : ∀ {ds : List DV} {vs : List V}, DAs K mg F ds vs → ds.length = vs.length
  | [], _, h => by cases h; rfl
  | d :: ds, _, ⟨v, r, h1, _, h3⟩ => by
    subst h1
    rw [List.length_cons, List.length_cons, DAs.length h3]
theorem DAs.get : ∀ {ds : List DV} {vs : List V} {i : Nat} {d : DV}, DAs K mg F ds vs → ds[i]? = some d → ∃ v, vs[i]? = some v ∧ DA K mg F d v
  | [], _, i, d, _, e => by simp at e
  | d :: ds, _, 0, _, ⟨v, r, h1, h2, _⟩, e => by
    subst h1
    simp at e
    subst e
    exact ⟨v, rfl, h2⟩
  | d :: ds, _, i + 1, _, ⟨v, r, h1, _, h3⟩, e => by
    subst h1
    exact DAs.get h3 (i := i) (by simpa using e)
end

/-! ### Alls -/
section
variable {R R' : DV → V → List Addr → Prop}
theorem Alls.length : ∀ {ds : List DV} {vs : List V} {fp : List Addr}, Alls R ds vs fp → ds.length = vs.length
  | [], _, _, h => by cases h.1; rfl
  | d :: ds, _, _, ⟨v, r, f1, f2, h1, _, _, h3⟩ => by
    subst h1
    rw [List.length_cons, List.length_cons, Alls.length h3]
theorem Alls.imp : ∀ {ds : List DV} {vs : List V} {fp : List Addr}, Alls R ds vs fp → (∀ d v f, (∀ a ∈ f, a ∈ fp) → R d v f → R' d v f) → Alls R' ds vs fp
  | [], _, _, h, _ => h
  | d :: ds, _, _, ⟨v, r, f1, f2, h1, h2, h3, h4⟩, k => ⟨v, r, f1, f2, h1, h2, k d v f1 (fun a ha => by rw [h2]; exact List.mem_append_left _ ha) h3,
      Alls.imp h4 fun d v f hf => k d v f fun a ha => by rw [h2]; exact List.mem_append_right _ (hf a ha)⟩
/-- footprints forgotten -/
theorem Alls.pt : ∀ {ds : List DV} {vs : List V} {fp : List Addr}, Alls R ds vs fp → (∀ d v f, R d v f → R' d v []) → Alls R' ds vs []
  | [], _, _, h, _ => ⟨h.1, rfl⟩
  | d :: ds, _, _, ⟨v, r, f1, f2, h1, h2, h3, h4⟩, k => ⟨v, r, [], [], h1, rfl, k d v f1 h3, Alls.pt h4 k⟩
theorem Alls.das {K : PySem.W.Frag} {mg : Str → Option Value} {F : Hp} : ∀ {ds : List DV} {vs : List V} {fp : List Addr}, Alls R ds vs fp → (∀ d v f, (∀ a ∈ f, a ∈ fp) → R d v f → DA K mg F d v) → DAs K mg F ds vs
  | [], _, _, h, _ => h.1
  | d :: ds, _, _, ⟨v, r, f1, f2, h1, h2, h3, h4⟩, k => ⟨v, r, h1, k d v f1 (fun a ha => by rw [h2]; exact List.mem_append_left _ ha) h3,
      Alls.das h4 fun d v f hf => k d v f fun a ha => by rw [h2]; exact List.mem_append_right _ (hf a ha)⟩
theorem Alls.of_das {K : PySem.W.Frag} {mg : Str → Option Value} {F : Hp} : ∀ {ds : List DV} {vs : List V}, DAs K mg F ds vs → (∀ d v, DA K mg F d v → R d v []) → Alls R ds vs []
  | [], _, h, _ => ⟨h, rfl⟩
  | d :: ds, _, ⟨v, r, h1, h2, h3⟩, k => ⟨v, r, [], [], h1, rfl, k d v h2, Alls.of_das h3 k⟩
theorem Alls.of_dys {K : PySem.W.Frag} {F0 F : Hp} : ∀ {ds : List DV} {vs : List V}, DYs K F0 F ds vs → (∀ d v, DY K F0 F d v → R d v []) → Alls R ds vs []
  | [], _, h, _ => ⟨h, rfl⟩
  | d :: ds, _, ⟨v, r, h1, h2, h3⟩, k => ⟨v, r, [], [], h1, rfl, k d v h2, Alls.of_dys h3 k⟩
theorem Alls.dys {K : PySem.W.Frag} {F0 F : Hp} : ∀ {ds : List DV} {vs : List V} {fp : List Addr}, Alls R ds vs fp → (∀ d v f, R d v f → DY K F0 F d v) → DYs K F0 F ds vs
  | [], _, _, h, _ => h.1
  | d :: ds, _, _, ⟨v, r, f1, f2, h1, h2, h3, h4⟩, k => ⟨v, r, h1, k d v f1 h3, Alls.dys h4 k⟩
theorem Alls.nil_fp : ∀ {ds : List DV} {vs : List V} {fp : List Addr}, Alls R ds vs fp → (∀ d v f, R d v f → f = []) → fp = []
  | [], _, _, h, _ => h.2
  | d :: ds, _, _, ⟨v, r, f1, f2, h1, h2, h3, h4⟩, k => by rw [h2, k d v f1 h3, Alls.nil_fp h4 k]; rfl
theorem Alls.get : ∀ {ds : List DV} {vs : List V} {fp : List Addr} {i : Nat} {d : DV}, Alls R ds vs fp → ds[i]? = some d → ∃ v f, vs[i]? = some v ∧ R d v f ∧ ∀ a ∈ f, a ∈ fp
  | [], _, _, i, d, _, e => by simp at e
  | d :: ds, _, _, 0, _, ⟨v, r, f1, f2, h1, h2, h3, _⟩, e => by
    subst h1
    simp at e
    subst e
    exact ⟨v, f1, rfl, h3, fun a ha => by rw [h2]; exact List.mem_append_left _ ha⟩
  | d :: ds, _, _, i + 1, _, ⟨v, r, f1, f2, h1, h2, _, h4⟩, e => by
    subst h1
    obtain ⟨w, f, e1, e2, e3⟩ := Alls.get h4 (i := i) (by simpa using e)
    exact ⟨w, f, by simpa using e1, e2, fun a ha => by rw [h2]; exact List.mem_append_right _ (e3 a ha)⟩
theorem Alls.append : ∀ {ds es : List DV} {vs ws : List V} {f g : List Addr}, Alls R ds vs f → Alls R es ws g → Alls R (ds ++ es) (vs ++ ws) (f ++ g)
  | [], _, _, _, _, _, h, k => by rw [h.1, h.2]; exact k
  | d :: ds, _, _, _, _, _, ⟨v, r, f1, f2, h1, h2, h3, h4⟩, k => ⟨v, _, f1, f2 ++ _, by rw [h1]; rfl, by rw [h2, List.append_assoc], h3, Alls.append h4 k⟩
theorem Alls.one {d : DV} {v : V} {f : List Addr} (h : R d v f) : Alls R [d] [v] f := ⟨v, [], f, [], rfl, by rw [List.append_nil], h, rfl, rfl⟩
end

/-! ### At -/
section
variable {C : Cxt} {F F' H H' : Hp}
theorem RdNode.mono {K : PySem.W.Frag} {mg : Str → Option Value} {a : Addr} {d : DV} {vs : List V} (e : Same H H') (h : RdNode K mg H a d vs) : RdNode K mg H' a d vs := by
  cases d with
  | lst ds => exact same_rd e h
  | dct ks ds => exact ⟨e _ _ h.1, h.2⟩
  | obj c ns ds => obtain ⟨C, dx, g, h1, h2⟩ := h; exact ⟨C, dx, g, e _ _ h1, h2⟩
  | _ => exact h
theorem Node.rd {K : PySem.W.Frag} {mg : Str → Option Value} {a : Addr} {d : DV} {vs : List V} {o : HO} (h : Node mg d vs o) (e : H a = some o) : RdNode K mg H a d vs := by
  cases d with
  | lst ds => obtain rfl : o = .lst vs := h; exact .inl e
  | dct ks ds => obtain ⟨rfl, l⟩ := h; exact ⟨e, l⟩
  | obj c ns ds => obtain ⟨C, dx, g, rfl, l⟩ := h; exact ⟨C, dx, g, e, l⟩
  | _ => exact h
theorem RdNode.da {K : PySem.W.Frag} {mg : Str → Option Value} {a : Addr} {d : DV} {vs : List V} (h : RdNode K mg H a d vs) (k : DAs K mg H (kids d) vs) : DA K mg H d (.ref a) := by
  cases d with
  | lst ds => exact ⟨a, vs, rfl, h, k⟩
  | dct ks ds => exact ⟨a, vs, rfl, h, k⟩
  | obj c ns ds => exact ⟨a, vs, rfl, h, k⟩
  | _ => exact h.elim

theorem At.mono : ∀ {m : Md} {d : DV} {v : V} {fp : List Addr}, At C F H m d v fp → Same F F' → (∀ a ∈ fp, F' a = none) → (∀ a ∈ fp, H' a = H a) → (m.stor = true ∨ Same H H') → At C F' H' m d v fp := by
  intro m
  induction m with
  | fr => intro d v fp h e _ _ _; exact ⟨h.1, DA.mono e _ _ h.2⟩
  | yg => intro d v fp h e _ _ _; exact ⟨h.1, DY.mono e (fun _ h => h) _ _ h.2⟩
  | bo => intro d v fp h e _ _ _; exact h
  | sc => intro d v fp ⟨h, a, ns, h1, h2, h3⟩ e _ _ _; exact ⟨h, a, ns, h1, h2, e.seq h3⟩
  | pk m ih =>
    intro d v fp h e n k s
    have s : Same H H' := by
      rcases s with s | s
      · cases s
      · exact s
    unfold At at h ⊢
    split at h
    · rename_i q
      rw [if_pos q]
      obtain ⟨a, vs, h1, h2, h3⟩ := h
      exact ⟨a, vs, h1, h2.mono s, h3.imp fun d v f hf x => ih x e (fun a ha => n a (hf a ha)) (fun a ha => k a (hf a ha)) (.inr s)⟩
    · rename_i q
      rw [if_neg q]
      exact ⟨h.1, DA.mono e _ _ h.2⟩
  | po m ih =>
    intro d v fp h e n k s
    have s : Same H H' := by
      rcases s with s | s
      · cases s
      · exact s
    unfold At at h ⊢
    split at h
    · rename_i q
      rw [if_pos q]
      obtain ⟨a, vs, h1, h2, h3⟩ := h
      exact ⟨a, vs, h1, h2.mono s, h3.imp fun d v f hf x => ih x e (fun a ha => n a (hf a ha)) (fun a ha => k a (hf a ha)) (.inr s)⟩
    · rename_i q
      rw [if_neg q]
      exact ⟨h.1, DA.mono e _ _ h.2⟩
  | own m ih =>
    intro d v fp h e n k s
    unfold At at h ⊢
    split at h
    · rename_i q
      rw [if_pos q]
      obtain ⟨a, vs, o, fc, h1, h2, h3, h4, h5, h6, h7⟩ := h
      subst h6
      exact ⟨a, vs, o, fc, h1, n a List.mem_cons_self, h3, (k a List.mem_cons_self).trans h4, h5, rfl, h7.imp fun d v f hf x => ih x e (fun a ha => n a (List.mem_cons_of_mem _ (hf a ha))) (fun a ha => k a (List.mem_cons_of_mem _ (hf a ha))) s⟩
    · rename_i q
      rw [if_neg q]
      exact ⟨h.1, DA.mono e _ _ h.2⟩
  | ob m ih =>
    intro d v fp h e n k s
    unfold At at h ⊢
    split at h
    · rename_i q
      rw [if_pos q]
      obtain ⟨a, vs, o, fc, h1, h2, h3, h4, h5, h6, h7⟩ := h
      subst h6
      exact ⟨a, vs, o, fc, h1, n a List.mem_cons_self, h3, (k a List.mem_cons_self).trans h4, h5, rfl, h7.imp fun d v f hf x => ih x e (fun a ha => n a (List.mem_cons_of_mem _ (hf a ha))) (fun a ha => k a (List.mem_cons_of_mem _ (hf a ha))) s⟩
    · rename_i q
      rw [if_neg q]
      exact ⟨h.1, DA.mono e _ _ h.2⟩
  | tu m ih =>
    intro d v fp h e n k s
    unfold At at h ⊢
    split at h
    · rename_i q
      rw [if_pos q]
      obtain ⟨a, vs, h1, h2, h3⟩ := h
      exact ⟨a, vs, h1, same_sqt e h2, h3.imp fun d v f hf x => ih x e (fun a ha => n a (hf a ha)) (fun a ha => k a (hf a ha)) s⟩
    · rename_i q
      rw [if_neg q]
      exact ⟨h.1, DA.mono e _ _ h.2⟩

/-- what it stands for, read at H -/
theorem At.da (s : Same F H) (b : Same C.Bp H) : ∀ {m : Md} {d : DV} {v : V} {fp : List Addr}, m.rd = true → At C F H m d v fp → DA C.K C.mg H d v := by
  intro m
  induction m with
  | fr => intro d v fp _ h; exact DA.mono s _ _ h.2
  | yg => intro d v fp _ h; exact DA.mono s _ _ (DY.da _ _ h.2)
  | bo => intro d v fp _ h; exact DA.mono b _ _ h.2
  | sc => intro d v fp q; cases q
  | pk m ih | po m ih =>
    intro d v fp q h
    unfold At at h
    split at h
    · obtain ⟨a, vs, rfl, h2, h3⟩ := h
      exact h2.da (h3.das fun d v f _ x => ih q x)
    · exact DA.mono s _ _ h.2
  | own m ih | ob m ih =>
    intro d v fp q h
    unfold At at h
    split at h
    · obtain ⟨a, vs, o, fc, rfl, h2, h3, h4, h5, h6, h7⟩ := h
      exact (h5.rd h4).da (h7.das fun d v f _ x => ih q x)
    · exact DA.mono s _ _ h.2
  | tu m ih =>
    intro d v fp q0 h
    unfold At at h
    split at h
    · rename_i q
      cases d with
      | tup ds =>
        obtain ⟨a, vs, rfl, h2, h3⟩ := h
        exact ⟨a, vs, rfl, same_sqt s h2, h3.das fun d v f _ x => ih q0 x⟩
      | _ => cases q
    · exact DA.mono s _ _ h.2
theorem At.free_nil : ∀ {m : Md} {d : DV} {v : V} {fp : List Addr}, m.free = true → At C F H m d v fp → fp = [] := by
  intro m
  induction m with
  | fr => intro d v fp _ h; exact h.1
  | yg => intro d v fp _ h; exact h.1
  | bo => intro d v fp _ h; exact h.1
  | sc => intro d v fp _ h; exact h.1
  | pk m ih | po m ih | tu m ih =>
    intro d v fp q h
    unfold At at h
    split at h
    · obtain ⟨a, vs, _, _, h3⟩ := h
      exact h3.nil_fp fun d v f x => ih q x
    · exact h.1
  | own m ih | ob m ih => intro d v fp q; cases q
theorem At.peek : ∀ {m : Md} {d : DV} {v : V} {fp : List Addr}, At C F H m d v fp → At C F H m.peek d v [] := by
  intro m
  induction m with
  | fr => intro d v fp h; exact ⟨rfl, h.2⟩
  | yg => intro d v fp h; exact ⟨rfl, h.2⟩
  | bo => intro d v fp h; exact ⟨rfl, h.2⟩
  | sc => intro d v fp h; exact ⟨rfl, h.2⟩
  | pk m ih | po m ih | tu m ih =>
    intro d v fp h
    unfold At at h
    unfold Md.peek At
    split at h
    · rename_i q
      rw [if_pos q]
      obtain ⟨a, vs, h1, h2, h3⟩ := h
      exact ⟨a, vs, h1, h2, h3.pt fun d v f x => ih x⟩
    · rename_i q
      rw [if_neg q]
      exact ⟨rfl, h.2⟩
  | own m ih | ob m ih =>
    intro d v fp h
    unfold At at h
    unfold Md.peek At
    split at h
    · rename_i q
      rw [if_pos q]
      obtain ⟨a, vs, o, fc, h1, h2, h3, h4, h5, h6, h7⟩ := h
      exact ⟨a, vs, h1, h5.rd h4, h7.pt fun d v f x => ih x⟩
    · rename_i q
      rw [if_neg q]
      exact ⟨rfl, h.2⟩
end
end DL
end

/-! text DL1 -/
section
set_option maxRecDepth 100000
set_option maxHeartbeats 4000000
/-! the data layer, part 1: the state and what a reading simulates -/
namespace DL
open PySem PySem.Spec PyProof.Rows L2

abbrev Ent := Md × DV × V
def SlotAt (C : Cxt) (F H : Hp) (m : Md) (s : Option V) (r : Option DV) (f : List Addr) : Prop := match r with
  | none => f = []
  | some d => ∃ v, s = some v ∧ At C F H m d v f
def Slots (C : Cxt) (F H : Hp) : List Md → L2.St → EnvD → List Addr → Prop
  | [], [], [], fp => fp = []
  | m :: Γ, s :: σ, r :: ρ, fp => ∃ f1 f2, fp = f1 ++ f2 ∧ SlotAt C F H m s r f1 ∧ Slots C F H Γ σ ρ f2
  | _, _, _, _ => False
def Exs (C : Cxt) (F H : Hp) : List Ent → List Addr → Prop
  | [], fp => fp = []
  | (m, d, v) :: L, fp => ∃ f1 f2, fp = f1 ++ f2 ∧ At C F H m d v f1 ∧ Exs C F H L f2

/-- a tuple, locked or not -/
def tupO : HO → Bool
  | .tup _ => true
  | .frz _ (.tup _) => true
  | _ => false
structure Fit (C : Cxt) (F H : Hp) : Prop where
  ff : Same C.F0 F
  fh : Same F H
  bh : Same C.Bp H
  f0 : ∀ a, F a ≠ none → C.F0 a ≠ none ∨ C.Bp a = none ∨ ∃ o, C.Bp a = some o ∧ tupO o = true
  tp : ∀ a o, H a = some o → tupO o = true → F a = some o
structure Rep (C : Cxt) (F H : Hp) (Γ : List Md) (σ : L2.St) (ρ : EnvD) (L : List Ent) : Prop where
  fit : Fit C F H
  io : ∀ p ∈ C.io, σ[p.1]? = some (some p.2.1) ∧ Γ[p.1]? = some p.2.2
  own : ∃ f1 f2, (f1 ++ f2).Nodup ∧ Slots C F H Γ σ ρ f1 ∧ Exs C F H L f2

section
variable {C : Cxt} {F F' H H' : Hp} {Γ Γ' : List Md} {σ σ' : L2.St} {ρ ρ' : EnvD} {L L' : List Ent} {m m' : Md} {d : DV} {v : V} {fp : List Addr}

/-- something else than a tuple is laid -/
theorem Fit.alloc (e : Fit C F H) (s : Same H H') (nt : ∀ a o, H' a = some o → tupO o = true → H a = some o) : Fit C F H' := ⟨e.ff, e.fh.trans s, e.bh.trans s, e.f0, fun a o h q => e.tp a o (nt a o h q) q⟩
/-- tuples that H holds are frozen -/
def allT (F H : Hp) : Hp := fun a => match H a with
  | some o => if tupO o = true then some o else F a
  | none => F a
theorem allT_same (s : Same F H) : Same F (allT F H) := fun a o e => by
  have h := s a o e
  unfold allT
  rw [h]
  show (if tupO o = true then some o else F a) = some o
  split
  · rfl
  · exact e
theorem allT_le (s : Same F H) : Same (allT F H) H := fun a o e => by
  unfold allT at e
  split at e
  · rename_i u h
    split at e
    · rw [h]; exact e
    · exact s a o e
  · exact s a o e
theorem allT_tp {a : Addr} {o : HO} (h : H a = some o) (q : tupO o = true) : allT F H a = some o := by
  unfold allT
  rw [h]
  exact if_pos q
theorem allT_out {a : Addr} (h : ∀ o, H a = some o → tupO o = false) : allT F H a = F a := by
  unfold allT
  split
  · rename_i o e
    rw [h o e]
    rfl
  · rfl

theorem Slots.mono : ∀ {Γ : List Md} {σ : L2.St} {ρ : EnvD} {fp : List Addr}, Slots C F H Γ σ ρ fp → Same F F' → (∀ a ∈ fp, F' a = none) → (∀ a ∈ fp, H' a = H a) → (Γ.all Md.stor = true ∨ Same H H') → Slots C F' H' Γ σ ρ fp
  | [], [], [], _, h, _, _, _, _ => h
  | m :: Γ, s :: σ, r :: ρ, _, ⟨f1, f2, h1, h2, h3⟩, e, n, k, z => by
    subst h1
    have z1 : m.stor = true ∨ Same H H' := z.imp_left fun z => (Bool.and_eq_true _ _ ▸ (show (m.stor && Γ.all Md.stor) = true from z)).1
    have z2 : Γ.all Md.stor = true ∨ Same H H' := z.imp_left fun z => (Bool.and_eq_true _ _ ▸ (show (m.stor && Γ.all Md.stor) = true from z)).2
    refine ⟨f1, f2, rfl, ?_, Slots.mono h3 e (fun a ha => n a (List.mem_append_right _ ha)) (fun a ha => k a (List.mem_append_right _ ha)) z2⟩
    cases r with
    | none => exact h2
    | some d =>
      obtain ⟨v, h4, h5⟩ := h2
      exact ⟨v, h4, h5.mono e (fun a ha => n a (List.mem_append_left _ ha)) (fun a ha => k a (List.mem_append_left _ ha)) z1⟩
theorem Exs.mono : ∀ {L : List Ent} {fp : List Addr}, Exs C F H L fp → Same F F' → (∀ a ∈ fp, F' a = none) → (∀ a ∈ fp, H' a = H a) → (L.all (fun e => e.1.stor) = true ∨ Same H H') → Exs C F' H' L fp
  | [], _, h, _, _, _, _ => h
  | (m, d, v) :: L, _, ⟨f1, f2, h1, h2, h3⟩, e, n, k, z => by
    subst h1
    have z1 : m.stor = true ∨ Same H H' := z.imp_left fun z => (Bool.and_eq_true _ _ ▸ (show (m.stor && L.all fun e => e.1.stor) = true from z)).1
    have z2 : (L.all fun e => e.1.stor) = true ∨ Same H H' := z.imp_left fun z => (Bool.and_eq_true _ _ ▸ (show (m.stor && L.all fun e => e.1.stor) = true from z)).2
    exact ⟨f1, f2, rfl, h2.mono e (fun a ha => n a (List.mem_append_left _ ha)) (fun a ha => k a (List.mem_append_left _ ha)) z1, Exs.mono h3 e (fun a ha => n a (List.mem_append_right _ ha)) (fun a ha => k a (List.mem_append_right _ ha)) z2⟩
/-- owned addresses are there, and neither frozen nor of before -/
theorem Alls.each {R : DV → V → List Addr → Prop} {P : Addr → Prop} : ∀ {ds : List DV} {vs : List V} {fp : List Addr}, Alls R ds vs fp → (∀ d v f, R d v f → ∀ a ∈ f, P a) → ∀ a ∈ fp, P a
  | [], _, _, h, _, a, ha => by rw [h.2] at ha; cases ha
  | d :: ds, _, _, ⟨v, r, f1, f2, h1, h2, h3, h4⟩, k, a, ha => by
    rw [h2] at ha
    rcases List.mem_append.mp ha with ha | ha
    · exact k d v f1 h3 a ha
    · exact Alls.each h4 k a ha
def Owned (C : Cxt) (F H : Hp) (a : Addr) : Prop := F a = none ∧ C.Bp a = none ∧ ∃ o, H a = some o ∧ Mut (some o)
theorem Node.mut {mg : Str → Option Value} {d : DV} {vs : List V} {o : HO} (h : Node mg d vs o) : Mut (some o) := by
  cases d with
  | lst ds => obtain rfl : o = .lst vs := h; trivial
  | dct ks ds => obtain ⟨rfl, _⟩ := h; trivial
  | obj c ns ds => obtain ⟨C, dx, _, rfl, _⟩ := h; trivial
  | _ => exact h.elim
theorem At.owned : ∀ {m : Md} {d : DV} {v : V} {fp : List Addr}, At C F H m d v fp → ∀ a ∈ fp, Owned C F H a := by
  intro m
  induction m with
  | fr => intro d v fp h a ha; rw [h.1] at ha; cases ha
  | yg => intro d v fp h a ha; rw [h.1] at ha; cases ha
  | bo => intro d v fp h a ha; rw [h.1] at ha; cases ha
  | sc => intro d v fp h a ha; rw [h.1] at ha; cases ha
  | pk m ih | po m ih | tu m ih =>
    intro d v fp h
    unfold At at h
    split at h
    · obtain ⟨a, vs, _, _, h3⟩ := h
      exact h3.each fun d v f x => ih x
    · intro a ha; rw [h.1] at ha; cases ha
  | own m ih | ob m ih =>
    intro d v fp h
    unfold At at h
    split at h
    · obtain ⟨a, vs, o, fc, h1, h2, h3, h4, h5, h6, h7⟩ := h
      intro b hb
      rw [h6] at hb
      rcases List.mem_cons.mp hb with hb | hb
      · rw [hb]; exact ⟨h2, h3, o, h4, h5.mut⟩
      · exact h7.each (fun d v f x => ih x) b hb
    · intro a ha; rw [h.1] at ha; cases ha
theorem Slots.owned : ∀ {Γ : List Md} {σ : L2.St} {ρ : EnvD} {fp : List Addr}, Slots C F H Γ σ ρ fp → ∀ a ∈ fp, Owned C F H a
  | [], [], [], _, h, a, ha => by rw [show _ = _ from h] at ha; cases ha
  | m :: Γ, s :: σ, r :: ρ, _, ⟨f1, f2, h1, h2, h3⟩, a, ha => by
    subst h1
    rcases List.mem_append.mp ha with ha | ha
    · cases r with
      | none => rw [show f1 = [] from h2] at ha; cases ha
      | some d => obtain ⟨v, _, h5⟩ := h2; exact h5.owned a ha
    · exact Slots.owned h3 a ha
theorem Exs.owned : ∀ {L : List Ent} {fp : List Addr}, Exs C F H L fp → ∀ a ∈ fp, Owned C F H a
  | [], _, h, a, ha => by rw [show _ = _ from h] at ha; cases ha
  | (m, d, v) :: L, _, ⟨f1, f2, h1, h2, h3⟩, a, ha => by
    subst h1
    rcases List.mem_append.mp ha with ha | ha
    · exact h2.owned a ha
    · exact Exs.owned h3 a ha

/-- new objects laid -/
theorem Rep.alloc (r : Rep C F H Γ σ ρ L) (s : Same H H') (nt : ∀ a o, H' a = some o → tupO o = true → H a = some o) : Rep C F H' Γ σ ρ L := by
  obtain ⟨f1, f2, nd, a, b⟩ := r.own
  have oa := a.owned
  have ob := b.owned
  refine ⟨r.fit.alloc s nt, r.io, f1, f2, nd, a.mono (Same.refl _) (fun x hx => (oa x hx).1) (fun x hx => ?_) (.inr s), b.mono (Same.refl _) (fun x hx => (ob x hx).1) (fun x hx => ?_) (.inr s)⟩
  · obtain ⟨_, _, o, e, _⟩ := oa x hx
    rw [e]; exact s _ _ e
  · obtain ⟨_, _, o, e, _⟩ := ob x hx
    rw [e]; exact s _ _ e
/-- an entry with nothing owned comes -/
theorem Rep.cons0 (r : Rep C F H Γ σ ρ L) (h : At C F H m d v []) : Rep C F H Γ σ ρ ((m, d, v) :: L) := by
  obtain ⟨f1, f2, nd, a, b⟩ := r.own
  exact ⟨r.fit, r.io, f1, f2, nd, a, [], f2, rfl, h, b⟩
/-- the first entry goes -/
theorem Rep.tail {e : Ent} (r : Rep C F H Γ σ ρ (e :: L)) : Rep C F H Γ σ ρ L := by
  obtain ⟨f1, f2, nd, a, g1, g2, h1, h2, h3⟩ := r.own
  subst h1
  refine ⟨r.fit, r.io, f1, g2, ?_, a, h3⟩
  exact nd.sublist (List.Sublist.append (List.Sublist.refl _) (List.sublist_append_right _ _))
theorem Rep.head (r : Rep C F H Γ σ ρ ((m, d, v) :: L)) : ∃ f, At C F H m d v f := by
  obtain ⟨f1, f2, nd, a, g1, g2, h1, h2, h3⟩ := r.own
  exact ⟨g1, h2⟩
theorem Rep.da (r : Rep C F H Γ σ ρ ((m, d, v) :: L)) (q : m.rd = true) : DA C.K C.mg H d v := by
  obtain ⟨f, h⟩ := r.head
  exact h.da r.fit.fh r.fit.bh q
theorem Rep.fr (r : Rep C F H Γ σ ρ ((.fr, d, v) :: L)) : DA C.K C.mg F d v := by
  obtain ⟨f, h⟩ := r.head
  exact h.2
theorem Rep.free (r : Rep C F H Γ σ ρ ((m, d, v) :: L)) (q : m.free = true) : At C F H m d v [] := by
  obtain ⟨f, h⟩ := r.head
  have e := h.free_nil q
  rw [e] at h
  exact h
/-- the first entry is owned from here on in another mode (or less) -/
theorem Rep.turn (r : Rep C F H Γ σ ρ ((m, d, v) :: L)) (h : ∀ f, At C F H m d v f → ∃ g, g.Sublist f ∧ At C F H m' d v g) : Rep C F H Γ σ ρ ((m', d, v) :: L) := by
  obtain ⟨f1, f2, nd, a, g1, g2, h1, h2, h3⟩ := r.own
  subst h1
  obtain ⟨g, s, h4⟩ := h _ h2
  exact ⟨r.fit, r.io, f1, g ++ g2, nd.sublist (List.Sublist.append (List.Sublist.refl _) (List.Sublist.append s (List.Sublist.refl _))), a, g, g2, rfl, h4, h3⟩
theorem Rep.peek (r : Rep C F H Γ σ ρ ((m, d, v) :: L)) : Rep C F H Γ σ ρ ((m.peek, d, v) :: L) := r.turn fun f h => ⟨[], List.nil_sublist _, h.peek⟩
theorem Rep.swap {a b : Ent} (r : Rep C F H Γ σ ρ (a :: b :: L)) : Rep C F H Γ σ ρ (b :: a :: L) := by
  obtain ⟨f1, f2, nd, s, g1, g2, h1, h2, g3, g4, h3, h4, h5⟩ := r.own
  subst h1
  subst h3
  refine ⟨r.fit, r.io, f1, g3 ++ (g1 ++ g4), ?_, s, g3, g1 ++ g4, rfl, h4, g1, g4, rfl, h2, h5⟩
  refine List.Perm.nodup (l := f1 ++ (g1 ++ (g3 ++ g4))) ?_ nd
  refine List.Perm.append (List.Perm.refl _) ?_
  rw [← List.append_assoc, ← List.append_assoc]
  exact List.Perm.append List.perm_append_comm (List.Perm.refl _)

/-! ### slots -/
theorem Slots.get : ∀ {Γ : List Md} {σ : L2.St} {ρ : EnvD} {fp : List Addr} {i : Nat} {m : Md} {d : DV}, Slots C F H Γ σ ρ fp → Γ[i]? = some m → ρ[i]? = some (some d) → ∃ v f, σ[i]? = some (some v) ∧ At C F H m d v f
  | [], [], [], _, i, _, _, _, h, _ => by simp at h
  | m :: Γ, s :: σ, r :: ρ, _, 0, m', d, ⟨f1, f2, h1, h2, h3⟩, e1, e2 => by
    simp at e1 e2
    subst e1
    subst e2
    obtain ⟨v, h4, h5⟩ := h2
    exact ⟨v, f1, by rw [h4]; rfl, h5⟩
  | m :: Γ, s :: σ, r :: ρ, _, i + 1, m', d, ⟨f1, f2, h1, h2, h3⟩, e1, e2 => by
    obtain ⟨v, f, h4, h5⟩ := Slots.get h3 (i := i) (by simpa using e1) (by simpa using e2)
    exact ⟨v, f, by simpa using h4, h5⟩
theorem Rep.get {i : Nat} (r : Rep C F H Γ σ ρ L) (e1 : Γ[i]? = some m) (e2 : ρ[i]? = some (some d)) : ∃ v f, σ[i]? = some (some v) ∧ At C F H m d v f := by
  obtain ⟨f1, f2, nd, a, b⟩ := r.own
  exact a.get e1 e2
/-- the slot i gets the entry, its old one is dropped -/
theorem Slots.put {m : Md} {d : DV} {v : V} {g : List Addr} (hg : At C F H m d v g) : ∀ {Γ : List Md} {σ : L2.St} {ρ : EnvD} {fp : List Addr} {i : Nat}, Slots C F H Γ σ ρ fp → i < Γ.length →
    ∃ x y z, fp = x ++ (y ++ z) ∧ Slots C F H (Γ.set i m) (σ.set i (some v)) (ρ.set i (some d)) (x ++ (g ++ z))
  | [], [], [], _, i, h, l => by simp at l
  | m1 :: Γ, s :: σ, r :: ρ, _, 0, ⟨f1, f2, h1, h2, h3⟩, _ => ⟨[], f1, f2, h1, g, f2, rfl, ⟨v, rfl, hg⟩, h3⟩
  | m1 :: Γ, s :: σ, r :: ρ, _, i + 1, ⟨f1, f2, h1, h2, h3⟩, l => by
    obtain ⟨x, y, z, h4, h5⟩ := Slots.put hg (i := i) h3 (by simpa using l)
    exact ⟨f1 ++ x, y, z, by rw [h1, h4, List.append_assoc], f1, x ++ (g ++ z), by rw [List.append_assoc], h2, h5⟩
theorem Slots.len : ∀ {Γ : List Md} {σ : L2.St} {ρ : EnvD} {fp : List Addr}, Slots C F H Γ σ ρ fp → σ.length = Γ.length ∧ ρ.length = Γ.length
  | [], [], [], _, _ => ⟨rfl, rfl⟩
  | m :: Γ, s :: σ, r :: ρ, _, ⟨f1, f2, h1, h2, h3⟩ => by
    obtain ⟨a, b⟩ := Slots.len h3
    exact ⟨by rw [List.length_cons, List.length_cons, a], by rw [List.length_cons, List.length_cons, b]⟩
theorem perm3 {α : Type} (a b c d e : List α) : List.Perm ((a ++ (b ++ c)) ++ (d ++ e)) (b ++ ((a ++ (d ++ c)) ++ e)) := by
  have h1 : List.Perm (a ++ (b ++ c)) (b ++ (a ++ c)) := by
    rw [← List.append_assoc, ← List.append_assoc]
    exact List.Perm.append List.perm_append_comm (List.Perm.refl _)
  have h2 : List.Perm ((a ++ c) ++ d) (a ++ (d ++ c)) := by
    rw [List.append_assoc]
    exact List.Perm.append (List.Perm.refl _) List.perm_append_comm
  have h3 := List.Perm.append h1 (List.Perm.refl (d ++ e))
  refine h3.trans ?_
  rw [List.append_assoc b]
  refine List.Perm.append (List.Perm.refl _) ?_
  rw [← List.append_assoc]
  exact List.Perm.append h2 (List.Perm.refl _)
theorem Rep.put {i : Nat} (r : Rep C F H Γ σ ρ ((m, d, v) :: L)) (l : i < Γ.length) (hio : ∀ p ∈ C.io, p.1 ≠ i) : Rep C F H (Γ.set i m) (σ.set i (some v)) (ρ.set i (some d)) L := by
  obtain ⟨f1, f2, nd, a, g1, g2, h1, h2, h3⟩ := r.own
  subst h1
  obtain ⟨x, y, z, h4, h5⟩ := a.put h2 l
  subst h4
  refine ⟨r.fit, fun p hp => ?_, x ++ (g1 ++ z), g2, ?_, h5, h3⟩
  · rw [List.getElem?_set_ne (Ne.symm (hio p hp)), List.getElem?_set_ne (Ne.symm (hio p hp))]
    exact r.io p hp
  · exact (((perm3 x y z g1 g2).nodup nd)).sublist (List.sublist_append_right _ _)
/-- the slot is forgotten -/
theorem Slots.drop : ∀ {Γ : List Md} {σ : L2.St} {ρ : EnvD} {fp : List Addr} {i : Nat} (s : Option V), Slots C F H Γ σ ρ fp → ∃ x y z, fp = x ++ (y ++ z) ∧ Slots C F H Γ (σ.set i s) (ρ.set i none) (x ++ z)
  | [], [], [], _, i, s, h => ⟨[], [], [], h, rfl⟩
  | m1 :: Γ, s1 :: σ, r :: ρ, _, 0, s, ⟨f1, f2, h1, h2, h3⟩ => ⟨[], f1, f2, h1, [], f2, rfl, rfl, h3⟩
  | m1 :: Γ, s1 :: σ, r :: ρ, _, i + 1, s, ⟨f1, f2, h1, h2, h3⟩ => by
    obtain ⟨x, y, z, h4, h5⟩ := Slots.drop (i := i) s h3
    exact ⟨f1 ++ x, y, z, by rw [h1, h4, List.append_assoc], f1, x ++ z, by rw [List.append_assoc], h2, h5⟩

/-! ### freezing -/
def frz (fp : List Addr) (F H : Hp) : Hp := fun a => if a ∈ fp then H a else F a
theorem frz_same (n : ∀ a ∈ fp, F a = none) : Same F (frz fp F H) := fun a o e => by
  unfold frz
  split
  · rename_i h
    rw [n a h] at e
    cases e
  · exact e
theorem frz_le (s : Same F H) : Same (frz fp F H) H := fun a o e => by
  unfold frz at e
  split at e
  · exact e
  · exact s _ _ e
theorem frz_out {a : Addr} (h : a ∉ fp) : frz fp F H a = F a := by
  unfold frz
  rw [if_neg h]
/-- may it be frozen -/
@[reducible] def _root_.DL.Md.fz : Md → Bool
  | .fr => true
  | .yg => true
  | .own m => m.fz
  | .tu m => m.fz
  | .ob m => m.fz
  | _ => false
theorem At.frz : ∀ {m : Md} {d : DV} {v : V} {fp : List Addr}, m.fz = true → At C F H m d v fp → Same F F' → (∀ a ∈ fp, F' a = H a) → DA C.K C.mg F' d v := by
  intro m
  induction m with
  | fr => intro d v fp _ h e _; exact DA.mono e _ _ h.2
  | yg => intro d v fp _ h e _; exact DA.mono e _ _ (DY.da _ _ h.2)
  | bo => intro d v fp q; cases q
  | sc => intro d v fp q; cases q
  | pk m ih | po m ih => intro d v fp q; cases q
  | tu m ih =>
    intro d v fp q h e k
    unfold At at h
    split at h
    · rename_i z
      cases d with
      | tup ds =>
        obtain ⟨a, vs, rfl, h2, h3⟩ := h
        exact ⟨a, vs, rfl, same_sqt e h2, h3.das fun d v f hf x => ih q x e fun a ha => k a (hf a ha)⟩
      | _ => cases z
    · exact DA.mono e _ _ h.2
  | own m ih | ob m ih =>
    intro d v fp q h e k
    unfold At at h
    split at h
    · obtain ⟨a, vs, o, fc, rfl, h2, h3, h4, h5, h6, h7⟩ := h
      subst h6
      exact (h5.rd ((k a List.mem_cons_self).trans h4)).da (h7.das fun d v f hf x => ih q x e fun a ha => k a (List.mem_cons_of_mem _ (hf a ha)))
    · exact DA.mono e _ _ h.2
theorem Rep.freeze (r : Rep C F H Γ σ ρ ((m, d, v) :: L)) (q : m.fz = true) : ∃ F', Same F F' ∧ Rep C F' H Γ σ ρ ((.fr, d, v) :: L) := by
  obtain ⟨f1, f2, nd, a, g1, g2, h1, h2, h3⟩ := r.own
  subst h1
  have o2 := h2.owned
  have s1 : Same F (DL.frz g1 F H) := frz_same fun a ha => (o2 a ha).1
  have nd2 := List.nodup_append.mp nd
  have nd3 := List.nodup_append.mp nd2.2.1
  have d1 : ∀ x ∈ f1, x ∉ g1 := fun x hx hy => nd2.2.2 x hx x (List.mem_append_left _ hy) rfl
  have d2 : ∀ x ∈ g2, x ∉ g1 := fun x hx hy => nd3.2.2 x hy x hx rfl
  refine ⟨DL.frz g1 F H, s1, ⟨r.fit.ff.trans s1, frz_le r.fit.fh, r.fit.bh, fun x hx => ?_, fun x o hx q => s1 _ _ (r.fit.tp x o hx q)⟩, r.io, f1, g2, ?_, ?_, [], g2, rfl, ⟨rfl, ?_⟩, ?_⟩
  · by_cases hm : x ∈ g1
    · exact .inr (.inl (o2 x hm).2.1)
    · rw [frz_out hm] at hx
      exact r.fit.f0 x hx
  · exact nd.sublist (List.Sublist.append (List.Sublist.refl _) (List.sublist_append_right _ _))
  · exact a.mono s1 (fun x hx => by rw [frz_out (d1 x hx)]; exact (a.owned x hx).1) (fun _ _ => rfl) (.inr (Same.refl _))
  · exact h2.frz q s1 fun x hx => by unfold DL.frz; rw [if_pos hx]
  · exact h3.mono s1 (fun x hx => by rw [frz_out (d2 x hx)]; exact (h3.owned x hx).1) (fun _ _ => rfl) (.inr (Same.refl _))

/-! ### a slot's entry taken out, laid back -/
theorem Slots.take : ∀ {Γ : List Md} {σ : L2.St} {ρ : EnvD} {fp : List Addr} {i : Nat} {m : Md} {d : DV}, Slots C F H Γ σ ρ fp → Γ[i]? = some m → ρ[i]? = some (some d) →
    ∃ v x y z, σ[i]? = some (some v) ∧ fp = x ++ (y ++ z) ∧ At C F H m d v y ∧ Slots C F H Γ σ (ρ.set i none) (x ++ z)
  | [], [], [], _, i, _, _, _, h, _ => by simp at h
  | m1 :: Γ, s :: σ, r :: ρ, _, 0, m', d, ⟨f1, f2, h1, h2, h3⟩, e1, e2 => by
    simp at e1 e2
    subst e1
    subst e2
    obtain ⟨v, h4, h5⟩ := h2
    exact ⟨v, [], f1, f2, by rw [h4]; rfl, h1, h5, [], f2, rfl, rfl, h3⟩
  | m1 :: Γ, s :: σ, r :: ρ, _, i + 1, m', d, ⟨f1, f2, h1, h2, h3⟩, e1, e2 => by
    obtain ⟨v, x, y, z, h4, h5, h6, h7⟩ := Slots.take h3 (i := i) (by simpa using e1) (by simpa using e2)
    exact ⟨v, f1 ++ x, y, z, by simpa using h4, by rw [h1, h5, List.append_assoc], h6, f1, x ++ z, by rw [List.append_assoc], h2, h7⟩
theorem Rep.take {i : Nat} (r : Rep C F H Γ σ ρ L) (e1 : Γ[i]? = some m) (e2 : ρ[i]? = some (some d)) : ∃ v, σ[i]? = some (some v) ∧ Rep C F H Γ σ (ρ.set i none) ((m, d, v) :: L) := by
  obtain ⟨f1, f2, nd, a, b⟩ := r.own
  obtain ⟨v, x, y, z, h1, h2, h3, h4⟩ := a.take e1 e2
  subst h2
  refine ⟨v, h1, r.fit, r.io, x ++ z, y ++ f2, ?_, h4, y, f2, rfl, h3, b⟩
  refine List.Perm.nodup (l := (x ++ (y ++ z)) ++ f2) ?_ nd
  rw [List.append_assoc, List.append_assoc, List.append_assoc]
  refine List.Perm.append (List.Perm.refl _) ?_
  rw [← List.append_assoc, ← List.append_assoc]
  exact List.Perm.append List.perm_append_comm (List.Perm.refl _)
theorem set_id {α : Type} : ∀ {l : List α} {i : Nat} {x : α}, l[i]? = some x → l.set i x = l
  | [], _, _, _ => rfl
  | a :: l, 0, x, h => by simp at h; rw [h]; rfl
  | a :: l, i + 1, x, h => by
    rw [List.set_cons_succ, set_id (by simpa using h)]
theorem Rep.back {i : Nat} (r : Rep C F H Γ σ ρ ((m, d, v) :: L)) (e : σ[i]? = some (some v)) (hio : Γ[i]? = some m ∨ ∀ p ∈ C.io, p.1 ≠ i) : Rep C F H (Γ.set i m) σ (ρ.set i (some d)) L := by
  obtain ⟨f1, f2, nd, a, g1, g2, h1, h2, h3⟩ := r.own
  subst h1
  have l : i < Γ.length := by
    rw [← a.len.1]
    exact (List.getElem?_eq_some_iff.mp e).1
  obtain ⟨x, y, z, h4, h5⟩ := a.put h2 l
  subst h4
  rw [set_id e] at h5
  have io : ∀ p ∈ C.io, σ[p.1]? = some (some p.2.1) ∧ (Γ.set i m)[p.1]? = some p.2.2 := fun p hp => by
    refine ⟨(r.io p hp).1, ?_⟩
    rcases hio with q | q
    · rw [set_id q]; exact (r.io p hp).2
    · rw [List.getElem?_set_ne (Ne.symm (q p hp))]; exact (r.io p hp).2
  exact ⟨r.fit, io, x ++ (g1 ++ z), g2, (((perm3 x y z g1 g2).nodup nd)).sublist (List.sublist_append_right _ _), h5, h3⟩
theorem set_set' {α : Type} : ∀ {l : List α} {i : Nat} {x y : α}, (l.set i x).set i y = l.set i y
  | [], _, _, _ => rfl
  | a :: l, 0, x, y => rfl
  | a :: l, i + 1, x, y => by
    show a :: ((l.set i x).set i y) = a :: l.set i y
    rw [set_set']
/-- the slot i is frozen, and its data come as an entry -/
theorem Rep.share {i : Nat} (r : Rep C F H Γ σ ρ L) (e1 : Γ[i]? = some m) (e2 : ρ[i]? = some (some d)) (q : m.fz = true) (hio : ∀ p ∈ C.io, p.1 ≠ i) : ∃ v F', σ[i]? = some (some v) ∧ Same F F' ∧ Rep C F' H (Γ.set i .fr) σ ρ ((.fr, d, v) :: L) := by
  obtain ⟨v, h1, r1⟩ := r.take e1 e2
  obtain ⟨F', s, r2⟩ := r1.freeze q
  have r3 : Rep C F' H Γ σ (ρ.set i none) ((.fr, d, v) :: (.fr, d, v) :: L) := r2.cons0 ⟨rfl, r2.fr⟩
  have r4 := r3.back (i := i) h1 (.inr hio)
  rw [set_set', set_id e2] at r4
  exact ⟨v, F', h1, s, r4⟩
/-- the slot's data, peeked -/
theorem Rep.look {i : Nat} (r : Rep C F H Γ σ ρ L) (e1 : Γ[i]? = some m) (e2 : ρ[i]? = some (some d)) : ∃ v, σ[i]? = some (some v) ∧ Rep C F H Γ σ ρ ((m.peek, d, v) :: L) := by
  obtain ⟨v, f, h1, h2⟩ := r.get e1 e2
  exact ⟨v, h1, r.cons0 h2.peek⟩
end

/-! ### what readings simulate -/
/-- the mirror of an expression -/
abbrev GE := EnvD → Rs DV
abbrev GT := EnvD → Rs Bool
abbrev GA := EnvD → Rs (List DV)
abbrev GX := EnvD → Rs (DV × EnvD)
abbrev GS := EnvD → Out
/-- what is wanted of an exception: class, value, heap -/
abbrev Wx := Str → DV → Hp → Prop
def PE' (C : Cxt) (W : Wx) (Γ : List Md) (F H : Hp) (σ : L2.St) (ρ : EnvD) (L : List Ent) (m : Md) (Q : VK) : Rs DV → Prop
  | .ok d => ∀ F' H' v, Same F F' → Same H H' → Rep C F' H' Γ σ ρ ((m, d, v) :: L) → Q v H'
  | .ex c d => ∀ F' H', Same F F' → Same H H' → Fit C F' H' → W c d H'
  | .stuck => False
def PT' (C : Cxt) (W : Wx) (Γ : List Md) (F H : Hp) (σ : L2.St) (ρ : EnvD) (L : List Ent) (Q : Bool → Hp → Prop) : Rs Bool → Prop
  | .ok b => ∀ F' H', Same F F' → Same H H' → Rep C F' H' Γ σ ρ L → Q b H'
  | .ex c d => ∀ F' H', Same F F' → Same H H' → Fit C F' H' → W c d H'
  | .stuck => False
/-- the entries of an argument list, the last one first -/
def entsA : List Md → List DV → List V → List Ent → List Ent
  | m :: ms, d :: ds, v :: vs, L => entsA ms ds vs ((m, d, v) :: L)
  | _, _, _, L => L
def PA' (C : Cxt) (W : Wx) (Γ : List Md) (F H : Hp) (σ : L2.St) (ρ : EnvD) (L : List Ent) (ms : List Md) (Q : List V → Hp → Prop) : Rs (List DV) → Prop
  | .ok ds => ∀ F' H' vs, Same F F' → Same H H' → ds.length = vs.length → ms.length = vs.length → Rep C F' H' Γ σ ρ (entsA ms ds vs L) → Q vs H'
  | .ex c d => ∀ F' H', Same F F' → Same H H' → Fit C F' H' → W c d H'
  | .stuck => False
/-- entries that may be pending -/
def okL (L : List Ent) : Prop := ∀ e ∈ L, e.1.stor = true ∨ e.1.free = true
theorem okL_nil : okL [] := fun _ h => by cases h
theorem okL_cons {e : Ent} {L : List Ent} (h1 : (e.1.stor || e.1.free) = true) (h2 : okL L) : okL (e :: L) := fun x hx => by
  rcases List.mem_cons.mp hx with rfl | hx
  · exact (Bool.or_eq_true _ _).mp h1
  · exact h2 x hx
/-- the reading t gives what g gives, in the mode m -/
def SE (C : Cxt) (W : Wx) (Γ : List Md) (t : TE) (g : GE) (m : Md) : Prop :=
  ∀ F H σ ρ L Q, okL L → Rep C F H Γ σ ρ L → PE' C W Γ F H σ ρ L m Q (g ρ) → t σ H Q
def ST (C : Cxt) (W : Wx) (Γ : List Md) (t : TT) (g : GT) : Prop :=
  ∀ F H σ ρ L Q, okL L → Rep C F H Γ σ ρ L → PT' C W Γ F H σ ρ L Q (g ρ) → t σ H Q
def SA (C : Cxt) (W : Wx) (Γ : List Md) (t : TA) (g : GA) (ms : List Md) : Prop :=
  ∀ F H σ ρ L Q, okL L → Rep C F H Γ σ ρ L → PA' C W Γ F H σ ρ L ms Q (g ρ) → t σ H Q
section
variable {C : Cxt} {W : Wx} {F F' H H' : Hp} {Γ : List Md} {σ : L2.St} {ρ : EnvD} {L : List Ent} {m : Md} {ms : List Md}
theorem PE'.mono {Q : VK} {r : Rs DV} (h : PE' C W Γ F H σ ρ L m Q r) (a : Same F F') (b : Same H H') : PE' C W Γ F' H' σ ρ L m Q r := by
  cases r with
  | ok d => exact fun F2 H2 v s1 s2 => h F2 H2 v (a.trans s1) (b.trans s2)
  | ex c d => exact fun F2 H2 s1 s2 => h F2 H2 (a.trans s1) (b.trans s2)
  | stuck => exact h
theorem PT'.mono {Q : Bool → Hp → Prop} {r : Rs Bool} (h : PT' C W Γ F H σ ρ L Q r) (a : Same F F') (b : Same H H') : PT' C W Γ F' H' σ ρ L Q r := by
  cases r with
  | ok d => exact fun F2 H2 s1 s2 => h F2 H2 (a.trans s1) (b.trans s2)
  | ex c d => exact fun F2 H2 s1 s2 => h F2 H2 (a.trans s1) (b.trans s2)
  | stuck => exact h
theorem PA'.mono {Q : List V → Hp → Prop} {r : Rs (List DV)} (h : PA' C W Γ F H σ ρ L ms Q r) (a : Same F F') (b : Same H H') : PA' C W Γ F' H' σ ρ L ms Q r := by
  cases r with
  | ok d => exact fun F2 H2 v s1 s2 => h F2 H2 v (a.trans s1) (b.trans s2)
  | ex c d => exact fun F2 H2 s1 s2 => h F2 H2 (a.trans s1) (b.trans s2)
  | stuck => exact h
variable {ta : TE} {ga : GE} {tt : TT} {gt : GT} {tl : TA} {gl : GA} {ma : Md}
/-- an expression first, then the rest (of an expression) -/
theorem se_then {f : DV → Rs DV} {L2 : List Ent} {Q : VK} {R : VK} (ha : SE C W Γ ta ga ma) (hL : okL L) (r : Rep C F H Γ σ ρ L) (h : PE' C W Γ F H σ ρ L2 m Q ((ga ρ).bind f))
    (k : ∀ d F1 H1 x, Same F F1 → Same H H1 → Rep C F1 H1 Γ σ ρ ((ma, d, x) :: L) → PE' C W Γ F1 H1 σ ρ L2 m Q (f d) → R x H1) : ta σ H R := by
  refine ha F H σ ρ L R hL r ?_
  revert h
  cases ga ρ with
  | ok d => exact fun h F1 H1 x s1 s2 r1 => k d F1 H1 x s1 s2 r1 (h.mono s1 s2)
  | ex c d => exact fun h => h
  | stuck => exact fun h => h
theorem se_thenT {f : DV → Rs Bool} {L2 : List Ent} {Q : Bool → Hp → Prop} {R : VK} (ha : SE C W Γ ta ga ma) (hL : okL L) (r : Rep C F H Γ σ ρ L) (h : PT' C W Γ F H σ ρ L2 Q ((ga ρ).bind f))
    (k : ∀ d F1 H1 x, Same F F1 → Same H H1 → Rep C F1 H1 Γ σ ρ ((ma, d, x) :: L) → PT' C W Γ F1 H1 σ ρ L2 Q (f d) → R x H1) : ta σ H R := by
  refine ha F H σ ρ L R hL r ?_
  revert h
  cases ga ρ with
  | ok d => exact fun h F1 H1 x s1 s2 r1 => k d F1 H1 x s1 s2 r1 (h.mono s1 s2)
  | ex c d => exact fun h => h
  | stuck => exact fun h => h
theorem se_thenA {f : DV → Rs (List DV)} {L2 : List Ent} {Q : List V → Hp → Prop} {R : VK} (ha : SE C W Γ ta ga ma) (hL : okL L) (r : Rep C F H Γ σ ρ L) (h : PA' C W Γ F H σ ρ L2 ms Q ((ga ρ).bind f))
    (k : ∀ d F1 H1 x, Same F F1 → Same H H1 → Rep C F1 H1 Γ σ ρ ((ma, d, x) :: L) → PA' C W Γ F1 H1 σ ρ L2 ms Q (f d) → R x H1) : ta σ H R := by
  refine ha F H σ ρ L R hL r ?_
  revert h
  cases ga ρ with
  | ok d => exact fun h F1 H1 x s1 s2 r1 => k d F1 H1 x s1 s2 r1 (h.mono s1 s2)
  | ex c d => exact fun h => h
  | stuck => exact fun h => h
theorem st_then {f : Bool → Rs DV} {L2 : List Ent} {Q : VK} {R : Bool → Hp → Prop} (ha : ST C W Γ tt gt) (hL : okL L) (r : Rep C F H Γ σ ρ L) (h : PE' C W Γ F H σ ρ L2 m Q ((gt ρ).bind f))
    (k : ∀ b F1 H1, Same F F1 → Same H H1 → Rep C F1 H1 Γ σ ρ L → PE' C W Γ F1 H1 σ ρ L2 m Q (f b) → R b H1) : tt σ H R := by
  refine ha F H σ ρ L R hL r ?_
  revert h
  cases gt ρ with
  | ok d => exact fun h F1 H1 s1 s2 r1 => k d F1 H1 s1 s2 r1 (h.mono s1 s2)
  | ex c d => exact fun h => h
  | stuck => exact fun h => h
theorem st_thenT {f : Bool → Rs Bool} {L2 : List Ent} {Q : Bool → Hp → Prop} {R : Bool → Hp → Prop} (ha : ST C W Γ tt gt) (hL : okL L) (r : Rep C F H Γ σ ρ L) (h : PT' C W Γ F H σ ρ L2 Q ((gt ρ).bind f))
    (k : ∀ b F1 H1, Same F F1 → Same H H1 → Rep C F1 H1 Γ σ ρ L → PT' C W Γ F1 H1 σ ρ L2 Q (f b) → R b H1) : tt σ H R := by
  refine ha F H σ ρ L R hL r ?_
  revert h
  cases gt ρ with
  | ok d => exact fun h F1 H1 s1 s2 r1 => k d F1 H1 s1 s2 r1 (h.mono s1 s2)
  | ex c d => exact fun h => h
  | stuck => exact fun h => h
theorem sa_then {f : List DV → Rs DV} {L2 : List Ent} {Q : VK} {R : List V → Hp → Prop} (ha : SA C W Γ tl gl ms) (hL : okL L) (r : Rep C F H Γ σ ρ L) (h : PE' C W Γ F H σ ρ L2 m Q ((gl ρ).bind f))
    (k : ∀ ds F1 H1 vs, Same F F1 → Same H H1 → ds.length = vs.length → ms.length = vs.length → Rep C F1 H1 Γ σ ρ (entsA ms ds vs L) → PE' C W Γ F1 H1 σ ρ L2 m Q (f ds) → R vs H1) : tl σ H R := by
  refine ha F H σ ρ L R hL r ?_
  revert h
  cases gl ρ with
  | ok d => exact fun h F1 H1 x s1 s2 e1 e2 r1 => k d F1 H1 x s1 s2 e1 e2 r1 (h.mono s1 s2)
  | ex c d => exact fun h => h
  | stuck => exact fun h => h
end
end DL
end

/-! text DL2 -/
section
set_option maxRecDepth 100000
set_option maxHeartbeats 4000000
/-! the data layer, part 2: expressions -/
namespace DL
open PySem PySem.Spec PyProof.Rows L2

/-! ### data -/
def flat : DV → Option V
  | .non => some .non
  | .bl b => some (.bl b)
  | .int i => some (.int i)
  | .str x => some (.str x)
  | _ => none
mutual
def imm : DV → Bool
  | .tup ds => imms ds
  | .lst _ => false
  | .dct _ _ => false
  | .obj _ _ _ => false
  | .non => true
  | .bl _ => true
  | .int _ => true
  | .str _ => true
def imms : List DV → Bool
  | [] => true
  | d :: ds => imm d && imms ds
end
section
variable {C : Cxt} {W : Wx} {F F' H H' : Hp} {Γ : List Md} {σ : L2.St} {ρ : EnvD} {L : List Ent} {m : Md} {d : DV} {v : V}
theorem flat_da {K : PySem.W.Frag} {mg : Str → Option Value} : ∀ {d : DV} {v : V}, flat d = some v → DA K mg F d v
  | .non, _, h => by cases h; rfl
  | .bl _, _, h => by cases h; rfl
  | .int _, _, h => by cases h; rfl
  | .str _, _, h => by cases h; rfl
  | .tup _, _, h => by cases h
  | .lst _, _, h => by cases h
  | .dct _ _, _, h => by cases h
  | .obj _ _ _, _, h => by cases h
theorem da_flat {K : PySem.W.Frag} {mg : Str → Option Value} : ∀ {d : DV} {v w : V}, flat d = some w → DA K mg F d v → v = w
  | .non, _, _, h, k => by cases h; exact k
  | .bl _, _, _, h, k => by cases h; exact k
  | .int _, _, _, h, k => by cases h; exact k
  | .str _, _, _, h, k => by cases h; exact k
  | .tup _, _, _, h, _ => by cases h
  | .lst _, _, _, h, _ => by cases h
  | .dct _ _, _, _, h, _ => by cases h
  | .obj _ _ _, _, _, h, _ => by cases h
theorem flat_on {m : Md} (h : flat d = some v) : isLD d = false ∧ isObj d = false ∧ isTup d = false := by
  cases d <;> first | exact ⟨rfl, rfl, rfl⟩ | cases h
theorem At.flat (q : m.rd = true) (h : flat d = some v) : At C F H m d v [] := by
  obtain ⟨h1, h2, h3⟩ := flat_on (m := m) h
  cases m with
  | sc => cases q
  | fr => exact ⟨rfl, flat_da h⟩
  | yg => cases d <;> cases h <;> exact ⟨rfl, rfl⟩
  | bo => exact ⟨rfl, flat_da h⟩
  | pk m => unfold At; rw [if_neg (by rw [h1]; exact Bool.false_ne_true)]; exact ⟨rfl, flat_da h⟩
  | own m => unfold At; rw [if_neg (by rw [h1]; exact Bool.false_ne_true)]; exact ⟨rfl, flat_da h⟩
  | tu m => unfold At; rw [if_neg (by rw [h3]; exact Bool.false_ne_true)]; exact ⟨rfl, flat_da h⟩
  | ob m => unfold At; rw [if_neg (by rw [h2]; exact Bool.false_ne_true)]; exact ⟨rfl, flat_da h⟩
  | po m => unfold At; rw [if_neg (by rw [h2]; exact Bool.false_ne_true)]; exact ⟨rfl, flat_da h⟩
theorem tupO_rd {K : PySem.W.Frag} {a : Addr} {vs : List V} (tp : ∀ a o, H a = some o → tupO o = true → F a = some o) (h : SqT K H a vs) : SqT K F a vs := by
  rcases h with (h | ⟨o, h⟩) | h
  · exact .inl (.inl (tp _ _ h rfl))
  · exact .inl (.inr ⟨o, tp _ _ h rfl⟩)
  · exact .inr h
mutual
theorem imm_da {K : PySem.W.Frag} {mg : Str → Option Value} (tp : ∀ a o, H a = some o → tupO o = true → F a = some o) : ∀ (d : DV) (v : V), imm d = true → DA K mg H d v → DA K mg F d v
  | .non, _, _, h => h
  | .bl _, _, _, h => h
  | .int _, _, _, h => h
  | .str _, _, _, h => h
  | .tup ds, _, q, ⟨a, vs, h1, h2, h3⟩ => ⟨a, vs, h1, tupO_rd tp h2, imms_da tp ds vs q h3⟩
  | .lst _, _, q, _ => by cases q
  | .dct _ _, _, q, _ => by cases q
  | .obj _ _ _, _, q, _ => by cases q
theorem imms_da {K : PySem.W.Frag} {mg : Str → Option Value} (tp : ∀ a o, H a = some o → tupO o = true → F a = some o) : ∀ (ds : List DV) (vs : List V), imms ds = true → DAs K mg H ds vs → DAs K mg F ds vs
  | [], _, _, h => h
  | d :: ds, _, q, ⟨v, r, h1, h2, h3⟩ => ⟨v, r, h1, imm_da tp d v ((Bool.and_eq_true _ _).mp q).1 h2, imms_da tp ds r ((Bool.and_eq_true _ _).mp q).2 h3⟩
end

/-! ### an answer -/
theorem PE'.give {Q : VK} (r : Rep C F H Γ σ ρ L) (h : PE' C W Γ F H σ ρ L m Q (.ok d)) (hv : At C F H m d v []) : Q v H := h F H v (Same.refl _) (Same.refl _) (r.cons0 hv)
theorem PE'.flat {Q : VK} (r : Rep C F H Γ σ ρ L) (h : PE' C W Γ F H σ ρ L m Q (.ok d)) (q : m.rd = true) (e : flat d = some v) : Q v H := h.give r (At.flat q e)
theorem PE'.ext {Q : VK} {e : Ent} {x : Rs DV} (h : PE' C W Γ F H σ ρ L m Q x) : PE' C W Γ F H σ ρ (e :: L) m Q x := by
  cases x with
  | ok d => exact fun F' H' v s1 s2 r => h F' H' v s1 s2 r.swap.tail
  | ex c d => exact h
  | stuck => exact h
theorem PT'.ext {Q : Bool → Hp → Prop} {e : Ent} {x : Rs Bool} (h : PT' C W Γ F H σ ρ L Q x) : PT' C W Γ F H σ ρ (e :: L) Q x := by
  cases x with
  | ok d => exact fun F' H' s1 s2 r => h F' H' s1 s2 r.tail
  | ex c d => exact h
  | stuck => exact h

/-! ### names, constants, coercions -/
def lk (ρ : EnvD) (i : Nat) : Rs DV := match ρ[i]? with
  | some (some d) => .ok d
  | _ => .stuck
def gVar (i : Nat) : GE := fun ρ => lk ρ i
def gC (d : DV) : GE := fun _ => .ok d
theorem lk_ok {i : Nat} (h : lk ρ i = .ok d) : ρ[i]? = some (some d) := by
  unfold lk at h
  split at h
  · rename_i e; cases h; exact e
  · cases h
theorem lk_cases (ρ : EnvD) (i : Nat) : (∃ d, ρ[i]? = some (some d) ∧ lk ρ i = .ok d) ∨ lk ρ i = .stuck := by
  unfold lk
  split
  · rename_i d e; exact .inl ⟨d, e, rfl⟩
  · exact .inr rfl
theorem se_var {i : Nat} (e : Γ[i]? = some m) : SE C W Γ (tVar i) (gVar i) m.peek := by
  intro F H σ ρ L Q hL r h
  unfold gVar at h
  rcases lk_cases ρ i with ⟨d, e2, e3⟩ | e3
  · rw [e3] at h
    obtain ⟨v, h1, r1⟩ := r.look e e2
    exact ⟨v, h1, h F H v (Same.refl _) (Same.refl _) r1⟩
  · rw [e3] at h
    exact h.elim
theorem se_const {t : V} (q : m.rd = true) (h : flat d = some t) : SE C W Γ (tC t) (gC d) m := fun F H σ ρ L Q hL r k => k.flat r q h
theorem se_int {i : Int} : SE C W Γ (tC (.int i)) (gC (.int i)) .fr := se_const rfl rfl
theorem se_bl {b : Bool} : SE C W Γ (tC (.bl b)) (gC (.bl b)) .fr := se_const rfl rfl
theorem se_non : SE C W Γ (tC .non) (gC .non) .fr := se_const rfl rfl
theorem se_str {x : Str} : SE C W Γ (tC (.str x)) (gC (.str x)) .fr := se_const rfl rfl
/-- a module's constant -/
theorem se_glob {t : V} (h : ∀ F, DA C.K C.mg F d t) : SE C W Γ (tC t) (gC d) .fr := fun F H σ ρ L Q hL r k => k.give r ⟨rfl, h F⟩
/-- frozen -/
theorem se_fr {t : TE} {g : GE} (h : SE C W Γ t g m) (q : m.fz = true) : SE C W Γ t g .fr := by
  intro F H σ ρ L Q hL r k
  refine h F H σ ρ L Q hL r ?_
  revert k
  cases g ρ with
  | ok d =>
    intro k F1 H1 v s1 s2 r1
    obtain ⟨F2, s3, r2⟩ := r1.freeze q
    exact k F2 H1 v (s1.trans s3) s2 r2
  | ex c d => exact fun k => k
  | stuck => exact fun k => k
def gImm (g : GE) : GE := fun ρ => (g ρ).bind fun d => if imm d = true then .ok d else .stuck
/-- what cannot change is frozen by itself -/
theorem se_imm {t : TE} {g : GE} (h : SE C W Γ t g m) (q : m.rd = true) : SE C W Γ t (gImm g) .fr := by
  intro F H σ ρ L Q hL r k
  refine se_then h hL r k fun d F1 H1 x s1 s2 r1 k1 => ?_
  split at k1
  · rename_i hi
    exact k1 F1 H1 x (Same.refl _) (Same.refl _) (r1.tail.cons0 ⟨rfl, imm_da r1.fit.tp _ _ hi (r1.da q)⟩)
  · exact k1.elim
/-- peeked -/
theorem se_pk {t : TE} {g : GE} (h : SE C W Γ t g m) : SE C W Γ t g m.peek := by
  intro F H σ ρ L Q hL r k
  refine h F H σ ρ L Q hL r ?_
  revert k
  cases g ρ with
  | ok d => exact fun k F1 H1 v s1 s2 r1 => k F1 H1 v s1 s2 r1.peek
  | ex c d => exact fun k => k
  | stuck => exact fun k => k

/-! ### operators -/
abbrev OpD := DV → DV → Rs DV
/-- an operator's reading gives what op gives -/
def OpS (C : Cxt) (W : Wx) (r : R2) (op : OpD) (ma mb m : Md) : Prop :=
  ∀ Γ F H σ ρ L x y dx dy Q, Rep C F H Γ σ ρ ((mb, dy, y) :: (ma, dx, x) :: L) → PE' C W Γ F H σ ρ L m Q (op dx dy) → r x y H Q
def gBin (op : OpD) (ga gb : GE) : GE := fun ρ => (ga ρ).bind fun x => (gb ρ).bind fun y => op x y
theorem se_op {r : R2} {op : OpD} {ta tb : TE} {ga gb : GE} {ma mb : Md} (ho : OpS C W r op ma mb m) (ha : SE C W Γ ta ga ma) (hb : SE C W Γ tb gb mb) (qo : (ma.stor || ma.free) = true := by rfl) : SE C W Γ (tOp r ta tb) (gBin op ga gb) m := by
  intro F H σ ρ L Q hL r0 k
  show ta σ H fun x H1 => tb σ H1 fun y H2 => r x y H2 Q
  refine se_then ha hL r0 k fun x F1 H1 vx s1 s2 r1 k1 => ?_
  refine se_then hb (okL_cons qo hL) r1 k1 fun y F2 H2 vy s3 s4 r2 k2 => ?_
  refine ho Γ F2 H2 σ ρ L vx vy x y Q r2 ?_
  exact k2
/-- one of two readings -/
def rOr (r1 r2 : R2) : R2 := fun x y H Q => r1 x y H Q ∨ r2 x y H Q
def opOr (f g : OpD) : OpD := fun x y => match f x y with
  | .stuck => g x y
  | r => r
theorem OpS.or {r1 r2 : R2} {f g : OpD} {ma mb : Md} (h1 : OpS C W r1 f ma mb m) (h2 : OpS C W r2 g ma mb m) : OpS C W (rOr r1 r2) (opOr f g) ma mb m := by
  intro Γ F H σ ρ L x y dx dy Q r k
  unfold opOr at k
  cases e : f dx dy with
  | ok d => rw [e] at k; exact .inl (h1 Γ F H σ ρ L x y dx dy Q r (by rw [e]; exact k))
  | ex c d => rw [e] at k; exact .inl (h1 Γ F H σ ρ L x y dx dy Q r (by rw [e]; exact k))
  | stuck => rw [e] at k; exact .inr (h2 Γ F H σ ρ L x y dx dy Q r k)
theorem OpR_or {X : Cx} {f : Value → Value → Sem Value} {r1 r2 : R2} (h1 : OpR X f r1) (h2 : OpR X f r2) : OpR X f (rOr r1 r2) := fun pins s σ H x y v u Q I a b h => h.elim (h1 pins s σ H x y v u Q I a b) (h2 pins s σ H x y v u Q I a b)
theorem IxR_or {X : Cx} {r1 r2 : R2} (h1 : IxR X r1) (h2 : IxR X r2) : IxR X (rOr r1 r2) := fun a b pins s σ H x y v u Q I c d h => h.elim (h1 a b pins s σ H x y v u Q I c d) (h2 a b pins s σ H x y v u Q I c d)

/-- ints -/
def dII (p : Int → Int → Bool) (g : Int → Int → DV) : OpD := fun x y => match x, y with
  | .int i, .int j => if p i j = true then .ok (g i j) else .stuck
  | _, _ => .stuck
theorem Rep.da2 {x y : V} {dx dy : DV} {ma mb : Md} (r : Rep C F H Γ σ ρ ((mb, dy, y) :: (ma, dx, x) :: L)) (qa : ma.rd = true) (qb : mb.rd = true) : DA C.K C.mg H dx x ∧ DA C.K C.mg H dy y := ⟨r.tail.da qa, r.da qb⟩
theorem ops_ii {P : Int → Int → Prop} {p : Int → Int → Bool} {g : Int → Int → V} {gd : Int → Int → DV} {ma mb : Md} (qa : ma.rd = true) (qb : mb.rd = true) (q : m.rd = true) (hp : ∀ i j, p i j = true → P i j) (hg : ∀ i j, flat (gd i j) = some (g i j)) :
    OpS C W (rI P g) (dII p gd) ma mb m := by
  intro Γ F H σ ρ L x y dx dy Q r k
  obtain ⟨h1, h2⟩ := r.da2 qa qb
  unfold dII at k
  split at k
  · rename_i i j
    split at k
    · rename_i hq
      exact ⟨i, j, h1, h2, hp i j hq, k.flat r.tail.tail q (hg i j)⟩
    · exact k.elim
  · exact k.elim
theorem ops_ii0 {g : Int → Int → V} {gd : Int → Int → DV} {ma mb : Md} (qa : ma.rd = true) (qb : mb.rd = true) (q : m.rd = true) (hg : ∀ i j, flat (gd i j) = some (g i j)) :
    OpS C W (rI0 g) (dII (fun _ _ => true) gd) ma mb m := by
  intro Γ F H σ ρ L x y dx dy Q r k
  obtain ⟨h1, h2⟩ := r.da2 qa qb
  unfold dII at k
  split at k
  · rename_i i j
    rw [if_pos rfl] at k
    exact ⟨i, j, h1, h2, k.flat r.tail.tail q (hg i j)⟩
  · exact k.elim
end
end DL
end

/-! text DL3 -/
section
set_option maxRecDepth 100000
set_option maxHeartbeats 4000000
/-! the data layer, part 3: operators -/
namespace DL
open PySem PySem.Spec PyProof.Rows L2

/-- a mode that what is frozen has, too -/
@[reducible] def Md.fo : Md → Bool
  | .fr => true
  | .pk m => m.fo
  | .tu m => m.fo
  | .po m => m.fo
  | _ => false
/-- a mode whose parts may be read off -/
@[reducible] def Md.ixok : Md → Bool
  | .fr => true
  | .yg => true
  | .bo => true
  | .sc => true
  | .pk m => m.fo
  | .tu m => m.fo
  | .po m => m.fo
  | _ => false
section
variable {C : Cxt} {W : Wx} {F F' H H' : Hp} {Γ : List Md} {σ : L2.St} {ρ : EnvD} {L : List Ent} {m ma mb : Md} {d : DV} {v : V}
theorem At.of_fr (s : Same F H) : ∀ {m : Md} {d : DV} {v : V}, m.fo = true → DA C.K C.mg F d v → At C F H m d v [] := by
  intro m
  induction m with
  | fr => intro d v _ h; exact ⟨rfl, h⟩
  | bo => intro d v q; cases q
  | yg => intro d v q; cases q
  | sc => intro d v q; cases q
  | own m _ => intro d v q; cases q
  | ob m _ => intro d v q; cases q
  | pk m ih =>
    intro d v q h
    unfold At
    split
    · cases d with
      | lst ds => obtain ⟨a, vs, h1, h2, h3⟩ := h; exact ⟨a, vs, h1, same_rd s h2, Alls.of_das h3 fun d v x => ih q x⟩
      | dct ks ds => obtain ⟨a, vs, h1, h2, h3⟩ := h; exact ⟨a, vs, h1, ⟨s _ _ h2.1, h2.2⟩, Alls.of_das h3 fun d v x => ih q x⟩
      | _ => rename_i z; cases z
    · exact ⟨rfl, h⟩
  | po m ih =>
    intro d v q h
    unfold At
    split
    · cases d with
      | obj c ns ds => obtain ⟨a, vs, h1, ⟨C1, dx, g, h2, h4⟩, h3⟩ := h; exact ⟨a, vs, h1, ⟨C1, dx, g, s _ _ h2, h4⟩, Alls.of_das h3 fun d v x => ih q x⟩
      | _ => rename_i z; cases z
    · exact ⟨rfl, h⟩
  | tu m ih =>
    intro d v q h
    unfold At
    split
    · cases d with
      | tup ds => obtain ⟨a, vs, h1, h2, h3⟩ := h; exact ⟨a, vs, h1, h2, Alls.of_das h3 fun d v x => ih q x⟩
      | _ => rename_i z; cases z
    · exact ⟨rfl, h⟩
theorem fo_rd : ∀ m : Md, m.fo = true → m.rd = true
  | .fr, _ => rfl
  | .pk m, h => fo_rd m h
  | .tu m, h => fo_rd m h
  | .po m, h => fo_rd m h
theorem Rep.daX (r : Rep C F H Γ σ ρ ((m, d, v) :: L)) (q : m.ixok = true) (hd : ∀ ds, d ≠ .lst ds) : DA C.K C.mg H d v := by
  cases m with
  | fr => exact r.da rfl
  | yg => exact r.da rfl
  | bo => exact r.da rfl
  | sc => obtain ⟨f, h⟩ := r.head; obtain ⟨_, a, ns, _, h2, _⟩ := h; exact absurd h2 (hd _)
  | pk m => exact r.da (fo_rd m q)
  | tu m => exact r.da (fo_rd m q)
  | po m => exact r.da (fo_rd m q)
  | own m => cases q
  | ob m => cases q
theorem DAs.at (h : DAs C.K C.mg F ds vs) (k : ∀ d v, DA C.K C.mg F d v → At C F H m d v []) : Alls (At C F H m) ds vs [] := Alls.of_das h k
/-- the items of a list -/
theorem Rep.items {ds : List DV} (r : Rep C F H Γ σ ρ ((ma, .lst ds, v) :: L)) (q : ma.ixok = true) : ∃ a vs, v = .ref a ∧ (SqL C.K H a vs ∧ (ma.rd = true → Rd H a (.lst vs))) ∧ Alls (At C F H ma.kid) ds vs [] := by
  obtain ⟨f, h⟩ := r.head
  have s := r.fit.fh
  cases ma with
  | fr =>
    obtain ⟨_, a, vs, h1, h2, h3⟩ := h
    exact ⟨a, vs, h1, ⟨.inl (same_rd s h2), fun _ => same_rd s h2⟩, Alls.of_das h3 fun d v x => ⟨rfl, x⟩⟩
  | yg =>
    obtain ⟨_, a, vs, h1, ⟨h2, h4⟩, h3⟩ := h
    have h5 : Rd F a (.lst vs) := .inl h2
    exact ⟨a, vs, h1, ⟨.inl (same_rd s h5), fun _ => same_rd s h5⟩, Alls.of_dys h3 fun d v x => ⟨rfl, x⟩⟩
  | bo =>
    obtain ⟨_, a, vs, h1, h2, h3⟩ := h
    exact ⟨a, vs, h1, ⟨.inl (same_rd r.fit.bh h2), fun _ => same_rd r.fit.bh h2⟩, Alls.of_das h3 fun d v x => ⟨rfl, x⟩⟩
  | sc =>
    obtain ⟨_, a, ns, h1, h2, h3⟩ := h
    cases h2
    refine ⟨a, _, h1, ⟨s.seq h3, fun q => by cases q⟩, ?_⟩
    clear h1 h3 r
    induction ns with
    | nil => exact ⟨rfl, rfl⟩
    | cons n ns ih => exact ⟨.int n, _, [], [], rfl, rfl, ⟨rfl, rfl⟩, ih⟩
  | pk m =>
    unfold At at h
    rw [if_pos (show isLD (DV.lst ds) = true from rfl)] at h
    obtain ⟨a, vs, h1, h2, h3⟩ := h
    exact ⟨a, vs, h1, ⟨.inl h2, fun _ => h2⟩, h3.pt fun d v f x => by
      have e := x.free_nil (by
        clear r h1 h2 h3 x
        induction m with
        | fr => rfl
        | pk m ih => exact ih q
        | po m ih => exact ih q
        | tu m ih => exact ih q
        | _ => cases q)
      rw [e] at x
      exact x⟩
  | tu m =>
    unfold At at h
    rw [if_neg (by exact Bool.false_ne_true)] at h
    obtain ⟨_, a, vs, h1, h2, h3⟩ := h
    exact ⟨a, vs, h1, ⟨.inl (same_rd s h2), fun _ => same_rd s h2⟩, Alls.of_das h3 fun d v x => At.of_fr s q x⟩
  | po m =>
    unfold At at h
    rw [if_neg (by exact Bool.false_ne_true)] at h
    obtain ⟨_, a, vs, h1, h2, h3⟩ := h
    exact ⟨a, vs, h1, ⟨.inl (same_rd s h2), fun _ => same_rd s h2⟩, Alls.of_das h3 fun d v x => At.of_fr s q x⟩
  | own m => cases q
  | ob m => cases q
theorem Rep.parts {ds : List DV} (r : Rep C F H Γ σ ρ ((ma, .tup ds, v) :: L)) (q : ma.ixok = true) : ∃ a vs, v = .ref a ∧ SqT C.K H a vs ∧ Alls (At C F H ma.kid) ds vs [] := by
  obtain ⟨f, h⟩ := r.head
  have s := r.fit.fh
  cases ma with
  | fr =>
    obtain ⟨_, a, vs, h1, h2, h3⟩ := h
    exact ⟨a, vs, h1, same_sqt s h2, Alls.of_das h3 fun d v x => ⟨rfl, x⟩⟩
  | yg =>
    obtain ⟨_, a, vs, h1, h2, h3⟩ := h
    exact ⟨a, vs, h1, same_sqt s h2, Alls.of_dys h3 fun d v x => ⟨rfl, x⟩⟩
  | bo =>
    obtain ⟨_, a, vs, h1, h2, h3⟩ := h
    exact ⟨a, vs, h1, same_sqt r.fit.bh h2, Alls.of_das h3 fun d v x => ⟨rfl, x⟩⟩
  | sc =>
    obtain ⟨_, a, ns, h1, h2, h3⟩ := h
    cases h2
  | tu m =>
    unfold At at h
    rw [if_pos (show isTup (DV.tup ds) = true from rfl)] at h
    obtain ⟨a, vs, h1, h2, h3⟩ := h
    exact ⟨a, vs, h1, same_sqt s h2, h3.pt fun d v f x => by
      have e := x.free_nil (by
        clear r h1 h2 h3 x
        induction m with
        | fr => rfl
        | pk m ih => exact ih q
        | po m ih => exact ih q
        | tu m ih => exact ih q
        | _ => cases q)
      rw [e] at x
      exact x⟩
  | pk m =>
    unfold At at h
    rw [if_neg (by exact Bool.false_ne_true)] at h
    obtain ⟨_, a, vs, h1, h2, h3⟩ := h
    exact ⟨a, vs, h1, same_sqt s h2, Alls.of_das h3 fun d v x => At.of_fr s q x⟩
  | po m =>
    unfold At at h
    rw [if_neg (by exact Bool.false_ne_true)] at h
    obtain ⟨_, a, vs, h1, h2, h3⟩ := h
    exact ⟨a, vs, h1, same_sqt s h2, Alls.of_das h3 fun d v x => At.of_fr s q x⟩
  | own m => cases q
  | ob m => cases q
theorem Alls.nil_get {R : DV → V → List Addr → Prop} {ds : List DV} {vs : List V} {i : Nat} (h : Alls R ds vs []) (e : ds[i]? = some d) : ∃ v, vs[i]? = some v ∧ R d v [] := by
  obtain ⟨v, f, h1, h2, h3⟩ := h.get e
  have e : f = [] := by
    cases f with
    | nil => rfl
    | cons a f => exact absurd (h3 a List.mem_cons_self) (List.not_mem_nil)
  rw [e] at h2
  exact ⟨v, h1, h2⟩
theorem Alls.atI {R : DV → V → List Addr → Prop} {ds : List DV} {vs : List V} {i : Int} (h : Alls R ds vs []) (e : L2.atI ds i = some d) : ∃ v, L2.atI vs i = some v ∧ R d v [] := by
  unfold L2.atI at e ⊢
  rw [← h.length]
  cases q : ixN ds.length i with
  | none => rw [q] at e; cases e
  | some j =>
    rw [q] at e
    exact h.nil_get (i := j) e

/-! ### subscripts -/
def ofO (o : Option DV) : Rs DV := match o with
  | some d => .ok d
  | none => .stuck
def dIx : OpD := fun x y => match x, y with
  | .lst ds, .int i => ofO (L2.atI ds i)
  | .tup ds, .int i => ofO (L2.atI ds i)
  | _, _ => .stuck
abbrev rIxX (K : PySem.W.Frag) : R2 := rOr (rIxL K) (rIxT K)
theorem ix_X {X : Cx} : IxR X (rIxX X.K) := IxR_or ix_list ix_tup
theorem os_ix (q : ma.ixok = true := by rfl) (qb : mb.rd = true := by rfl) : OpS C W (rIxX C.K) dIx ma mb ma.kid := by
  intro Γ F H σ ρ L x y dx dy Q r k
  unfold dIx at k
  have hy := r.da qb
  split at k
  · rename_i ds i
    obtain ⟨a, vs, h1, h2, h3⟩ := r.tail.items q
    cases e : L2.atI ds i with
    | none => rw [e] at k; exact k.elim
    | some d =>
      rw [e] at k
      obtain ⟨w, e1, e2⟩ := h3.atI e
      exact .inl ⟨a, vs, i, w, h1, hy, h2.1, e1, k.give r.tail.tail e2⟩
  · rename_i ds i
    obtain ⟨a, vs, h1, h2, h3⟩ := r.tail.parts q
    cases e : L2.atI ds i with
    | none => rw [e] at k; exact k.elim
    | some d =>
      rw [e] at k
      obtain ⟨w, e1, e2⟩ := h3.atI e
      exact .inr ⟨a, vs, i, w, h1, hy, h2, e1, k.give r.tail.tail e2⟩
  · exact k.elim

/-! ### new lists -/
theorem upd_nt {p : Addr} {o : HO} (np : H p = none) (ho : tupO o = false) : ∀ a u, upd H p o a = some u → tupO u = true → H a = some u := fun a u e q => by
  by_cases h : a = p
  · subst h
    rw [upd_same] at e
    cases e
    rw [ho] at q
    cases q
  · rw [upd_ne h] at e
    exact e
/-- objects laid, of which one is the root of a new entry -/
theorem Rep.new {fp : List Addr} (r : Rep C F H Γ σ ρ L) (s : Same H H') (nt : ∀ a o, H' a = some o → tupO o = true → H a = some o) (h : At C F H' m d v fp) (nd : fp.Nodup) (fr : ∀ a ∈ fp, H a = none) : Rep C F H' Γ σ ρ ((m, d, v) :: L) := by
  obtain ⟨f1, f2, nd2, a, b⟩ := r.own
  have oa := a.owned
  have ob := b.owned
  refine ⟨r.fit.alloc s nt, r.io, f1, fp ++ f2, ?_, a.mono (Same.refl _) (fun x hx => (oa x hx).1) (fun x hx => ?_) (.inr s), fp, f2, rfl, h, b.mono (Same.refl _) (fun x hx => (ob x hx).1) (fun x hx => ?_) (.inr s)⟩
  · have hf : ∀ x ∈ f1 ++ f2, x ∉ fp := fun x hx hy => by
      have hn := fr x hy
      rcases List.mem_append.mp hx with z | z
      · obtain ⟨_, _, o, e, _⟩ := oa x z; rw [hn] at e; cases e
      · obtain ⟨_, _, o, e, _⟩ := ob x z; rw [hn] at e; cases e
    refine List.Perm.nodup (l := fp ++ (f1 ++ f2)) ?_ ?_
    · rw [← List.append_assoc, ← List.append_assoc]
      exact List.Perm.append List.perm_append_comm (List.Perm.refl _)
    · exact List.nodup_append.mpr ⟨nd, nd2, fun x hx y hy e => hf y hy (e ▸ hx)⟩
  · obtain ⟨_, _, o, e, _⟩ := oa x hx
    rw [e]; exact s _ _ e
  · obtain ⟨_, _, o, e, _⟩ := ob x hx
    rw [e]; exact s _ _ e
theorem Exs.gather : ∀ {ms : List Md} {ds : List DV} {vs : List V} {L : List Ent} {f : List Addr}, Exs C F H (entsA ms ds vs L) f → (∀ x ∈ ms, x = m) → ms.length = vs.length → ds.length = vs.length →
    ∃ f1 f2, f.Perm (f1 ++ f2) ∧ Alls (At C F H m) ds vs f1 ∧ Exs C F H L f2
  | [], [], [], L, f, h, _, _, _ => ⟨[], f, List.Perm.refl _, ⟨rfl, rfl⟩, h⟩
  | [], d :: ds, [], L, f, h, _, _, e => by cases e
  | [], ds, v :: vs, L, f, h, _, e, _ => by cases e
  | a :: ms, ds, [], L, f, h, _, e, _ => by cases e
  | a :: ms, [], v :: vs, L, f, h, _, _, e => by cases e
  | a :: ms, d :: ds, v :: vs, L, f, h, q, e1, e2 => by
    obtain ⟨g1, g2, p, hA, h1, h2, e3, h3, h4⟩ := Exs.gather (ms := ms) (ds := ds) (vs := vs) h (fun x hx => q x (List.mem_cons_of_mem _ hx)) (by simpa using e1) (by simpa using e2)
    subst e3
    have ea : a = m := q a List.mem_cons_self
    subst ea
    refine ⟨h1 ++ g1, h2, p.trans ?_, ⟨v, vs, h1, g1, rfl, rfl, h3, hA⟩, h4⟩
    rw [← List.append_assoc]
    exact List.Perm.append List.perm_append_comm (List.Perm.refl _)
/-- a new node over the entries of an argument list -/
theorem Rep.node {ms : List Md} {ds : List DV} {vs : List V} {p : Addr} {o : HO} (r : Rep C F H Γ σ ρ (entsA ms ds vs L)) (q : ∀ x ∈ ms, x = m) (e1 : ms.length = vs.length) (e2 : ds.length = vs.length) (np : H p = none) (ho : tupO o = false) (hk : kids d = ds) (hd : isLD d = true) (hn : Node C.mg d vs o) :
    Rep C F (upd H p o) Γ σ ρ ((.own m, d, .ref p) :: L) := by
  obtain ⟨f1, f2, nd, a, b⟩ := r.own
  obtain ⟨g1, g2, pm, hA, hL⟩ := b.gather q e1 e2
  have oa := a.owned
  have ob := b.owned
  have s : Same H (upd H p o) := same_upd np
  have kp : ∀ x, Owned C F H x → upd H p o x = H x := fun x ⟨_, _, u, e, _⟩ => by rw [upd_ne (ne_of_none e np)]
  have ob1 : ∀ x ∈ g1, Owned C F H x := fun x hx => ob x (pm.mem_iff.mpr (List.mem_append_left _ hx))
  have ob2 : ∀ x ∈ g2, Owned C F H x := fun x hx => ob x (pm.mem_iff.mpr (List.mem_append_right _ hx))
  have hp : F p = none := Same.free r.fit.fh np
  have hb : C.Bp p = none := Same.free r.fit.bh np
  refine ⟨r.fit.alloc s (upd_nt np ho), r.io, f1, (p :: g1) ++ g2, ?_, a.mono (Same.refl _) (fun x hx => (oa x hx).1) (fun x hx => kp x (oa x hx)) (.inr s), p :: g1, g2, rfl, ?_, hL.mono (Same.refl _) (fun x hx => (ob2 x hx).1) (fun x hx => kp x (ob2 x hx)) (.inr s)⟩
  · refine List.Perm.nodup (l := p :: (f1 ++ f2)) ?_ ?_
    · refine (List.perm_middle (a := p) (l₁ := f1) (l₂ := f2)).symm.trans ?_
      exact List.Perm.append (List.Perm.refl _) (List.Perm.cons _ pm)
    · refine List.nodup_cons.mpr ⟨fun z => ?_, nd⟩
      rcases List.mem_append.mp z with z | z
      · obtain ⟨_, _, u, e, _⟩ := oa p z; rw [np] at e; cases e
      · obtain ⟨_, _, u, e, _⟩ := ob p z; rw [np] at e; cases e
  · unfold At
    rw [if_pos hd]
    refine ⟨p, vs, o, g1, rfl, hp, hb, upd_same, hn, rfl, ?_⟩
    rw [hk]
    exact hA.imp fun d v f hf x => x.mono (Same.refl _) (fun y hy => (ob1 y (hf y hy)).1) (fun y hy => kp y (ob1 y (hf y hy))) (.inr s)
def eLst (g : GA) : GE := fun ρ => (g ρ).bind fun ds => if ds.length ≤ sizeLine then .ok (.lst ds) else .stuck
theorem se_lst {t : TA} {g : GA} {ms : List Md} (h : SA C W Γ t g ms) (q : ∀ x ∈ ms, x = m) : SE C W Γ (tLst t) (eLst g) (.own m) := by
  intro F H σ ρ L Q hL r k
  show t σ H fun xs H1 => xs.length ≤ sizeLine ∧ ∀ p, H1 p = none → Q (.ref p) (upd H1 p (.lst xs))
  refine sa_then h hL r k fun ds F1 H1 vs s1 s2 e1 e2 r1 k1 => ?_
  split at k1
  · rename_i hz
    refine ⟨by rw [← e1]; exact hz, fun p np => ?_⟩
    exact k1 F1 _ _ (Same.refl _) (same_upd np) (r1.node q e2 e1 np rfl rfl rfl rfl)
  · exact k1.elim
/-- a new tuple over the entries of an argument list -/
theorem Rep.tuple {ms : List Md} {ds : List DV} {vs : List V} {p : Addr} (r : Rep C F H Γ σ ρ (entsA ms ds vs L)) (q : ∀ x ∈ ms, x = m) (e1 : ms.length = vs.length) (e2 : ds.length = vs.length) (np : H p = none) :
    Same F (upd F p (.tup vs)) ∧ Rep C (upd F p (.tup vs)) (upd H p (.tup vs)) Γ σ ρ ((.tu m, .tup ds, .ref p) :: L) := by
  obtain ⟨f1, f2, nd, a, b⟩ := r.own
  obtain ⟨g1, g2, pm, hA, hL⟩ := b.gather q e1 e2
  have oa := a.owned
  have ob := b.owned
  have s : Same H (upd H p (.tup vs)) := same_upd np
  have hp : F p = none := Same.free r.fit.fh np
  have hb : C.Bp p = none := Same.free r.fit.bh np
  have sf : Same F (upd F p (.tup vs)) := same_upd hp
  have kp : ∀ x, Owned C F H x → upd H p (.tup vs) x = H x := fun x ⟨_, _, u, e, _⟩ => by rw [upd_ne (ne_of_none e np)]
  have kf : ∀ x, Owned C F H x → upd F p (.tup vs) x = none := fun x ⟨h, _, u, e, _⟩ => by rw [upd_ne (ne_of_none e np)]; exact h
  have ob1 : ∀ x ∈ g1, Owned C F H x := fun x hx => ob x (pm.mem_iff.mpr (List.mem_append_left _ hx))
  have ob2 : ∀ x ∈ g2, Owned C F H x := fun x hx => ob x (pm.mem_iff.mpr (List.mem_append_right _ hx))
  refine ⟨sf, ⟨r.fit.ff.trans sf, fun x u e => ?_, r.fit.bh.trans s, fun x hx => ?_, fun x u e t => ?_⟩, r.io, f1, g1 ++ g2, ?_, a.mono sf (fun x hx => kf x (oa x hx)) (fun x hx => kp x (oa x hx)) (.inr s), g1, g2, rfl, ?_, hL.mono sf (fun x hx => kf x (ob2 x hx)) (fun x hx => kp x (ob2 x hx)) (.inr s)⟩
  · by_cases z : x = p
    · subst z; rw [upd_same] at e ⊢; exact e
    · rw [upd_ne z] at e ⊢; exact r.fit.fh _ _ e
  · by_cases z : x = p
    · subst z; exact .inr (.inl hb)
    · rw [upd_ne z] at hx; exact r.fit.f0 x hx
  · by_cases z : x = p
    · subst z; rw [upd_same] at e ⊢; exact e
    · rw [upd_ne z] at e ⊢; exact r.fit.tp x u e t
  · exact List.Perm.nodup (List.Perm.append (List.Perm.refl _) pm) nd
  · unfold At
    rw [if_pos (show isTup (DV.tup ds) = true from rfl)]
    refine ⟨p, vs, rfl, .inl (.inl upd_same), ?_⟩
    exact hA.imp fun d v f hf x => x.mono sf (fun y hy => kf y (ob1 y (hf y hy))) (fun y hy => kp y (ob1 y (hf y hy))) (.inr s)
def eTup (g : GA) : GE := fun ρ => (g ρ).bind fun ds => if ds.length ≤ sizeLine then .ok (.tup ds) else .stuck
theorem se_tupM {t : TA} {g : GA} {ms : List Md} (h : SA C W Γ t g ms) (q : ∀ x ∈ ms, x = m) : SE C W Γ (tTup t) (eTup g) (.tu m) := by
  intro F H σ ρ L Q hL r k
  show t σ H fun xs H1 => xs.length ≤ sizeLine ∧ ∀ p, H1 p = none → Q (.ref p) (upd H1 p (.tup xs))
  refine sa_then h hL r k fun ds F1 H1 vs s1 s2 e1 e2 r1 k1 => ?_
  split at k1
  · rename_i hz
    refine ⟨by rw [← e1]; exact hz, fun p np => ?_⟩
    obtain ⟨sf, r2⟩ := r1.tuple q e2 e1 np
    exact k1 _ _ _ sf (same_upd np) r2
  · exact k1.elim
theorem se_tup {t : TA} {g : GA} {ms : List Md} (h : SA C W Γ t g ms) (q : ∀ x ∈ ms, x = .fr) : SE C W Γ (tTup t) (eTup g) .fr := se_fr (se_tupM h q) rfl

/-! ### argument lists -/
def aNil : GA := fun _ => .ok []
def aCons (ga : GE) (gr : GA) : GA := fun ρ => (ga ρ).bind fun x => (gr ρ).bind fun xs => .ok (x :: xs)
theorem sa_nil : SA C W Γ tNil aNil [] := fun F H σ ρ L Q hL r k => k F H [] (Same.refl _) (Same.refl _) rfl rfl r
theorem sa_cons {ta : TE} {tr : TA} {ga : GE} {gr : GA} {ms : List Md} (ha : SE C W Γ ta ga m) (hr : SA C W Γ tr gr ms) (qo : (m.stor || m.free) = true := by rfl) : SA C W Γ (tCons ta tr) (aCons ga gr) (m :: ms) := by
  intro F H σ ρ L Q hL r k
  show ta σ H fun x H1 => tr σ H1 fun xs H2 => Q (x :: xs) H2
  refine se_thenA ha hL r k fun d F1 H1 x s1 s2 r1 k1 => ?_
  refine hr F1 H1 σ ρ _ _ (okL_cons qo hL) r1 ?_
  revert k1
  cases gr ρ with
  | ok ds => exact fun k1 F2 H2 vs s3 s4 e1 e2 r2 => k1 F2 H2 (x :: vs) s3 s4 (by rw [List.length_cons, List.length_cons, e1]) (by rw [List.length_cons, List.length_cons, e2]) r2
  | ex c d => exact fun k1 => k1
  | stuck => exact fun k1 => k1
end
end DL
end

/-! text DL4 -/
section
set_option maxRecDepth 100000
set_option maxHeartbeats 4000000
/-! the data layer, part 4: arithmetic, comparisons, tests, calls of built-ins, slices -/
namespace DL
open PySem PySem.Spec PyProof.Rows L2

section
variable {X : Cx} {pins : List (Addr × Obj)} {σ : L2.St} {H : Hp} {s : Shared}
theorem lstR {l : Addr} {xs : List V} (I : Inv X pins σ H s) (hH : Rd H l (.lst xs)) : xs.length ≤ sizeLine ∧ ∃ (its : List Value) (n : Nat), Vals xs its ∧ xs.length = its.length ∧ s.heap.get? l = some { cls := .type "list", data := .seq its.toArray n } := by
  obtain ⟨z, its, n, r, e⟩ := hH.ok I.hok
  exact ⟨z, its, n, r, r.length, e⟩
def rCatR : R2 := fun x y H Q => ∃ l b xs zs, x = .ref l ∧ y = .ref b ∧ Rd H l (.lst xs) ∧ Rd H b (.lst zs) ∧ xs.length + zs.length ≤ sizeLine ∧ ∀ p, H p = none → Q (.ref p) (upd H p (.lst (xs ++ zs)))
theorem op_catR : OpR X (binaryOp .Add) rCatR := by
  intro pins s σ H x y v u Q I rx ry h
  obtain ⟨l, b, xs, zs, rfl, rfl, hH, hB, hz, q⟩ := h
  cases rx
  cases ry
  obtain ⟨z, its, n, r, hl, e⟩ := lstR I hH
  obtain ⟨z2, its2, n2, r2, hl2, e2⟩ := lstR I hB
  refine PySem.P.add_list e e2 ?_ (by rw [List.size_toArray, List.size_toArray]; omega)
  have ea : its.toArray ++ its2.toArray = (its ++ its2).toArray := by simp
  rw [ea]
  exact ⟨.ref _, _, I.lnew (t' := s.toks) (r.append r2) (by rw [List.length_append]; omega), rfl, q _ I.fresh⟩
end

section
variable {C : Cxt} {W : Wx} {F F' H H' : Hp} {Γ : List Md} {σ : L2.St} {ρ : EnvD} {L : List Ent} {m ma mb : Md} {d : DV} {v : V}
theorem Rep.newl {ds : List DV} {vs : List V} {p : Addr} (r : Rep C F H Γ σ ρ L) (np : H p = none) (hA : Alls (At C F H m) ds vs []) : Rep C F (upd H p (.lst vs)) Γ σ ρ ((.own m, .lst ds, .ref p) :: L) := by
  have s : Same H (upd H p (.lst vs)) := same_upd np
  refine r.new s (upd_nt np rfl) (fp := [p]) ?_ (by simp) (fun a ha => by rw [List.mem_singleton.mp ha]; exact np)
  unfold At
  rw [if_pos (show isLD (.lst ds) = true from rfl)]
  exact ⟨p, vs, _, [], rfl, Same.free r.fit.fh np, Same.free r.fit.bh np, upd_same, rfl, rfl, hA.imp fun d v f hf x => x.mono (Same.refl _) (fun a ha => absurd (hf a ha) (List.not_mem_nil)) (fun a ha => absurd (hf a ha) (List.not_mem_nil)) (.inr s)⟩
theorem Alls.take {R : DV → V → List Addr → Prop} : ∀ {ds : List DV} {vs : List V} (n : Nat), Alls R ds vs [] → Alls R (ds.take n) (vs.take n) []
  | _, _, 0, _ => ⟨rfl, rfl⟩
  | [], _, n + 1, h => by rw [h.1]; exact ⟨rfl, rfl⟩
  | d :: ds, _, n + 1, ⟨v, r, f1, f2, h1, h2, h3, h4⟩ => by
    subst h1
    obtain ⟨e1, e2⟩ := List.append_eq_nil_iff.mp h2.symm
    subst e1
    subst e2
    exact ⟨v, _, [], [], rfl, rfl, h3, Alls.take n h4⟩
theorem Alls.drop {R : DV → V → List Addr → Prop} : ∀ {ds : List DV} {vs : List V} (n : Nat), Alls R ds vs [] → Alls R (ds.drop n) (vs.drop n) []
  | _, _, 0, h => h
  | [], _, n + 1, h => by rw [h.1]; exact ⟨rfl, rfl⟩
  | d :: ds, _, n + 1, ⟨v, r, f1, f2, h1, h2, h3, h4⟩ => by
    subst h1
    obtain ⟨e1, e2⟩ := List.append_eq_nil_iff.mp h2.symm
    subst e1
    subst e2
    exact Alls.drop n h4

/-! ### arithmetic -/
def dCat : OpD := fun x y => match x, y with
  | .lst xs, .lst ys => if xs.length + ys.length ≤ sizeLine then .ok (.lst (xs ++ ys)) else .stuck
  | _, _ => .stuck
def dCatT : OpD := fun x y => match x, y with
  | .tup xs, .tup ys => if xs.length + ys.length ≤ sizeLine then .ok (.tup (xs ++ ys)) else .stuck
  | _, _ => .stuck
def dCatS : OpD := fun x y => match x, y with
  | .str x, .str y => if x.length + y.length ≤ sizeLine then .ok (.str (x ++ y)) else .stuck
  | _, _ => .stuck
def tt2 : Int → Int → Bool := fun _ _ => true
def dAdd : OpD := opOr (dII tt2 fun i j => .int (i + j)) (opOr dCat dCatS)
abbrev rCatS : R2 := fun x y H Q => ∃ i j, x = .str i ∧ y = .str j ∧ i.length + j.length ≤ sizeLine ∧ Q (.str (i ++ j)) H
abbrev rAddX : R2 := rOr (rI0 fun i j => .int (i + j)) (rOr rCatR rCatS)
theorem op_addX {X : Cx} : OpR X (binaryOp .Add) rAddX := OpR_or op_add (OpR_or op_catR op_add_str)
theorem os_cat (qa : ma.ixok = true) (qb : mb.ixok = true) (ra : ma.rd = true) (rb : mb.rd = true) (ka : ma.kid = m) (kb : mb.kid = m) : OpS C W rCatR dCat ma mb (.own m) := by
  intro Γ F H σ ρ L x y dx dy Q r k
  unfold dCat at k
  split at k
  · rename_i xs ys
    obtain ⟨a, vs, h1, h2, h3⟩ := r.tail.items qa
    obtain ⟨b, ws, g1, g2, g3⟩ := r.items qb
    rw [ka] at h3
    rw [kb] at g3
    split at k
    · rename_i hz
      refine ⟨a, b, vs, ws, h1, g1, h2.2 ra, g2.2 rb, by rw [← h3.length, ← g3.length]; exact hz, fun p np => ?_⟩
      exact k F _ _ (Same.refl _) (same_upd np) (r.tail.tail.newl np (h3.append g3))
    · exact k.elim
  · exact k.elim
theorem os_catS (ra : ma.rd = true) (rb : mb.rd = true) (q : m.rd = true) : OpS C W rCatS dCatS ma mb m := by
  intro Γ F H σ ρ L x y dx dy Q r k
  obtain ⟨h1, h2⟩ := r.da2 ra rb
  unfold dCatS at k
  split at k
  · split at k
    · rename_i hz
      exact ⟨_, _, h1, h2, hz, k.flat r.tail.tail q rfl⟩
    · exact k.elim
  · exact k.elim
theorem os_add (qa : ma.ixok = true := by rfl) (qb : mb.ixok = true := by rfl) (ra : ma.rd = true := by rfl) (rb : mb.rd = true := by rfl) (ka : ma.kid = .fr := by rfl) (kb : mb.kid = .fr := by rfl) : OpS C W rAddX dAdd ma mb (.own .fr) :=
  (ops_ii0 ra rb rfl fun _ _ => rfl).or ((os_cat qa qb ra rb ka kb).or (os_catS ra rb rfl))
def dSub : OpD := dII tt2 fun i j => .int (i - j)
theorem os_sub (ra : ma.rd = true := by rfl) (rb : mb.rd = true := by rfl) : OpS C W (rI0 fun i j => .int (i - j)) dSub ma mb .fr := ops_ii0 ra rb rfl fun _ _ => rfl
def mulOk (i j : Int) : Bool := decide (i.natAbs < 2 ^ 64) || (decide (j.natAbs < 2 ^ 64) || decide (i.natAbs.log2 + j.natAbs.log2 < 1000000))
theorem bits64 {i : Int} (h : i.natAbs < 2 ^ 64) : Builtin.Int.intBits i ≤ 64 := by
  have z := PySem.Flt.log2_lt_of (by decide : 0 < 64) h
  unfold Builtin.Int.intBits
  split <;> omega
theorem mulOk_ok {i j : Int} (h : mulOk i j = true) : IntMulOk i j := by
  rcases (Bool.or_eq_true _ _).mp h with h | h
  · exact IntMulOk.of_left (bits64 (of_decide_eq_true h))
  · rcases (Bool.or_eq_true _ _).mp h with h | h
    · exact IntMulOk.of_right (bits64 (of_decide_eq_true h))
    · have h2 : i.natAbs.log2 + j.natAbs.log2 < 1000000 := of_decide_eq_true h
      exact CMulW.ok h2
theorem op_mulX {X : Cx} : OpR X (binaryOp .Mult) (rI IntMulOk fun i j => .int (i * j)) := opI fun _ _ _ _ _ _ _ hc q => mul_int q hc
def dMul : OpD := dII mulOk fun i j => .int (i * j)
theorem os_mul (ra : ma.rd = true := by rfl) (rb : mb.rd = true := by rfl) : OpS C W (rI IntMulOk fun i j => .int (i * j)) dMul ma mb .fr := ops_ii ra rb rfl (fun _ _ h => mulOk_ok h) fun _ _ => rfl
def divOk (_ j : Int) : Bool := decide (0 < j) && decide (j.natAbs.log2 < 9000)
def divOkN (_ j : Int) : Bool := decide (j ≠ 0) && decide (j.natAbs < 1073741824)
def dDiv : OpD := opOr (dII divOk fun i j => .int (i / j)) (dII divOkN fun i j => .int (i.fdiv j))
abbrev rDivX : R2 := rOr (rI CDivW fun i j => .int (i / j)) (rI CDivN fun i j => .int (i.fdiv j))
theorem op_divX {X : Cx} : OpR X (binaryOp .FloorDiv) rDivX := OpR_or op_fdivW op_fdivN
theorem os_div (ra : ma.rd = true := by rfl) (rb : mb.rd = true := by rfl) : OpS C W rDivX dDiv ma mb .fr :=
  (ops_ii ra rb rfl (fun _ _ h => ⟨of_decide_eq_true ((Bool.and_eq_true _ _).mp h).1, of_decide_eq_true ((Bool.and_eq_true _ _).mp h).2⟩) fun _ _ => rfl).or
    (ops_ii ra rb rfl (fun _ _ h => ⟨of_decide_eq_true ((Bool.and_eq_true _ _).mp h).1, of_decide_eq_true ((Bool.and_eq_true _ _).mp h).2⟩) fun _ _ => rfl)
def dMod : OpD := opOr (dII (fun _ j => decide (0 < j)) fun i j => .int (i % j)) (dII (fun _ j => decide (j ≠ 0)) fun i j => .int (i.fmod j))
abbrev rModX : R2 := rOr (rI (fun _ j => 0 < j) fun i j => .int (i % j)) (rI (fun _ j => j ≠ 0) fun i j => .int (i.fmod j))
theorem op_modX {X : Cx} : OpR X (binaryOp .Mod) rModX := OpR_or op_mod op_modN
theorem os_mod (ra : ma.rd = true := by rfl) (rb : mb.rd = true := by rfl) : OpS C W rModX dMod ma mb .fr :=
  (ops_ii ra rb rfl (fun _ _ h => of_decide_eq_true h) fun _ _ => rfl).or (ops_ii ra rb rfl (fun _ _ h => of_decide_eq_true h) fun _ _ => rfl)
def powOk (i j : Int) : Bool := decide (0 ≤ j) && (decide (j ≤ 1000000) && decide (i.natAbs < 2 ^ 64))
theorem powOk_ok {i j : Int} (h : powOk i j = true) : CPow i j := by
  have h1 := (Bool.and_eq_true _ _).mp h
  have h2 := (Bool.and_eq_true _ _).mp h1.2
  exact ⟨of_decide_eq_true h1.1, of_decide_eq_true h2.1, of_decide_eq_true h2.2⟩
def dPow : OpD := dII powOk fun i j => .int (i ^ j.toNat)
theorem os_pow (ra : ma.rd = true := by rfl) (rb : mb.rd = true := by rfl) : OpS C W (rI CPow fun i j => .int (i ^ j.toNat)) dPow ma mb .fr := ops_ii ra rb rfl (fun _ _ h => powOk_ok h) fun _ _ => rfl
def dShl : OpD := dII powOk fun i j => .int (i * 2 ^ j.toNat)
theorem os_shl (ra : ma.rd = true := by rfl) (rb : mb.rd = true := by rfl) : OpS C W (rI CPow fun i j => .int (i * 2 ^ j.toNat)) dShl ma mb .fr := ops_ii ra rb rfl (fun _ _ h => powOk_ok h) fun _ _ => rfl
def dShr : OpD := dII (fun _ j => decide (0 ≤ j)) fun i j => .int (i / 2 ^ j.toNat)
theorem os_shr (ra : ma.rd = true := by rfl) (rb : mb.rd = true := by rfl) : OpS C W (rI (fun _ j => 0 ≤ j) fun i j => .int (i / 2 ^ j.toNat)) dShr ma mb .fr := ops_ii ra rb rfl (fun _ _ h => of_decide_eq_true h) fun _ _ => rfl
def dAnd : OpD := dII tt2 fun i j => .int (Builtin.bitAnd i j)
theorem os_and (ra : ma.rd = true := by rfl) (rb : mb.rd = true := by rfl) : OpS C W (rI0 fun i j => .int (Builtin.bitAnd i j)) dAnd ma mb .fr := ops_ii0 ra rb rfl fun _ _ => rfl
def dOr : OpD := dII tt2 fun i j => .int (Builtin.bitOr i j)
theorem os_or (ra : ma.rd = true := by rfl) (rb : mb.rd = true := by rfl) : OpS C W (rI0 fun i j => .int (Builtin.bitOr i j)) dOr ma mb .fr := ops_ii0 ra rb rfl fun _ _ => rfl
def dXor : OpD := dII tt2 fun i j => .int (Builtin.bitXor i j)
theorem os_xor (ra : ma.rd = true := by rfl) (rb : mb.rd = true := by rfl) : OpS C W (rI0 fun i j => .int (Builtin.bitXor i j)) dXor ma mb .fr := ops_ii0 ra rb rfl fun _ _ => rfl
/-- [e] * n -/
def dRep : OpD := fun x y => match x, y with
  | .lst xs, .int k => if xs.length * k.toNat ≤ sizeLine ∧ -(2 ^ 63) ≤ k ∧ k < 2 ^ 63 then .ok (.lst (List.replicate k.toNat xs).flatten) else .stuck
  | _, _ => .stuck
theorem Alls.flat {R : DV → V → List Addr → Prop} {ds : List DV} {vs : List V} (h : Alls R ds vs []) : ∀ n : Nat, Alls R (List.replicate n ds).flatten (List.replicate n vs).flatten []
  | 0 => ⟨rfl, rfl⟩
  | n + 1 => by
    rw [List.replicate_succ, List.replicate_succ, List.flatten_cons, List.flatten_cons]
    exact h.append (Alls.flat h n)
theorem os_rep (rb : mb.rd = true := by rfl) : OpS C W rRep dRep (.own .fr) mb (.own .fr) := by
  intro Γ F H σ ρ L x y dx dy Q r k
  have hy := r.da rb
  obtain ⟨f, hx⟩ := r.tail.head
  unfold dRep at k
  split at k
  · rename_i xs j
    unfold At at hx
    rw [if_pos (show isLD (.lst xs) = true from rfl)] at hx
    obtain ⟨a, vs, o, fc, h1, h2, h3, h4, h5, h6, h7⟩ := hx
    obtain rfl : o = .lst vs := h5
    have h8 : Alls (At C F H .fr) xs vs [] := h7.pt fun d v f x => ⟨rfl, x.2⟩
    split at k
    · rename_i hz
      refine ⟨a, j, vs, h1, hy, h4, hz.2.1, hz.2.2, by rw [← h8.length]; exact hz.1, fun p np => ?_⟩
      exact k F _ _ (Same.refl _) (same_upd np) (r.tail.tail.newl np (h8.flat _))
    · exact k.elim
  · exact k.elim

/-! ### comparisons -/
def dLt : OpD := dII tt2 fun i j => .bl (decide (i < j))
def dLe : OpD := dII tt2 fun i j => .bl (decide (i ≤ j))
def dGt : OpD := dII tt2 fun i j => .bl (decide (j < i))
def dGe : OpD := dII tt2 fun i j => .bl (decide (j ≤ i))
theorem os_lt (ra : ma.rd = true := by rfl) (rb : mb.rd = true := by rfl) : OpS C W (rI0 fun i j => .bl (decide (i < j))) dLt ma mb .fr := ops_ii0 ra rb rfl fun _ _ => rfl
theorem os_le (ra : ma.rd = true := by rfl) (rb : mb.rd = true := by rfl) : OpS C W (rI0 fun i j => .bl (decide (i ≤ j))) dLe ma mb .fr := ops_ii0 ra rb rfl fun _ _ => rfl
theorem os_gt (ra : ma.rd = true := by rfl) (rb : mb.rd = true := by rfl) : OpS C W (rI0 fun i j => .bl (decide (j < i))) dGt ma mb .fr := ops_ii0 ra rb rfl fun _ _ => rfl
theorem os_ge (ra : ma.rd = true := by rfl) (rb : mb.rd = true := by rfl) : OpS C W (rI0 fun i j => .bl (decide (j ≤ i))) dGe ma mb .fr := ops_ii0 ra rb rfl fun _ _ => rfl
def isNonD : DV → Bool
  | .non => true
  | _ => false
def dIsN : OpD := fun x y => match y with
  | .non => .ok (.bl (isNonD x))
  | _ => .stuck
def dNotN : OpD := fun x y => match y with
  | .non => .ok (.bl (!isNonD x))
  | _ => .stuck
theorem da_non {K : PySem.W.Frag} {mg : Str → Option Value} {d : DV} {v : V} (h : DA K mg H d v) : decide (v = .non) = isNonD d := by
  cases d with
  | non => cases h; rfl
  | bl b => cases h; rfl
  | int i => cases h; rfl
  | str x => cases h; rfl
  | tup ds => obtain ⟨a, vs, rfl, _⟩ := h; rfl
  | lst ds => obtain ⟨a, vs, rfl, _⟩ := h; rfl
  | dct ks ds => obtain ⟨a, vs, rfl, _⟩ := h; rfl
  | obj c ns ds => obtain ⟨a, vs, rfl, _⟩ := h; rfl
abbrev rIsN : R2 := fun x y H Q => y = .non ∧ Q (.bl (decide (x = .non))) H
abbrev rNotN : R2 := fun x y H Q => y = .non ∧ Q (.bl (!decide (x = .non))) H
theorem os_isN (ra : ma.rd = true := by rfl) (rb : mb.rd = true := by rfl) : OpS C W rIsN dIsN ma mb .fr := by
  intro Γ F H σ ρ L x y dx dy Q r k
  obtain ⟨h1, h2⟩ := r.da2 ra rb
  unfold dIsN at k
  split at k
  · refine ⟨h2, ?_⟩
    rw [da_non h1]
    exact k.flat r.tail.tail rfl rfl
  · exact k.elim
theorem os_notN (ra : ma.rd = true := by rfl) (rb : mb.rd = true := by rfl) : OpS C W rNotN dNotN ma mb .fr := by
  intro Γ F H σ ρ L x y dx dy Q r k
  obtain ⟨h1, h2⟩ := r.da2 ra rb
  unfold dNotN at k
  split at k
  · refine ⟨h2, ?_⟩
    rw [da_non h1]
    exact k.flat r.tail.tail rfl rfl
  · exact k.elim
/-! equality -/
mutual
def py : DV → PyData
  | .non => .none
  | .bl b => .bool b
  | .int i => .int i
  | .str x => .str x
  | .tup ds => .tuple (pys ds)
  | .lst ds => .list (pys ds)
  | .dct _ _ => .none
  | .obj _ _ _ => .none
def pys : List DV → List PyData
  | [] => []
  | d :: ds => py d :: pys ds
end
mutual
def eqok : DV → Nat → Bool
  | .non, _ => true
  | .bl _, _ => true
  | .int _, _ => true
  | .str x, _ => PyData.strOk x
  | .tup ds, n => match n with
    | 0 => false
    | n + 1 => eqoks ds n
  | .lst ds, n => match n with
    | 0 => false
    | n + 1 => eqoks ds n
  | .dct _ _, _ => false
  | .obj _ _ _, _ => false
def eqoks : List DV → Nat → Bool
  | [], _ => true
  | d :: ds, n => eqok d n && eqoks ds n
end
mutual
theorem eqok_ok : ∀ (d : DV) (n : Nat), eqok d n = true → (py d).canLay0 = true ∧ (py d).depth ≤ n
  | .non, _, _ => ⟨rfl, Nat.zero_le _⟩
  | .bl _, _, _ => ⟨rfl, Nat.zero_le _⟩
  | .int _, _, _ => ⟨rfl, Nat.zero_le _⟩
  | .str _, _, h => ⟨h, Nat.zero_le _⟩
  | .tup ds, 0, h => by cases h
  | .tup ds, n + 1, h => by
    obtain ⟨h1, h2⟩ := eqoks_ok ds n h
    exact ⟨h1, Nat.succ_le_succ h2⟩
  | .lst ds, 0, h => by cases h
  | .lst ds, n + 1, h => by
    obtain ⟨h1, h2⟩ := eqoks_ok ds n h
    exact ⟨h1, Nat.succ_le_succ h2⟩
  | .dct _ _, _, h => by cases h
  | .obj _ _ _, _, h => by cases h
theorem eqoks_ok : ∀ (ds : List DV) (n : Nat), eqoks ds n = true → PyData.canLayAll0 (pys ds) = true ∧ PyData.depthAll (pys ds) ≤ n
  | [], _, _ => ⟨rfl, Nat.zero_le _⟩
  | d :: ds, n, h => by
    obtain ⟨h1, h2⟩ := (Bool.and_eq_true _ _).mp (show (eqok d n && eqoks ds n) = true from h)
    obtain ⟨a1, a2⟩ := eqok_ok d n h1
    obtain ⟨b1, b2⟩ := eqoks_ok ds n h2
    refine ⟨(Bool.and_eq_true _ _).mpr ⟨a1, b1⟩, Nat.max_le.mpr ⟨a2, b2⟩⟩
end
mutual
theorem da_dp {K : PySem.W.Frag} {mg : Str → Option Value} : ∀ (d : DV) (n : Nat) (v : V), eqok d n = true → DA K mg H d v → Dp K H v (py d)
  | .non, _, _, _, h => by cases h; exact .non
  | .bl _, _, _, _, h => by cases h; exact .bl _
  | .int _, _, _, _, h => by cases h; exact .int _
  | .str _, _, _, _, h => by cases h; exact .str _
  | .tup ds, 0, _, q, _ => by cases q
  | .tup ds, n + 1, _, q, h => by
    obtain ⟨a, vs, rfl, h2, h3⟩ := h
    exact .tup h2 (das_dp ds n vs q h3)
  | .lst ds, 0, _, q, _ => by cases q
  | .lst ds, n + 1, _, q, h => by
    obtain ⟨a, vs, rfl, h2, h3⟩ := h
    exact .lst (.inl h2) (das_dp ds n vs q h3)
  | .dct _ _, _, _, q, _ => by cases q
  | .obj _ _ _, _, _, q, _ => by cases q
theorem das_dp {K : PySem.W.Frag} {mg : Str → Option Value} : ∀ (ds : List DV) (n : Nat) (vs : List V), eqoks ds n = true → DAs K mg H ds vs → DpAll K H vs (pys ds)
  | [], _, _, _, h => by cases h; exact .nil
  | d :: ds, n, _, q, h => by
    obtain ⟨v, r, rfl, h2, h3⟩ := h
    obtain ⟨q1, q2⟩ := (Bool.and_eq_true _ _).mp (show (eqok d n && eqoks ds n) = true from q)
    exact .cons (da_dp d n v q1 h2) (das_dp ds n r q2 h3)
end
def eqv (x y : DV) : Bool := PyData.eqv (py x) (py y)
def dEq : OpD := fun x y => if (eqok x 20 && eqok y 20) = true then .ok (.bl (eqv x y)) else .stuck
def dNe : OpD := fun x y => if (eqok x 20 && eqok y 20) = true then .ok (.bl (!eqv x y)) else .stuck
theorem shaped_ok {d : DV} (h : eqok d 20 = true) : SeqAt.shaped (py d) = true := by
  obtain ⟨h1, h2⟩ := eqok_ok d 20 h
  unfold SeqAt.shaped
  rw [h1]
  exact decide_eq_true (Nat.le_trans h2 (by decide))
theorem os_eq (ra : ma.rd = true := by rfl) (rb : mb.rd = true := by rfl) : OpS C W (rEqD C.K) dEq ma mb .fr := by
  intro Γ F H σ ρ L x y dx dy Q r k
  obtain ⟨h1, h2⟩ := r.da2 ra rb
  unfold dEq at k
  split at k
  · rename_i q
    obtain ⟨q1, q2⟩ := (Bool.and_eq_true _ _).mp q
    exact ⟨py dx, py dy, da_dp dx 20 x q1 h1, da_dp dy 20 y q2 h2, shaped_ok q1, shaped_ok q2, k.flat r.tail.tail rfl rfl⟩
  · exact k.elim
theorem os_ne (ra : ma.rd = true := by rfl) (rb : mb.rd = true := by rfl) : OpS C W (rNeD C.K) dNe ma mb .fr := by
  intro Γ F H σ ρ L x y dx dy Q r k
  obtain ⟨h1, h2⟩ := r.da2 ra rb
  unfold dNe at k
  split at k
  · rename_i q
    obtain ⟨q1, q2⟩ := (Bool.and_eq_true _ _).mp q
    exact ⟨py dx, py dy, da_dp dx 20 x q1 h1, da_dp dy 20 y q2 h2, shaped_ok q1, shaped_ok q2, k.flat r.tail.tail rfl rfl⟩
  · exact k.elim
/-! membership -/
def flats : List DV → Option (List V)
  | [] => some []
  | d :: ds => match flat d, flats ds with
    | some v, some vs => some (v :: vs)
    | _, _ => none
theorem flats_ok {K : PySem.W.Frag} {mg : Str → Option Value} : ∀ {ds : List DV} {vs ws : List V}, flats ds = some ws → DAs K mg H ds vs → vs = ws
  | [], vs, ws, h, k => by cases h; exact k
  | d :: ds, vs, ws, h, ⟨v, r, e, h1, h2⟩ => by
    unfold flats at h
    split at h
    · rename_i w us a b
      cases h
      rw [e, da_flat a h1, flats_ok b h2]
    · cases h
theorem flat_flat {d : DV} {v : V} (h : flat d = some v) : flatV v = true := by
  cases d <;> first | cases h; rfl | cases h
theorem flats_flat : ∀ {ds : List DV} {ws : List V}, flats ds = some ws → ws.all flatV = true
  | [], ws, h => by cases h; rfl
  | d :: ds, ws, h => by
    unfold flats at h
    split at h
    · rename_i w us a b
      cases h
      rw [List.all_cons, flat_flat a, flats_flat b]
      rfl
    · cases h
def dInB (x y : DV) : Rs Bool := match y with
  | .lst ys => if (eqok x 20 && eqok (.lst ys) 20) = true then .ok (ys.any fun z => eqv z x) else .stuck
  | .tup ys => match flat x, flats ys with
    | some x, some ys => .ok (inV x ys)
    | _, _ => .stuck
  | _ => .stuck
def dIn : OpD := fun x y => (dInB x y).bind fun b => .ok (.bl b)
def dNotIn : OpD := fun x y => (dInB x y).bind fun b => .ok (.bl (!b))
abbrev rInX (K : PySem.W.Frag) : R2 := rOr (rInD K) (rIn K false)
abbrev rNotInX (K : PySem.W.Frag) : R2 := rOr (rNotInD K) (rIn K true)
theorem op_inX {X : Cx} (hu : X.A.units + 65 < cLine) : OpR X (compareOp .In) (rInX X.K) := OpR_or (op_inD hu) op_in_seq
theorem op_notInX {X : Cx} (hu : X.A.units + 65 < cLine) : OpR X (compareOp .NotIn) (rNotInX X.K) := OpR_or (op_notInD hu) op_notIn_seq
theorem pys_map : ∀ ds : List DV, pys ds = ds.map py
  | [] => rfl
  | d :: ds => by show py d :: pys ds = _; rw [pys_map ds]; rfl
theorem any_pys (ys : List DV) (x : DV) : (pys ys).any (fun z => PyData.eqv z (py x)) = ys.any fun z => eqv z x := by
  rw [pys_map, List.any_map]
  rfl
theorem os_in (ra : ma.rd = true := by rfl) (rb : mb.rd = true := by rfl) : OpS C W (rInX C.K) dIn ma mb .fr := by
  intro Γ F H σ ρ L x y dx dy Q r k
  obtain ⟨h1, h2⟩ := r.da2 ra rb
  unfold dIn dInB at k
  split at k
  · rename_i ys
    split at k
    · rename_i q
      obtain ⟨q1, q2⟩ := (Bool.and_eq_true _ _).mp q
      refine .inl ⟨py dx, pys ys, da_dp dx 20 x q1 h1, da_dp _ 20 y q2 h2, shaped_ok q1, shaped_ok q2, ?_⟩
      rw [any_pys]
      exact k.flat r.tail.tail rfl rfl
    · exact k.elim
  · rename_i ys
    split at k
    · rename_i x' ys' e1 e2
      obtain ⟨a, vs, g1, g2, g3⟩ := h2
      have e3 := flats_ok e2 g3
      have e4 := da_flat e1 h1
      subst e3
      subst e4
      exact .inr ⟨a, _, g1, .inr g2, flat_flat e1, flats_flat e2, k.flat r.tail.tail rfl rfl⟩
    · exact k.elim
  · exact k.elim
theorem os_notIn (ra : ma.rd = true := by rfl) (rb : mb.rd = true := by rfl) : OpS C W (rNotInX C.K) dNotIn ma mb .fr := by
  intro Γ F H σ ρ L x y dx dy Q r k
  obtain ⟨h1, h2⟩ := r.da2 ra rb
  unfold dNotIn dInB at k
  split at k
  · rename_i ys
    split at k
    · rename_i q
      obtain ⟨q1, q2⟩ := (Bool.and_eq_true _ _).mp q
      refine .inl ⟨py dx, pys ys, da_dp dx 20 x q1 h1, da_dp _ 20 y q2 h2, shaped_ok q1, shaped_ok q2, ?_⟩
      rw [any_pys]
      exact k.flat r.tail.tail rfl rfl
    · exact k.elim
  · rename_i ys
    split at k
    · rename_i x' ys' e1 e2
      obtain ⟨a, vs, g1, g2, g3⟩ := h2
      have e3 := flats_ok e2 g3
      have e4 := da_flat e1 h1
      subst e3
      subst e4
      exact .inr ⟨a, _, g1, .inr g2, flat_flat e1, flats_flat e2, k.flat r.tail.tail rfl rfl⟩
    · exact k.elim
  · exact k.elim
end
end DL
end

/-! text DL5 -/
section
set_option maxRecDepth 100000
set_option maxHeartbeats 4000000
/-! the data layer, part 5: tests, built-ins, slices -/
namespace DL
open PySem PySem.Spec PyProof.Rows L2

section
variable {C : Cxt} {W : Wx} {F F' H H' : Hp} {Γ : List Md} {σ : L2.St} {ρ : EnvD} {L : List Ent} {m ma mb mc : Md} {d : DV} {v : V}
theorem Rep.perm (r : Rep C F H Γ σ ρ L) : Rep C F H Γ σ ρ L := r
/-! ### tests -/
def asB : DV → Rs Bool
  | .bl b => .ok b
  | _ => .stuck
def gB (g : GE) : GT := fun ρ => (g ρ).bind asB
theorem st_b {t : TE} {g : GE} (h : SE C W Γ t g m) (q : m.rd = true := by rfl) : ST C W Γ (tB t) (gB g) := by
  intro F H σ ρ L Q hL r k
  show t σ H fun x H1 => ∃ c, x = .bl c ∧ Q c H1
  refine se_thenT h hL r k fun d F1 H1 x s1 s2 r1 k1 => ?_
  have hd := r1.da q
  cases d with
  | bl b => exact ⟨b, hd, k1 F1 H1 (Same.refl _) (Same.refl _) r1.tail⟩
  | _ => exact k1.elim
def asT : DV → Rs Bool
  | .non => .ok false
  | .bl b => .ok b
  | .int i => .ok (i != 0)
  | .lst ds => .ok (!ds.isEmpty)
  | .tup ds => .ok (!ds.isEmpty)
  | _ => .stuck
def gTru (g : GE) : GT := fun ρ => (g ρ).bind asT
theorem isE {ds : List DV} {vs : List V} (h : ds.length = vs.length) : (!ds.isEmpty) = !vs.isEmpty := by
  cases ds <;> cases vs <;> first | rfl | cases h
theorem st_tru {t : TE} {g : GE} (h : SE C W Γ t g m) (q : m.rd = true := by rfl) : ST C W Γ (tTru C.K t) (gTru g) := by
  intro F H σ ρ L Q hL r k
  show t σ H fun x H1 => ∃ c, TruV C.K x H1 c ∧ Q c H1
  refine se_thenT h hL r k fun d F1 H1 x s1 s2 r1 k1 => ?_
  have hd := r1.da q
  have fin : ∀ b, PT' C W Γ F1 H1 σ ρ L Q (.ok b) → Q b H1 := fun b k => k F1 H1 (Same.refl _) (Same.refl _) r1.tail
  cases d with
  | non => cases hd; exact ⟨false, rfl, fin _ k1⟩
  | bl b => cases hd; exact ⟨b, rfl, fin _ k1⟩
  | int i => cases hd; exact ⟨_, rfl, fin _ k1⟩
  | lst ds =>
    obtain ⟨a, vs, rfl, h2, h3⟩ := hd
    exact ⟨_, .inl ⟨vs, .inl h2, isE h3.length⟩, fin _ k1⟩
  | tup ds =>
    obtain ⟨a, vs, rfl, h2, h3⟩ := hd
    exact ⟨_, .inr (.inl ⟨vs, h2, isE h3.length⟩), fin _ k1⟩
  | _ => exact k1.elim
def gAnd (a b : GT) : GT := fun ρ => (a ρ).bind fun c => if c = true then b ρ else .ok false
def gOr (a b : GT) : GT := fun ρ => (a ρ).bind fun c => if c = true then .ok true else b ρ
def gNot (a : GT) : GT := fun ρ => (a ρ).bind fun c => .ok (!c)
theorem st_and {t u : TT} {f g : GT} (h1 : ST C W Γ t f) (h2 : ST C W Γ u g) : ST C W Γ (tAnd t u) (gAnd f g) := by
  intro F H σ ρ L Q hL r k
  show t σ H fun c H1 => if c = true then u σ H1 Q else Q false H1
  refine st_thenT h1 hL r k fun b F1 H1 s1 s2 r1 k1 => ?_
  cases b with
  | true => rw [if_pos rfl] at k1 ⊢; exact h2 F1 H1 σ ρ L Q hL r1 k1
  | false => rw [if_neg Bool.false_ne_true] at k1 ⊢; exact k1 F1 H1 (Same.refl _) (Same.refl _) r1
theorem st_or {t u : TT} {f g : GT} (h1 : ST C W Γ t f) (h2 : ST C W Γ u g) : ST C W Γ (tOr t u) (gOr f g) := by
  intro F H σ ρ L Q hL r k
  show t σ H fun c H1 => if c = true then Q true H1 else u σ H1 Q
  refine st_thenT h1 hL r k fun b F1 H1 s1 s2 r1 k1 => ?_
  cases b with
  | false => rw [if_neg Bool.false_ne_true] at k1 ⊢; exact h2 F1 H1 σ ρ L Q hL r1 k1
  | true => rw [if_pos rfl] at k1 ⊢; exact k1 F1 H1 (Same.refl _) (Same.refl _) r1
theorem st_not {t : TT} {f : GT} (h : ST C W Γ t f) : ST C W Γ (tNot t) (gNot f) := by
  intro F H σ ρ L Q hL r k
  show t σ H fun c H1 => Q (!c) H1
  refine st_thenT h hL r k fun b F1 H1 s1 s2 r1 k1 => ?_
  exact k1 F1 H1 (Same.refl _) (Same.refl _) r1
/-! ### tests as values, choices -/
def gIf (c : GT) (a b : GE) : GE := fun ρ => (c ρ).bind fun z => if z = true then a ρ else b ρ
theorem se_if {t : TT} {ta tb : TE} {f : GT} {ga gb : GE} (h : ST C W Γ t f) (ha : SE C W Γ ta ga m) (hb : SE C W Γ tb gb m) : SE C W Γ (tIf t ta tb) (gIf f ga gb) m := by
  intro F H σ ρ L Q hL r k
  show t σ H fun c H1 => if c = true then ta σ H1 Q else tb σ H1 Q
  refine st_then h hL r k fun b F1 H1 s1 s2 r1 k1 => ?_
  cases b with
  | true => rw [if_pos rfl] at k1 ⊢; exact ha F1 H1 σ ρ L Q hL r1 k1
  | false => rw [if_neg Bool.false_ne_true] at k1 ⊢; exact hb F1 H1 σ ρ L Q hL r1 k1
def gAndV (a b : GE) : GE := fun ρ => ((a ρ).bind asB).bind fun c => if c = true then b ρ else .ok (.bl false)
def gOrV (a b : GE) : GE := fun ρ => ((a ρ).bind asB).bind fun c => if c = true then .ok (.bl true) else b ρ
def gNotV (a : GE) : GE := fun ρ => ((a ρ).bind asB).bind fun c => .ok (.bl (!c))
theorem bind2 {α β γ : Type} (r : Rs α) (f : α → Rs β) (g : β → Rs γ) : (r.bind f).bind g = r.bind fun x => (f x).bind g := by cases r <;> rfl
theorem se_andV {ta tb : TE} {ga gb : GE} (ha : SE C W Γ ta ga ma) (hb : SE C W Γ tb gb m) (qa : ma.rd = true := by rfl) (q : m.rd = true := by rfl) : SE C W Γ (tAndV ta tb) (gAndV ga gb) m := by
  intro F H σ ρ L Q hL r k
  show ta σ H fun x H1 => ∃ c, x = .bl c ∧ if c = true then tb σ H1 Q else Q (.bl false) H1
  unfold gAndV at k
  rw [bind2] at k
  refine se_then ha hL r k fun d F1 H1 x s1 s2 r1 k1 => ?_
  have hd := r1.da qa
  cases d with
  | bl c =>
    refine ⟨c, hd, ?_⟩
    cases c with
    | true => exact hb F1 H1 σ ρ L Q hL r1.tail k1
    | false => exact k1.flat r1.tail q rfl
  | _ => exact k1.elim
theorem se_orV {ta tb : TE} {ga gb : GE} (ha : SE C W Γ ta ga ma) (hb : SE C W Γ tb gb m) (qa : ma.rd = true := by rfl) (q : m.rd = true := by rfl) : SE C W Γ (tOrV ta tb) (gOrV ga gb) m := by
  intro F H σ ρ L Q hL r k
  show ta σ H fun x H1 => ∃ c, x = .bl c ∧ if c = true then Q (.bl true) H1 else tb σ H1 Q
  unfold gOrV at k
  rw [bind2] at k
  refine se_then ha hL r k fun d F1 H1 x s1 s2 r1 k1 => ?_
  have hd := r1.da qa
  cases d with
  | bl c =>
    refine ⟨c, hd, ?_⟩
    cases c with
    | false => exact hb F1 H1 σ ρ L Q hL r1.tail k1
    | true => exact k1.flat r1.tail q rfl
  | _ => exact k1.elim
theorem se_notV {ta : TE} {ga : GE} (ha : SE C W Γ ta ga ma) (qa : ma.rd = true := by rfl) : SE C W Γ (tNotV ta) (gNotV ga) .fr := by
  intro F H σ ρ L Q hL r k
  show ta σ H fun x H1 => ∃ c, x = .bl c ∧ Q (.bl (!c)) H1
  unfold gNotV at k
  rw [bind2] at k
  refine se_then ha hL r k fun d F1 H1 x s1 s2 r1 k1 => ?_
  have hd := r1.da qa
  cases d with
  | bl c => exact ⟨c, hd, k1.flat r1.tail rfl rfl⟩
  | _ => exact k1.elim
/-- not x of a test -/
def gNotT (f : GT) : GE := fun ρ => (f ρ).bind fun c => .ok (.bl (!c))
/-! a < b < c -/
def gChain (op op' : OpD) (ga gb gc : GE) : GE := fun ρ => (ga ρ).bind fun x => (gb ρ).bind fun y => (op x y).bind fun z => (asB z).bind fun k => if k = true then (gc ρ).bind fun w => op' y w else .ok (.bl false)
theorem se_chain {r r' : R2} {op op' : OpD} {ta tb tc : TE} {ga gb gc : GE} (ho : OpS C W r op ma mb .fr) (ho' : OpS C W r' op' mb mc .fr) (ha : SE C W Γ ta ga ma) (hb : SE C W Γ tb gb mb) (hc : SE C W Γ tc gc mc) (qa : ma.free = true := by rfl) (qb : mb.free = true := by rfl) :
    SE C W Γ (tChain r r' ta tb tc) (gChain op op' ga gb gc) .fr := by
  intro F H σ ρ L Q hL r0 k
  show ta σ H fun x H1 => tb σ H1 fun y H2 => r x y H2 fun z H3 => ∃ k, z = .bl k ∧ (if k = true then tc σ H3 fun w' H4 => r' y w' H4 Q else Q (.bl false) H3)
  refine se_then ha hL r0 k fun dx F1 H1 x s1 s2 r1 k1 => ?_
  refine se_then hb (okL_cons (show (ma.stor || ma.free) = true by rw [qa, Bool.or_true]) hL) r1 k1 fun dy F2 H2 y s3 s4 r2 k2 => ?_
  have ay := r2.free qb
  have ax := r2.tail.free qa
  have r3 : Rep C F2 H2 Γ σ ρ ((mb, dy, y) :: (ma, dx, x) :: (mb, dy, y) :: L) := by
    have q0 := r2.tail.tail
    exact ((q0.cons0 ay).cons0 ax).cons0 ay
  refine ho Γ F2 H2 σ ρ _ x y dx dy _ r3 ?_
  revert k2
  cases op dx dy with
  | stuck => exact fun k => k
  | ex c d => exact fun k => k
  | ok dz =>
    intro k2 F3 H3 z s5 s6 r4
    have hz := r4.da rfl
    cases dz with
    | bl b =>
      refine ⟨b, hz, ?_⟩
      have k3 := k2.mono s5 s6
      cases b with
      | false => exact k3.flat r4.tail.tail rfl rfl
      | true =>
        rw [if_pos rfl]
        refine se_then hc (okL_cons (show (mb.stor || mb.free) = true by rw [qb, Bool.or_true]) hL) r4.tail (show PE' C W Γ F3 H3 σ ρ L .fr Q ((gc ρ).bind fun w => op' dy w) from k3) fun dw F4 H4 w s7 s8 r5 k4 => ?_
        exact ho' Γ F4 H4 σ ρ L y w dy dw Q r5 k4
    | _ => exact k2.elim
/-! unary -/
def dNeg : DV → Rs DV
  | .int i => .ok (.int (-i))
  | _ => .stuck
def gUn (f : DV → Rs DV) (g : GE) : GE := fun ρ => (g ρ).bind f
theorem se_neg {t : TE} {g : GE} (h : SE C W Γ t g m) (q : m.rd = true := by rfl) : SE C W Γ (tUn (rU fun i => .int (-i)) t) (gUn dNeg g) .fr := by
  intro F H σ ρ L Q hL r k
  show t σ H fun x H1 => ∃ i, x = .int i ∧ Q (.int (-i)) H1
  refine se_then h hL r k fun d F1 H1 x s1 s2 r1 k1 => ?_
  have hd := r1.da q
  cases d with
  | int i => exact ⟨i, hd, k1.flat r1.tail rfl rfl⟩
  | _ => exact k1.elim

/-! ### calls of built-ins -/
abbrev OpA := List DV → Rs DV
abbrev RA := List V → Hp → VK → Prop
def CallS (C : Cxt) (W : Wx) (r : RA) (op : OpA) (ms : List Md) (m : Md) : Prop :=
  ∀ Γ F H σ ρ L vs ds Q, ds.length = vs.length → ms.length = vs.length → Rep C F H Γ σ ρ (entsA ms ds vs L) → PE' C W Γ F H σ ρ L m Q (op ds) → r vs H Q
def gCB (op : OpA) (g : GA) : GE := fun ρ => (g ρ).bind op
theorem se_cb {r : RA} {op : OpA} {ms : List Md} {t : TA} {g : GA} (ho : CallS C W r op ms m) (h : SA C W Γ t g ms) : SE C W Γ (tCB r t) (gCB op g) m := by
  intro F H σ ρ L Q hL r0 k
  show t σ H fun vs H1 => r vs H1 Q
  refine sa_then h hL r0 k fun ds F1 H1 vs s1 s2 e1 e2 r1 k1 => ?_
  exact ho Γ F1 H1 σ ρ L vs ds Q e1 e2 r1 k1
/-- one argument -/
theorem call1 {r : RA} {op : OpA} (h : ∀ Γ F H σ ρ L x dx Q, Rep C F H Γ σ ρ ((ma, dx, x) :: L) → PE' C W Γ F H σ ρ L m Q (op [dx]) → r [x] H Q) : CallS C W r op [ma] m := by
  intro Γ F H σ ρ L vs ds Q e1 e2 r0 k
  match vs, ds, e1, e2, r0, k with
  | [x], [dx], _, _, r0, k => exact h Γ F H σ ρ L x dx Q r0 k
theorem call2 {r : RA} {op : OpA} (h : ∀ Γ F H σ ρ L x y dx dy Q, Rep C F H Γ σ ρ ((mb, dy, y) :: (ma, dx, x) :: L) → PE' C W Γ F H σ ρ L m Q (op [dx, dy]) → r [x, y] H Q) : CallS C W r op [ma, mb] m := by
  intro Γ F H σ ρ L vs ds Q e1 e2 r0 k
  match vs, ds, e1, e2, r0, k with
  | [x, y], [dx, dy], _, _, r0, k => exact h Γ F H σ ρ L x y dx dy Q r0 k
def raOr (a b : RA) : RA := fun vs H Q => a vs H Q ∨ b vs H Q
theorem CallR_or {X : Cx} {f : Value} {a b : RA} (h1 : CallR X f a) (h2 : CallR X f b) : CallR X f (raOr a b) := fun pins s σ H xs us Q I r h => h.elim (h1 pins s σ H xs us Q I r) (h2 pins s σ H xs us Q I r)
/-! len -/
def dLen : OpA
  | [.lst ds] => .ok (.int ds.length)
  | [.tup ds] => .ok (.int ds.length)
  | [.dct ks _] => .ok (.int ks.length)
  | [.str z] => if z.length ≤ sizeLine then .ok (.int z.length) else .stuck
  | _ => .stuck
abbrev rLenSeq (K : PySem.W.Frag) : RA := fun xs H Q => ∃ p ys, xs = [.ref p] ∧ (SqL K H p ys ∨ SqT K H p ys) ∧ Q (.int ys.length) H
abbrev rLenStr : RA := fun xs H Q => ∃ z, xs = [.str z] ∧ z.length ≤ sizeLine ∧ Q (.int z.length) H
abbrev rLenDct : RA := fun xs H Q => ∃ a kvs, xs = [V.ref a] ∧ H a = some (.dK kvs) ∧ Q (.int kvs.length) H
abbrev rLenX (K : PySem.W.Frag) : RA := raOr (rLenSeq K) (raOr rLenStr rLenDct)
theorem call_lenX {X : Cx} : CallR X (.builtin "len") (rLenX X.K) := CallR_or call_len_seq (CallR_or call_len_str call_lenD)
theorem cs_len (q : ma.ixok = true := by rfl) : CallS C W (rLenX C.K) dLen [ma] .fr := call1 fun Γ F H σ ρ L x dx Q r k => by
  cases dx with
  | lst ds =>
    obtain ⟨a, vs, h1, h2, h3⟩ := r.items q
    subst h1
    refine .inl ⟨a, vs, rfl, .inl h2.1, ?_⟩
    rw [← h3.length]
    exact k.flat r.tail rfl rfl
  | tup ds =>
    obtain ⟨a, vs, h1, h2, h3⟩ := r.parts q
    subst h1
    refine .inl ⟨a, vs, rfl, .inr h2, ?_⟩
    rw [← h3.length]
    exact k.flat r.tail rfl rfl
  | dct ks ds =>
    have hd : DA C.K C.mg H (.dct ks ds) x := r.daX q (fun _ h => by cases h)
    obtain ⟨a, vs, rfl, ⟨h2, h4⟩, h3⟩ := hd
    refine .inr (.inr ⟨a, _, rfl, h2, ?_⟩)
    rw [List.length_zip, ← h4, Nat.min_self]
    exact k.flat r.tail rfl rfl
  | str z =>
    obtain rfl : x = .str z := r.daX q (fun _ h => by cases h)
    revert k
    show PE' C W Γ F H σ ρ L .fr Q (if z.length ≤ sizeLine then .ok (.int z.length) else .stuck) → _
    split
    · rename_i hz
      exact fun k => .inr (.inl ⟨z, rfl, hz, k.flat r.tail rfl rfl⟩)
    · exact fun k => k.elim
  | _ => exact k.elim
end
end DL
end

/-! text DL6 -/
section
set_option maxRecDepth 100000
set_option maxHeartbeats 4000000
/-! the data layer, part 6: built-ins, slices -/
namespace DL
open PySem PySem.Spec PyProof.Rows L2
section
variable {C : Cxt} {W : Wx} {F F' H H' : Hp} {Γ : List Md} {σ : L2.St} {ρ : EnvD} {L : List Ent} {m ma mb mc : Md} {d : DV} {v : V}
/-! lists of iLst, of truth values -/
def iLst : List DV → Option (List Int)
  | [] => some []
  | .int i :: ds => (iLst ds).map (i :: ·)
  | _ :: _ => none
def bls : List DV → Option (List Bool)
  | [] => some []
  | .bl b :: ds => (bls ds).map (b :: ·)
  | _ :: _ => none
theorem ints_ok : ∀ {ds : List DV} {ns : List Int}, iLst ds = some ns → ds = ns.map DV.int
  | [], ns, h => by cases h; rfl
  | .int i :: ds, ns, h => by
    unfold iLst at h
    cases e : iLst ds with
    | none => rw [e] at h; cases h
    | some r => rw [e] at h; cases h; rw [ints_ok e]; rfl
  | .non :: _, _, h => by cases h
  | .bl _ :: _, _, h => by cases h
  | .str _ :: _, _, h => by cases h
  | .tup _ :: _, _, h => by cases h
  | .lst _ :: _, _, h => by cases h
  | .dct _ _ :: _, _, h => by cases h
  | .obj _ _ _ :: _, _, h => by cases h
theorem bls_ok : ∀ {ds : List DV} {ns : List Bool}, bls ds = some ns → ds = ns.map DV.bl
  | [], ns, h => by cases h; rfl
  | .bl i :: ds, ns, h => by
    unfold bls at h
    cases e : bls ds with
    | none => rw [e] at h; cases h
    | some r => rw [e] at h; cases h; rw [bls_ok e]; rfl
  | .non :: _, _, h => by cases h
  | .int _ :: _, _, h => by cases h
  | .str _ :: _, _, h => by cases h
  | .tup _ :: _, _, h => by cases h
  | .lst _ :: _, _, h => by cases h
  | .dct _ _ :: _, _, h => by cases h
  | .obj _ _ _ :: _, _, h => by cases h
theorem ints_map (ns : List Int) : iLst (ns.map DV.int) = some ns := by
  induction ns with
  | nil => rfl
  | cons n ns ih => show (iLst (ns.map DV.int)).map (n :: ·) = _; rw [ih]; rfl
theorem bls_map (ns : List Bool) : bls (ns.map DV.bl) = some ns := by
  induction ns with
  | nil => rfl
  | cons n ns ih => show (bls (ns.map DV.bl)).map (n :: ·) = _; rw [ih]; rfl
theorem At.int1 {i : Int} {fp : List Addr} (h : At C F H m (.int i) v fp) : v = .int i := by
  cases m with
  | fr => exact h.2
  | yg => exact h.2
  | bo => exact h.2
  | sc => obtain ⟨_, a, ns, _, h2, _⟩ := h; cases h2
  | pk m => unfold At at h; rw [if_neg (by exact Bool.false_ne_true)] at h; exact h.2
  | tu m => unfold At at h; rw [if_neg (by exact Bool.false_ne_true)] at h; exact h.2
  | po m => unfold At at h; rw [if_neg (by exact Bool.false_ne_true)] at h; exact h.2
  | own m => unfold At at h; rw [if_neg (by exact Bool.false_ne_true)] at h; exact h.2
  | ob m => unfold At at h; rw [if_neg (by exact Bool.false_ne_true)] at h; exact h.2
theorem At.bl1 {i : Bool} {fp : List Addr} (h : At C F H m (.bl i) v fp) : v = .bl i := by
  cases m with
  | fr => exact h.2
  | yg => exact h.2
  | bo => exact h.2
  | sc => obtain ⟨_, a, ns, _, h2, _⟩ := h; cases h2
  | pk m => unfold At at h; rw [if_neg (by exact Bool.false_ne_true)] at h; exact h.2
  | tu m => unfold At at h; rw [if_neg (by exact Bool.false_ne_true)] at h; exact h.2
  | po m => unfold At at h; rw [if_neg (by exact Bool.false_ne_true)] at h; exact h.2
  | own m => unfold At at h; rw [if_neg (by exact Bool.false_ne_true)] at h; exact h.2
  | ob m => unfold At at h; rw [if_neg (by exact Bool.false_ne_true)] at h; exact h.2
theorem Alls.iLst : ∀ {ns : List Int} {vs : List V} {fp : List Addr}, Alls (At C F H m) (ns.map DV.int) vs fp → vs = ns.map V.int
  | [], _, _, h => h.1
  | n :: ns, _, _, ⟨v, r, f1, f2, h1, h2, h3, h4⟩ => by rw [h1, h3.int1, Alls.iLst h4]; rfl
theorem Alls.bls : ∀ {ns : List Bool} {vs : List V} {fp : List Addr}, Alls (At C F H m) (ns.map DV.bl) vs fp → vs = ns.map V.bl
  | [], _, _, h => h.1
  | n :: ns, _, _, ⟨v, r, f1, f2, h1, h2, h3, h4⟩ => by rw [h1, h3.bl1, Alls.bls h4]; rfl
theorem Rep.newInts {ns : List Int} {p : Addr} (r : Rep C F H Γ σ ρ L) (np : H p = none) : Rep C F (upd H p (.lst (ns.map V.int))) Γ σ ρ ((.own .fr, .lst (ns.map .int), .ref p) :: L) := by
  refine r.newl np ?_
  induction ns with
  | nil => exact ⟨rfl, rfl⟩
  | cons n ns ih => exact ⟨.int n, _, [], [], rfl, rfl, ⟨rfl, rfl⟩, ih⟩
/-! int(x), abs(x), max(x, y), min(x, y), gcd(x, y) -/
def dInt : OpA
  | [.int i] => .ok (.int i)
  | [.bl k] => .ok (.int (if k = true then 1 else 0))
  | _ => .stuck
abbrev rInt : RA := fun xs H Q => (∃ i, xs = [.int i] ∧ Q (.int i) H) ∨ ∃ k, xs = [.bl k] ∧ Q (.int (if k then 1 else 0)) H
theorem cs_int (q : ma.rd = true := by rfl) : CallS C W rInt dInt [ma] .fr := call1 fun Γ F H σ ρ L x dx Q r k => by
  have hd := r.da q
  cases dx with
  | int i => cases hd; exact .inl ⟨i, rfl, k.flat r.tail rfl rfl⟩
  | bl b => cases hd; exact .inr ⟨b, rfl, k.flat r.tail rfl rfl⟩
  | _ => exact k.elim
def dAbs : OpA
  | [.int i] => .ok (.int (if i < 0 then -i else i))
  | _ => .stuck
abbrev rAbs : RA := fun xs H Q => ∃ i, xs = [.int i] ∧ Q (.int (if i < 0 then -i else i)) H
theorem cs_abs (q : ma.rd = true := by rfl) : CallS C W rAbs dAbs [ma] .fr := call1 fun Γ F H σ ρ L x dx Q r k => by
  have hd := r.da q
  cases dx with
  | int i => cases hd; exact ⟨i, rfl, k.flat r.tail rfl rfl⟩
  | _ => exact k.elim
def d2I (g : Int → Int → Int) : OpA
  | [.int i, .int j] => .ok (.int (g i j))
  | _ => .stuck
theorem cs_2I {g : Int → Int → Int} (qa : ma.rd = true := by rfl) (qb : mb.rd = true := by rfl) : CallS C W (fun xs H Q => ∃ i j, xs = [.int i, .int j] ∧ Q (.int (g i j)) H) (d2I g) [ma, mb] .fr := call2 fun Γ F H σ ρ L x y dx dy Q r k => by
  obtain ⟨h1, h2⟩ := r.da2 qa qb
  cases dx with
  | int i =>
    cases dy with
    | int j => cases h1; cases h2; exact ⟨i, j, rfl, k.flat r.tail.tail rfl rfl⟩
    | _ => exact k.elim
  | _ => cases dy <;> exact k.elim
abbrev dMax2 : OpA := d2I fun i j => if j > i then j else i
abbrev dMin2 : OpA := d2I fun i j => if j < i then j else i
abbrev dGcd : OpA := d2I fun a b => ((Nat.gcd a.natAbs b.natAbs : Nat) : Int)
theorem cs_max2 (qa : ma.rd = true := by rfl) (qb : mb.rd = true := by rfl) : CallS C W (fun xs H Q => ∃ i j, xs = [.int i, .int j] ∧ Q (.int (if j > i then j else i)) H) dMax2 [ma, mb] .fr := cs_2I qa qb
theorem cs_min2 (qa : ma.rd = true := by rfl) (qb : mb.rd = true := by rfl) : CallS C W (fun xs H Q => ∃ i j, xs = [.int i, .int j] ∧ Q (.int (if j < i then j else i)) H) dMin2 [ma, mb] .fr := cs_2I qa qb
theorem cs_gcd (qa : ma.rd = true := by rfl) (qb : mb.rd = true := by rfl) : CallS C W rGcd dGcd [ma, mb] .fr := cs_2I qa qb
/-! list(x), tuple(x) -/
def dList : OpA
  | [.lst ds] => .ok (.lst ds)
  | [.tup ds] => .ok (.lst ds)
  | _ => .stuck
abbrev rListOf (K : PySem.W.Frag) : RA := fun xs H Q => ∃ p ys, xs = [.ref p] ∧ (SqL K H p ys ∨ SqT K H p ys) ∧ ∀ l, H l = none → Q (.ref l) (upd H l (.lst ys))
theorem cs_list (q : ma.ixok = true := by rfl) : CallS C W (rListOf C.K) dList [ma] (.own ma.kid) := call1 fun Γ F H σ ρ L x dx Q r k => by
  cases dx with
  | lst ds =>
    obtain ⟨a, vs, h1, h2, h3⟩ := r.items q
    subst h1
    exact ⟨a, vs, rfl, .inl h2.1, fun p np => k F _ _ (Same.refl _) (same_upd np) (r.tail.newl np h3)⟩
  | tup ds =>
    obtain ⟨a, vs, h1, h2, h3⟩ := r.parts q
    subst h1
    exact ⟨a, vs, rfl, .inr h2, fun p np => k F _ _ (Same.refl _) (same_upd np) (r.tail.newl np h3)⟩
  | _ => exact k.elim
/-! sum, any, all, max, min, sorted over one list -/
def dSum : OpA
  | [.lst ds] => match iLst ds with
    | some ns => .ok (.int ns.sum)
    | none => .stuck
  | _ => .stuck
theorem cs_sum (q : ma.ixok = true := by rfl) : CallS C W (rSum C.K) dSum [ma] .fr := call1 fun Γ F H σ ρ L x dx Q r k => by
  cases dx with
  | lst ds =>
    obtain ⟨a, vs, h1, h2, h3⟩ := r.items q
    subst h1
    revert k
    show PE' C W Γ F H σ ρ L .fr Q (match iLst ds with | some ns => .ok (.int ns.sum) | none => .stuck) → _
    cases e : iLst ds with
    | none => exact fun k => k.elim
    | some ns =>
      intro k
      have e2 := ints_ok e
      subst e2
      have e3 := h3.iLst
      subst e3
      exact ⟨a, ns, rfl, h2.1, k.flat r.tail rfl rfl⟩
  | _ => exact k.elim
def dAll : OpA
  | [.lst ds] => match bls ds with
    | some ns => .ok (.bl (ns.all id))
    | none => .stuck
  | _ => .stuck
theorem cs_all (q : ma.ixok = true := by rfl) : CallS C W (rAll C.K) dAll [ma] .fr := call1 fun Γ F H σ ρ L x dx Q r k => by
  cases dx with
  | lst ds =>
    obtain ⟨a, vs, h1, h2, h3⟩ := r.items q
    subst h1
    revert k
    show PE' C W Γ F H σ ρ L .fr Q (match bls ds with | some ns => .ok (.bl (ns.all id)) | none => .stuck) → _
    cases e : bls ds with
    | none => exact fun k => k.elim
    | some ns =>
      intro k
      have e2 := bls_ok e
      subst e2
      have e3 := h3.bls
      subst e3
      exact ⟨a, ns, rfl, h2.1, k.flat r.tail rfl rfl⟩
  | _ => exact k.elim
def dAny : OpA
  | [.lst ds] => match bls ds with
    | some ns => .ok (.bl (ns.any id))
    | none => .stuck
  | _ => .stuck
theorem cs_any (q : ma.ixok = true := by rfl) : CallS C W (rAny C.K) dAny [ma] .fr := call1 fun Γ F H σ ρ L x dx Q r k => by
  cases dx with
  | lst ds =>
    obtain ⟨a, vs, h1, h2, h3⟩ := r.items q
    subst h1
    revert k
    show PE' C W Γ F H σ ρ L .fr Q (match bls ds with | some ns => .ok (.bl (ns.any id)) | none => .stuck) → _
    cases e : bls ds with
    | none => exact fun k => k.elim
    | some ns =>
      intro k
      have e2 := bls_ok e
      subst e2
      have e3 := h3.bls
      subst e3
      exact ⟨a, ns, rfl, h2.1, k.flat r.tail rfl rfl⟩
  | _ => exact k.elim
def maxI : Int → List Int → Int
  | n, [] => n
  | n, x :: xs => maxI (if n < x then x else n) xs
def minI : Int → List Int → Int
  | n, [] => n
  | n, x :: xs => minI (if x < n then x else n) xs
theorem maxI_ge : ∀ (xs : List Int) (n : Int), n ≤ maxI n xs ∧ (∀ y ∈ xs, y ≤ maxI n xs) ∧ (maxI n xs = n ∨ maxI n xs ∈ xs)
  | [], n => ⟨Int.le_refl _, (fun _ h => by cases h), .inl rfl⟩
  | x :: xs, n => by
    obtain ⟨h1, h2, h3⟩ := maxI_ge xs (if n < x then x else n)
    have h4 : n ≤ (if n < x then x else n) ∧ x ≤ (if n < x then x else n) := by split <;> constructor <;> omega
    refine ⟨Int.le_trans h4.1 h1, fun y hy => ?_, ?_⟩
    · rcases List.mem_cons.mp hy with rfl | hy
      · exact Int.le_trans h4.2 h1
      · exact h2 y hy
    · show maxI (if n < x then x else n) xs = n ∨ maxI (if n < x then x else n) xs ∈ x :: xs
      rcases h3 with h3 | h3
      · rw [h3]
        split
        · exact .inr List.mem_cons_self
        · exact .inl rfl
      · exact .inr (List.mem_cons_of_mem _ h3)
theorem minI_le : ∀ (xs : List Int) (n : Int), minI n xs ≤ n ∧ (∀ y ∈ xs, minI n xs ≤ y) ∧ (minI n xs = n ∨ minI n xs ∈ xs)
  | [], n => ⟨Int.le_refl _, (fun _ h => by cases h), .inl rfl⟩
  | x :: xs, n => by
    obtain ⟨h1, h2, h3⟩ := minI_le xs (if x < n then x else n)
    have h4 : (if x < n then x else n) ≤ n ∧ (if x < n then x else n) ≤ x := by split <;> constructor <;> omega
    refine ⟨Int.le_trans h1 h4.1, fun y hy => ?_, ?_⟩
    · rcases List.mem_cons.mp hy with rfl | hy
      · exact Int.le_trans h1 h4.2
      · exact h2 y hy
    · show minI (if x < n then x else n) xs = n ∨ minI (if x < n then x else n) xs ∈ x :: xs
      rcases h3 with h3 | h3
      · rw [h3]
        split
        · exact .inr List.mem_cons_self
        · exact .inl rfl
      · exact .inr (List.mem_cons_of_mem _ h3)
def dMax : OpA
  | [.lst ds] => match iLst ds with
    | some (n :: ns) => .ok (.int (maxI n ns))
    | _ => .stuck
  | _ => .stuck
def dMin : OpA
  | [.lst ds] => match iLst ds with
    | some (n :: ns) => .ok (.int (minI n ns))
    | _ => .stuck
  | _ => .stuck
theorem cs_max (q : ma.ixok = true := by rfl) : CallS C W (rMax C.K) dMax [ma] .fr := call1 fun Γ F H σ ρ L x dx Q r k => by
  cases dx with
  | lst ds =>
    obtain ⟨a, vs, h1, h2, h3⟩ := r.items q
    subst h1
    revert k
    show PE' C W Γ F H σ ρ L .fr Q (match iLst ds with | some (n :: ns) => .ok (.int (maxI n ns)) | _ => .stuck) → _
    cases e : iLst ds with
    | none => exact fun k => k.elim
    | some ns =>
      cases ns with
      | nil => exact fun k => k.elim
      | cons n ns =>
        intro k
        have e2 := ints_ok e
        subst e2
        have e3 := h3.iLst
        subst e3
        refine ⟨a, n :: ns, rfl, h2.1, Nat.succ_pos _, fun z hz hle => ?_⟩
        obtain ⟨g1, g2, g3⟩ := maxI_ge ns n
        have e4 : z = maxI n ns := Int.le_antisymm (by
          rcases List.mem_cons.mp hz with rfl | hz
          · exact g1
          · exact g2 z hz) (by
          rcases g3 with g3 | g3
          · rw [g3]; exact hle _ List.mem_cons_self
          · exact hle _ (List.mem_cons_of_mem _ g3))
        rw [e4]
        exact k.flat r.tail rfl rfl
  | _ => exact k.elim
theorem cs_min (q : ma.ixok = true := by rfl) : CallS C W (rMin C.K) dMin [ma] .fr := call1 fun Γ F H σ ρ L x dx Q r k => by
  cases dx with
  | lst ds =>
    obtain ⟨a, vs, h1, h2, h3⟩ := r.items q
    subst h1
    revert k
    show PE' C W Γ F H σ ρ L .fr Q (match iLst ds with | some (n :: ns) => .ok (.int (minI n ns)) | _ => .stuck) → _
    cases e : iLst ds with
    | none => exact fun k => k.elim
    | some ns =>
      cases ns with
      | nil => exact fun k => k.elim
      | cons n ns =>
        intro k
        have e2 := ints_ok e
        subst e2
        have e3 := h3.iLst
        subst e3
        refine ⟨a, n :: ns, rfl, h2.1, Nat.succ_pos _, fun z hz hle => ?_⟩
        obtain ⟨g1, g2, g3⟩ := minI_le ns n
        have e4 : z = minI n ns := Int.le_antisymm (by
          rcases g3 with g3 | g3
          · rw [g3]; exact hle _ List.mem_cons_self
          · exact hle _ (List.mem_cons_of_mem _ g3)) (by
          rcases List.mem_cons.mp hz with rfl | hz
          · exact g1
          · exact g2 z hz)
        rw [e4]
        exact k.flat r.tail rfl rfl
  | _ => exact k.elim
/-- sorted: put in by order -/
def putI (n : Int) : List Int → List Int
  | [] => [n]
  | x :: xs => if n ≤ x then n :: x :: xs else x :: putI n xs
def sortI : List Int → List Int
  | [] => []
  | x :: xs => putI x (sortI xs)
theorem putI_perm (n : Int) : ∀ xs : List Int, (putI n xs).Perm (n :: xs)
  | [] => List.Perm.refl _
  | x :: xs => by
    unfold putI
    split
    · exact List.Perm.refl _
    · exact ((putI_perm n xs).cons x).trans (List.Perm.swap n x xs)
theorem sortI_perm : ∀ xs : List Int, (sortI xs).Perm xs
  | [] => List.Perm.refl _
  | x :: xs => (putI_perm x _).trans ((sortI_perm xs).cons x)
theorem putI_sorted (n : Int) : ∀ xs : List Int, xs.Pairwise (· ≤ ·) → (putI n xs).Pairwise (· ≤ ·)
  | [], _ => List.pairwise_singleton _ _
  | x :: xs, h => by
    have h1 := List.pairwise_cons.mp h
    unfold putI
    split
    · rename_i q
      refine List.pairwise_cons.mpr ⟨fun y hy => ?_, h⟩
      rcases List.mem_cons.mp hy with rfl | hy
      · exact q
      · exact Int.le_trans q (h1.1 y hy)
    · rename_i q
      refine List.pairwise_cons.mpr ⟨fun y hy => ?_, putI_sorted n xs h1.2⟩
      rcases List.mem_cons.mp ((putI_perm n xs).mem_iff.mp hy) with rfl | hy
      · omega
      · exact h1.1 y hy
theorem sortI_sorted : ∀ xs : List Int, (sortI xs).Pairwise (· ≤ ·)
  | [] => List.Pairwise.nil
  | x :: xs => putI_sorted x _ (sortI_sorted xs)
def dSorted : OpA
  | [.lst ds] => match iLst ds with
    | some ns => .ok (.lst ((sortI ns).map .int))
    | none => .stuck
  | _ => .stuck
theorem cs_sorted (q : ma.ixok = true := by rfl) : CallS C W (rSortedI C.K) dSorted [ma] (.own .fr) := call1 fun Γ F H σ ρ L x dx Q r k => by
  cases dx with
  | lst ds =>
    obtain ⟨a, vs, h1, h2, h3⟩ := r.items q
    subst h1
    revert k
    show PE' C W Γ F H σ ρ L (.own .fr) Q (match iLst ds with | some ns => .ok (.lst ((sortI ns).map .int)) | none => .stuck) → _
    cases e : iLst ds with
    | none => exact fun k => k.elim
    | some ns =>
      intro k
      have e2 := ints_ok e
      subst e2
      have e3 := h3.iLst
      subst e3
      refine ⟨a, ns, rfl, h2.1, fun ns' p pm so np => ?_⟩
      have e4 : ns' = sortI ns := PySem.W.ksm_same (pm.trans (sortI_perm ns).symm) so (sortI_sorted ns)
      subst e4
      exact k F _ _ (Same.refl _) (same_upd np) (r.tail.newInts np)
  | _ => exact k.elim

/-! ### slices -/
abbrev GO := EnvD → Rs (Option Int)
def PO' (C : Cxt) (W : Wx) (Γ : List Md) (F H : Hp) (σ : L2.St) (ρ : EnvD) (L : List Ent) (Q : Option Int → Hp → Prop) : Rs (Option Int) → Prop
  | .ok o => ∀ F' H', Same F F' → Same H H' → Rep C F' H' Γ σ ρ L → Q o H'
  | .ex c d => ∀ F' H', Same F F' → Same H H' → Fit C F' H' → W c d H'
  | .stuck => False
def SO (C : Cxt) (W : Wx) (Γ : List Md) (t : TO) (g : GO) : Prop :=
  ∀ F H σ ρ L Q, okL L → Rep C F H Γ σ ρ L → PO' C W Γ F H σ ρ L Q (g ρ) → t σ H Q
def gNoPart : GO := fun _ => .ok none
def gPart (g : GE) : GO := fun ρ => (g ρ).bind fun d => match d with
  | .int i => .ok (some i)
  | _ => .stuck
theorem so_none : SO C W Γ tNoPart gNoPart := fun F H σ ρ L Q hL r k => k F H (Same.refl _) (Same.refl _) r
theorem so_some {t : TE} {g : GE} (h : SE C W Γ t g m) (q : m.rd = true := by rfl) : SO C W Γ (tPart t) (gPart g) := by
  intro F H σ ρ L Q hL r k
  show t σ H fun x H1 => ∃ i, x = .int i ∧ Q (some i) H1
  refine h F H σ ρ L _ hL r ?_
  unfold gPart at k
  revert k
  cases g ρ with
  | ex c d => exact fun k => k
  | stuck => exact fun k => k
  | ok d =>
    intro k F1 H1 v s1 s2 r1
    have hd := r1.da q
    cases d with
    | int i => exact ⟨i, hd, k F1 H1 s1 s2 r1.tail⟩
    | _ => exact k.elim
theorem so_then {t : TO} {g : GO} {f : Option Int → Rs DV} {Q : VK} {R : Option Int → Hp → Prop} {L2' : List Ent} (ha : SO C W Γ t g) (hL : okL L) (r : Rep C F H Γ σ ρ L) (h : PE' C W Γ F H σ ρ L2' m Q ((g ρ).bind f))
    (k : ∀ b F1 H1, Same F F1 → Same H H1 → Rep C F1 H1 Γ σ ρ L → PE' C W Γ F1 H1 σ ρ L2' m Q (f b) → R b H1) : t σ H R := by
  refine ha F H σ ρ L R hL r ?_
  revert h
  cases g ρ with
  | ok d => exact fun h F1 H1 s1 s2 r1 => k d F1 H1 s1 s2 r1 (h.mono s1 s2)
  | ex c d => exact fun h => h
  | stuck => exact fun h => h
theorem ixok_ok : ∀ {m : Md}, m.ixok = true → (m.stor || m.free) = true
  | .fr, _ => rfl
  | .yg, _ => rfl
  | .bo, _ => rfl
  | .sc, _ => rfl
  | .pk m, h => by rw [show (Md.pk m).free = true from fof m h, Bool.or_true]
  | .tu m, h => by rw [show (Md.tu m).free = true from fof m h, Bool.or_true]
  | .po m, h => by rw [show (Md.po m).free = true from fof m h, Bool.or_true]
where fof : ∀ (m : Md), m.fo = true → m.free = true
  | .fr, _ => rfl
  | .pk m, h => fof m h
  | .tu m, h => fof m h
  | .po m, h => fof m h
def cutD (xs : List DV) (lo hi : Option Int) : List DV := (xs.drop (HT.sIx xs.length 0 lo)).take (HT.sIx xs.length xs.length hi - HT.sIx xs.length 0 lo)
def dSl (d : DV) (lo hi : Option Int) : Rs DV := match d with
  | .lst ds => .ok (.lst (cutD ds lo hi))
  | .tup ds => .ok (.tup (cutD ds lo hi))
  | _ => .stuck
abbrev RS := V → Option Int → Option Int → Hp → VK → Prop
def rsOr (a b : RS) : RS := fun x l h H Q => a x l h H Q ∨ b x l h H Q
theorem SlR_or {X : Cx} {a b : RS} (h1 : SlR X a) (h2 : SlR X b) : SlR X (rsOr a b) := fun pins s σ H x v vl vu lo hi sl Q I r i p1 p2 h => h.elim (h1 pins s σ H x v vl vu lo hi sl Q I r i p1 p2) (h2 pins s σ H x v vl vu lo hi sl Q I r i p1 p2)
abbrev rSlX (K : PySem.W.Frag) : RS := rsOr (rSlL K) (rSlA K)
theorem sl_X {X : Cx} : SlR X (rSlX X.K) := SlR_or sl_list sl_tupA
def gSl (g : GE) (lo hi : GO) : GE := fun ρ => (g ρ).bind fun d => (lo ρ).bind fun l => (hi ρ).bind fun u => dSl d l u
theorem Alls.cut {R : DV → V → List Addr → Prop} {ds : List DV} {vs : List V} (h : Alls R ds vs []) (lo hi : Option Int) : Alls R (cutD ds lo hi) (cutV vs lo hi) [] := by
  unfold cutD cutV
  rw [← h.length]
  exact (h.drop _).take _
theorem At.free_pt {ds : List DV} {vs : List V} (q : m.free = true) (h : Alls (At C F H m) ds vs []) : Alls (At C F H m) ds vs [] := h
/-- a slice of a list (a new one), of a tuple whose parts are frozen -/
theorem se_sl {t : TE} {g : GE} {tl th : TO} {gl gh : GO} (ha : SE C W Γ t g ma) (hl : SO C W Γ tl gl) (hh : SO C W Γ th gh) (q : ma.ixok = true := by rfl) (qk : ma.kid = .fr := by rfl) : SE C W Γ (tSl (rSlX C.K) t tl th) (gSl g gl gh) (.own .fr) := by
  intro F H σ ρ L Q hL r0 k
  show t σ H fun x H1 => tl σ H1 fun l H2 => th σ H2 fun u H3 => rSlX C.K x l u H3 Q
  refine se_then ha hL r0 k fun d F1 H1 x s1 s2 r1 k1 => ?_
  refine so_then hl (okL_cons (ixok_ok q) hL) r1 k1 fun l F2 H2 s3 s4 r2 k2 => ?_
  refine so_then hh (okL_cons (ixok_ok q) hL) r2 k2 fun u F3 H3 s5 s6 r3 k3 => ?_
  cases d with
  | lst ds =>
    obtain ⟨a, vs, h1, h2, h3⟩ := r3.items q
    rw [qk] at h3
    exact .inl ⟨a, vs, h1, h2.1, fun p np => k3 F3 _ _ (Same.refl _) (same_upd np) (r3.tail.newl np (h3.cut l u))⟩
  | tup ds =>
    obtain ⟨a, vs, h1, h2, h3⟩ := r3.parts q
    rw [qk] at h3
    have k4 : PE' C W Γ F3 H3 σ ρ L (.own .fr) Q (.ok (.tup (cutD ds l u))) := k3
    have h4 : SqT C.K F3 a vs := tupO_rd r3.fit.tp h2
    have h5 : Alls (At C F3 H3 .fr) (cutD ds l u) (cutV vs l u) [] := h3.cut l u
    refine .inr ⟨a, vs, h1, h2, fun hz => ?_, fun hz p np => ?_⟩
    · have e : cutD ds l u = ds := by
        unfold cutD
        rw [h3.length, hz.1, hz.2, List.drop_zero, Nat.sub_zero, ← h3.length]
        exact List.take_length
      rw [e] at k4
      refine k4.give r3.tail ?_
      unfold At
      rw [if_neg (by exact Bool.false_ne_true)]
      exact ⟨rfl, a, vs, rfl, h4, h3.das fun d v f _ x => x.2⟩
    · obtain ⟨sf, r5⟩ := (show Rep C F3 H3 Γ σ ρ (entsA [] [] [] L) from r3.tail).tuple (m := .fr) (ds := []) (vs := []) (by simp) rfl rfl np
      have np2 := np
      have sh : Same H3 (upd H3 p (.tup (cutV vs l u))) := same_upd np
      have hp : F3 p = none := Same.free r3.fit.fh np
      have sf : Same F3 (upd F3 p (.tup (cutV vs l u))) := same_upd hp
      refine k4 (upd F3 p (.tup (cutV vs l u))) _ _ sf sh ?_
      have r6 : Rep C F3 H3 Γ σ ρ L := r3.tail
      obtain ⟨f1, f2, nd, a1, b1⟩ := r6.own
      have oa := a1.owned
      have ob := b1.owned
      have kp : ∀ x, Owned C F3 H3 x → upd H3 p (.tup (cutV vs l u)) x = H3 x := fun x ⟨_, _, u, e, _⟩ => by rw [upd_ne (ne_of_none e np)]
      have kf : ∀ x, Owned C F3 H3 x → upd F3 p (.tup (cutV vs l u)) x = none := fun x ⟨h, _, u, e, _⟩ => by rw [upd_ne (ne_of_none e np)]; exact h
      refine ⟨⟨r6.fit.ff.trans sf, fun x w e => ?_, r6.fit.bh.trans sh, fun x hx => ?_, fun x w e z => ?_⟩, r6.io, f1, f2, nd, a1.mono sf (fun x hx => kf x (oa x hx)) (fun x hx => kp x (oa x hx)) (.inr sh), [], f2, rfl, ?_, b1.mono sf (fun x hx => kf x (ob x hx)) (fun x hx => kp x (ob x hx)) (.inr sh)⟩
      · by_cases z : x = p
        · subst z; rw [upd_same] at e ⊢; exact e
        · rw [upd_ne z] at e ⊢; exact r6.fit.fh _ _ e
      · by_cases z : x = p
        · subst z; exact .inr (.inl (Same.free r6.fit.bh np))
        · rw [upd_ne z] at hx; exact r6.fit.f0 x hx
      · by_cases y : x = p
        · subst y; rw [upd_same] at e ⊢; exact e
        · rw [upd_ne y] at e ⊢; exact r6.fit.tp x w e z
      · unfold At
        rw [if_neg (by exact Bool.false_ne_true)]
        exact ⟨rfl, p, _, rfl, .inl (.inl upd_same), DAs.mono sf _ _ (h5.das fun d v f _ x => x.2)⟩
  | _ => exact k3.elim
end
end DL
end

/-! text DL7 -/
section
set_option maxRecDepth 100000
set_option maxHeartbeats 4000000
/-! the data layer, part 7: statements, loops -/
namespace DL
open PySem PySem.Spec PyProof.Rows L2
abbrev storL (L : List Ent) : Prop := L.all (fun e => e.1.stor) = true
theorem storL.ok {L : List Ent} (h : storL L) : okL L := fun e he => .inl (List.all_eq_true.mp h e he)
theorem storL_cons {e : Ent} {L : List Ent} (h1 : e.1.stor = true) (h2 : storL L) : storL (e :: L) := by
  show (e.1.stor && L.all fun e => e.1.stor) = true
  rw [h1, h2]
  rfl
def PS' (C : Cxt) (W : Wx) (mr : Md) (Γb Γ : List Md) (F H : Hp) (L : List Ent) (Dn : Ends) : Out → Prop
  | .nx ρ' => ∀ F' H' σ', Same F F' → Rep C F' H' Γ σ' ρ' L → Dn.nx σ' H'
  | .rt d ρ' => ∀ F' H' Γr σ' L' v, Same F F' → Rep C F' H' Γr σ' ρ' ((mr, d, v) :: L') → Dn.rt v H'
  | .bk ρ' => ∀ F' H' σ', Same F F' → Rep C F' H' Γb σ' ρ' L → Dn.bk σ' H'
  | .ct ρ' => ∀ F' H' σ', Same F F' → Rep C F' H' Γb σ' ρ' L → Dn.ct σ' H'
  | .ex c d => ∀ F' H', Same F F' → Fit C F' H' → W c d H'
  | .stuck => False
/-- a statement: the modes turn from Γ to Γ'; Γb: those at break and continue -/
def SS (C : Cxt) (W : Wx) (mr : Md) (Γb Γ : List Md) (t : TS) (g : GS) (Γ' : List Md) : Prop :=
  ∀ F H σ ρ L Dn, storL L → Rep C F H Γ σ ρ L → PS' C W mr Γb Γ' F H L Dn (g ρ) → t Dn σ H
/-- effectful expressions -/
def PX' (C : Cxt) (W : Wx) (Γ : List Md) (F H : Hp) (σ : L2.St) (L : List Ent) (m : Md) (Q : VK) : Rs (DV × EnvD) → Prop
  | .ok (d, ρ') => ∀ F' H' v, Same F F' → Rep C F' H' Γ σ ρ' ((m, d, v) :: L) → Q v H'
  | .ex c d => ∀ F' H', Same F F' → Fit C F' H' → W c d H'
  | .stuck => False
def SX (C : Cxt) (W : Wx) (Γ : List Md) (t : TE) (g : GX) (m : Md) : Prop :=
  ∀ F H σ ρ L Q, storL L → Rep C F H Γ σ ρ L → PX' C W Γ F H σ L m Q (g ρ) → t σ H Q
/-- targets: names alone; is: their slots -/
abbrev GG := DV → EnvD → Rs EnvD
def SN (C : Cxt) (Γ : List Md) (t : TG) (g : GG) (m : Md) (is : List Nat) : Prop :=
  ∀ F H σ ρ L d v ρ' (Q : L2.St → Hp → Prop), Rep C F H Γ σ ρ ((m, d, v) :: L) → g d ρ = .ok ρ' → (∀ σ', (∀ vs : List Nat, (∀ i ∈ is, i ∈ vs) → wipe σ' vs = wipe σ vs) → Rep C F H Γ σ' ρ' L → Q σ' H) → t v σ H Q
section
variable {C : Cxt} {W : Wx} {F F' H H' : Hp} {Γ Γb Γ' Γ2 : List Md} {σ : L2.St} {ρ : EnvD} {L : List Ent} {m ma mb mr : Md} {d : DV} {v : V} {Dn : Ends}
theorem PS'.mono {o : Out} (h : PS' C W mr Γb Γ F H L Dn o) (s : Same F F') : PS' C W mr Γb Γ F' H' L Dn o := by
  cases o with
  | nx ρ' => exact fun F2 H2 σ2 s2 => h F2 H2 σ2 (s.trans s2)
  | rt d ρ' => exact fun F2 H2 Γr σ2 L2 v s2 => h F2 H2 Γr σ2 L2 v (s.trans s2)
  | bk ρ' => exact fun F2 H2 σ2 s2 => h F2 H2 σ2 (s.trans s2)
  | ct ρ' => exact fun F2 H2 σ2 s2 => h F2 H2 σ2 (s.trans s2)
  | ex c d => exact fun F2 H2 s2 => h F2 H2 (s.trans s2)
  | stuck => exact h
theorem PX'.mono {Q : VK} {o : Rs (DV × EnvD)} (h : PX' C W Γ F H σ L m Q o) (s : Same F F') : PX' C W Γ F' H' σ L m Q o := by
  cases o with
  | ok p => exact fun F2 H2 v s2 => h F2 H2 v (s.trans s2)
  | ex c d => exact fun F2 H2 s2 => h F2 H2 (s.trans s2)
  | stuck => exact h
def gPure (g : GE) : GX := fun ρ => (g ρ).bind fun d => .ok (d, ρ)
theorem sx_of {t : TE} {g : GE} (h : SE C W Γ t g m) : SX C W Γ t (gPure g) m := by
  intro F H σ ρ L Q hs r k
  refine h F H σ ρ L Q hs.ok r ?_
  unfold gPure at k
  revert k
  cases g ρ with
  | ok d => exact fun k F1 H1 v s1 s2 r1 => k F1 H1 v s1 r1
  | ex c d => exact fun k F1 H1 s1 s2 f1 => k F1 H1 s1 f1
  | stuck => exact fun k => k
/-- a name's data, moved out of its slot -/
def gMove (i : Nat) : GX := fun ρ => (lk ρ i).bind fun d => .ok (d, ρ.set i none)
theorem sx_move {i : Nat} (e : Γ[i]? = some m) : SX C W Γ (tVar i) (gMove i) m := by
  intro F H σ ρ L Q hs r k
  unfold gMove at k
  rcases lk_cases ρ i with ⟨d, e2, e3⟩ | e3
  · rw [e3] at k
    obtain ⟨v, h1, r1⟩ := r.take e e2
    exact ⟨v, h1, k F H v (Same.refl _) r1⟩
  · rw [e3] at k
    exact k.elim
/-- frozen -/
theorem sx_fr {t : TE} {g : GX} (h : SX C W Γ t g m) (q : m.fz = true) : SX C W Γ t g .fr := by
  intro F H σ ρ L Q hs r k
  refine h F H σ ρ L Q hs r ?_
  revert k
  cases g ρ with
  | ok p =>
    intro k F1 H1 v s1 r1
    obtain ⟨F2, s3, r2⟩ := r1.freeze q
    exact k F2 H1 v (s1.trans s3) r2
  | ex c d => exact fun k => k
  | stuck => exact fun k => k

/-! ### plain statements -/
def gSeq (f g : GS) : GS := fun ρ => match f ρ with
  | .nx ρ' => g ρ'
  | o => o
theorem ss_seq {t u : TS} {f g : GS} (h1 : SS C W mr Γb Γ t f Γ') (h2 : SS C W mr Γb Γ' u g Γ2) : SS C W mr Γb Γ (tSeq t u) (gSeq f g) Γ2 := by
  intro F H σ ρ L Dn hs r k
  show t { Dn with nx := u Dn } σ H
  refine h1 F H σ ρ L _ hs r ?_
  unfold gSeq at k
  revert k
  cases f ρ with
  | nx ρ' => exact fun k F1 H1 σ1 s1 r1 => h2 F1 H1 σ1 ρ' L Dn hs r1 (k.mono s1)
  | rt d ρ' => exact fun k => k
  | bk ρ' => exact fun k => k
  | ct ρ' => exact fun k => k
  | ex c d => exact fun k => k
  | stuck => exact fun k => k
def gNext : GS := fun ρ => .nx ρ
theorem ss_nil : SS C W mr Γb Γ tNext gNext Γ := fun F H σ ρ L Dn hs r k => k F H σ (Same.refl _) r
def gBrk : GS := fun ρ => .bk ρ
def gCnt : GS := fun ρ => .ct ρ
theorem ss_brk : SS C W mr Γ Γ tBreak gBrk Γ' := fun F H σ ρ L Dn hs r k => k F H σ (Same.refl _) r
theorem ss_cnt : SS C W mr Γ Γ tCont gCnt Γ' := fun F H σ ρ L Dn hs r k => k F H σ (Same.refl _) r
def gNever : GS := fun _ => .stuck
theorem ss_never {t : TS} : SS C W mr Γb Γ t gNever Γ' := fun F H σ ρ L Dn hs r k => k.elim
def gIfS (c : GT) (f g : GS) : GS := fun ρ => match c ρ with
  | .ok b => if b = true then f ρ else g ρ
  | .ex c d => .ex c d
  | .stuck => .stuck
theorem ss_if {c : TT} {t u : TS} {gc : GT} {f g : GS} (hc : ST C W Γ c gc) (h1 : SS C W mr Γb Γ t f Γ') (h2 : SS C W mr Γb Γ u g Γ') : SS C W mr Γb Γ (tIfS c t u) (gIfS gc f g) Γ' := by
  intro F H σ ρ L Dn hs r k
  show c σ H fun b H1 => if b = true then t Dn σ H1 else u Dn σ H1
  refine hc F H σ ρ L _ hs.ok r ?_
  unfold gIfS at k
  revert k
  cases gc ρ with
  | ok b =>
    intro k F1 H1 s1 s2 r1
    cases b with
    | true => exact h1 F1 H1 σ ρ L Dn hs r1 (k.mono s1)
    | false => exact h2 F1 H1 σ ρ L Dn hs r1 (k.mono s1)
  | ex c d => exact fun k F1 H1 s1 s2 f1 => k F1 H1 s1 f1
  | stuck => exact fun k => k
def gDrop (g : GX) : GS := fun ρ => match g ρ with
  | .ok (_, ρ') => .nx ρ'
  | .ex c d => .ex c d
  | .stuck => .stuck
theorem ss_expr {t : TE} {g : GX} (h : SX C W Γ t g m) : SS C W mr Γb Γ (tDrop t) (gDrop g) Γ := by
  intro F H σ ρ L Dn hs r k
  show t σ H fun _ H1 => Dn.nx σ H1
  refine h F H σ ρ L _ hs r ?_
  unfold gDrop at k
  revert k
  cases g ρ with
  | ok p => exact fun k F1 H1 v s1 r1 => k F1 H1 σ s1 r1.tail
  | ex c d => exact fun k => k
  | stuck => exact fun k => k
def gRet (g : GX) : GS := fun ρ => match g ρ with
  | .ok (d, ρ') => .rt d ρ'
  | .ex c d => .ex c d
  | .stuck => .stuck
theorem ss_ret {t : TE} {g : GX} (h : SX C W Γ t g mr) : SS C W mr Γb Γ (tRet t) (gRet g) Γ' := by
  intro F H σ ρ L Dn hs r k
  show t σ H Dn.rt
  refine h F H σ ρ L _ hs r ?_
  unfold gRet at k
  revert k
  cases g ρ with
  | ok p => exact fun k F1 H1 v s1 r1 => k F1 H1 Γ σ L v s1 r1
  | ex c d => exact fun k => k
  | stuck => exact fun k => k
def gRetN : GS := fun ρ => .rt .non ρ
theorem ss_retN (q : mr.rd = true := by rfl) : SS C W mr Γb Γ tRetN gRetN Γ' := fun F H σ ρ L Dn hs r k => k F H Γ σ L .non (Same.refl _) (r.cons0 (At.flat q rfl))

/-! ### targets of names -/
def gtName (i : Nat) : GG := fun d ρ => .ok (ρ.set i (some d))
theorem wipe_set (σ : L2.St) (i : Nat) (x : Option V) : ∀ vs : List Nat, i ∈ vs → wipe (σ.set i x) vs = wipe σ vs
  | [], h => by cases h
  | w :: vs, h => by
    show (wipe (σ.set i x) vs).set w none = (wipe σ vs).set w none
    by_cases e : i ∈ vs
    · rw [wipe_set σ i x vs e]
    · have hw : i = w := by
        rcases List.mem_cons.mp h with h | h
        · exact h
        · exact absurd h e
      subst hw
      clear h
      have key : ∀ vs : List Nat, i ∉ vs → wipe (σ.set i x) vs = (wipe σ vs).set i x := by
        intro vs
        induction vs with
        | nil => intro _; rfl
        | cons u vs ih =>
          intro hn
          show (wipe (σ.set i x) vs).set u none = ((wipe σ vs).set u none).set i x
          rw [ih fun z => hn (List.mem_cons_of_mem _ z)]
          have : i ≠ u := fun z => hn (z ▸ List.mem_cons_self)
          exact List.set_comm _ _ this
      rw [key vs e, set_set']
theorem sn_name {i : Nat} (e : Γ[i]? = some m) (hio : ∀ p ∈ C.io, p.1 ≠ i) : SN C Γ (L2.gName i) (gtName i) m [i] := by
  intro F H σ ρ L d v ρ' Q r h k
  cases h
  have l : i < Γ.length := (List.getElem?_eq_some_iff.mp e).1
  have r1 := r.put l hio
  rw [set_id e] at r1
  exact k _ (fun vs hv => wipe_set σ i _ vs (hv i List.mem_cons_self)) r1
def setAll : List Nat → List DV → EnvD → EnvD
  | i :: is, d :: ds, ρ => setAll is ds (ρ.set i (some d))
  | _, _, ρ => ρ
def gtTup (is : List Nat) : GG := fun d ρ => match d with
  | .tup ds => if ds.length = is.length then .ok (setAll is ds ρ) else .stuck
  | _ => .stuck
/-- the names of a tuple's target, one after the other -/
inductive Names : List Nat → TGs → Prop
  | nil : Names [] L2.gNil
  | cons {i : Nat} {is : List Nat} {t : TGs} : Names is t → Names (i :: is) (L2.gCons (L2.gName i) t)
theorem sn_tup {is : List Nat} {t : TGs} (hn : Names is t) (hm : ∀ i ∈ is, Γ[i]? = some m.kid) (hio : ∀ p ∈ C.io, ∀ i ∈ is, p.1 ≠ i) (q : m.ixok = true := by rfl) : SN C Γ (L2.gTup C.K is.length t) (gtTup is) m is := by
  intro F H σ ρ L d v ρ' Q r h k
  cases d with
  | tup ds =>
    obtain ⟨a, vs, h1, h2, h3⟩ := r.parts q
    have h : (if ds.length = is.length then Rs.ok (setAll is ds ρ) else .stuck) = .ok ρ' := h
    split at h
    · rename_i hl
      cases h
      refine ⟨a, vs, h1, h2, by rw [← h3.length]; exact hl, ?_⟩
      have r1 := r.tail
      clear h1 h2 r
      have key : ∀ {is : List Nat} {t : TGs}, Names is t → (∀ i ∈ is, Γ[i]? = some m.kid) → (∀ p ∈ C.io, ∀ i ∈ is, p.1 ≠ i) → ∀ {ds : List DV} {vs : List V} {σ : L2.St} {ρ : EnvD}, ds.length = is.length → Alls (At C F H m.kid) ds vs [] → Rep C F H Γ σ ρ L →
          (∀ σ', (∀ ws : List Nat, (∀ i ∈ is, i ∈ ws) → wipe σ' ws = wipe σ ws) → Rep C F H Γ σ' (setAll is ds ρ) L → Q σ' H) → t vs σ H Q := by
        intro is t hn
        induction hn with
        | nil =>
          intro _ _ ds vs σ ρ hl ha r k
          cases ds with
          | cons d ds => cases hl
          | nil => exact ⟨ha.1, k σ (fun _ _ => rfl) r⟩
        | cons hn ih =>
          rename_i i is t
          intro hm hio ds vs σ ρ hl ha r k
          cases ds with
          | nil => cases hl
          | cons d ds =>
            obtain ⟨w, ws, f1, f2, e1, e2, e3, e4⟩ := ha
            obtain ⟨z1, z2⟩ := List.append_eq_nil_iff.mp e2.symm
            subst z1
            subst z2
            refine ⟨w, ws, e1, ?_⟩
            have ei := hm i List.mem_cons_self
            have l : i < Γ.length := (List.getElem?_eq_some_iff.mp ei).1
            have r2 := (r.cons0 e3).put l fun p hp => hio p hp i List.mem_cons_self
            rw [set_id ei] at r2
            refine ih (fun j hj => hm j (List.mem_cons_of_mem _ hj)) (fun p hp j hj => hio p hp j (List.mem_cons_of_mem _ hj)) (by simpa using hl) e4 r2 fun σ' hw r3 => ?_
            refine k σ' (fun us hu => ?_) r3
            rw [hw us fun j hj => hu j (List.mem_cons_of_mem _ hj)]
            exact wipe_set σ i _ us (hu i List.mem_cons_self)
      exact key hn hm hio hl h3 r1 k
    · cases h
  | _ => cases h
/-! ### x = e -/
def gAsg (g : GX) (tg : GG) : GS := fun ρ => match g ρ with
  | .ok (d, ρ') => (match tg d ρ' with
    | .ok ρ2 => .nx ρ2
    | .ex c d => .ex c d
    | .stuck => .stuck)
  | .ex c d => .ex c d
  | .stuck => .stuck
theorem ss_asg {te : TE} {g : GX} {tg : TG} {gg : GG} {is : List Nat} (h : SX C W Γ te g m) (hg : SN C Γ tg gg m is) (hx : ∀ d ρ c e, gg d ρ ≠ .ex c e) : SS C W mr Γb Γ (tAsg te tg) (gAsg g gg) Γ := by
  intro F H σ ρ L Dn hs r k
  show te σ H fun x H1 => tg x σ H1 Dn.nx
  refine h F H σ ρ L _ hs r ?_
  unfold gAsg at k
  revert k
  cases g ρ with
  | ok p =>
    obtain ⟨d, ρ'⟩ := p
    intro k F1 H1 v s1 r1
    have k : PS' C W mr Γb Γ F H L Dn (match gg d ρ' with | .ok ρ2 => .nx ρ2 | .ex c d => .ex c d | .stuck => .stuck) := k
    cases e : gg d ρ' with
    | ok ρ2 =>
      rw [e] at k
      exact hg F1 H1 σ ρ' L d v ρ2 _ r1 e fun σ' _ r2 => k F1 H1 σ' s1 r2
    | ex c d => exact absurd e (hx _ _ _ _)
    | stuck => rw [e] at k; exact k.elim
  | ex c d => exact fun k => k
  | stuck => exact fun k => k
theorem nx_name {i : Nat} : ∀ d ρ c e, gtName i d ρ ≠ .ex c e := fun _ _ _ _ h => by cases h
theorem nx_tup {is : List Nat} : ∀ d ρ c e, gtTup is d ρ ≠ .ex c e := fun d _ _ _ h => by
  cases d with
  | tup ds =>
    have h : (if ds.length = is.length then Rs.ok _ else .stuck) = Rs.ex _ _ := h
    split at h <;> cases h
  | _ => cases h
theorem ss_set {i : Nat} {te : TE} {g : GX} (h : SX C W Γ te g m) (l : i < Γ.length) (hio : ∀ p ∈ C.io, p.1 ≠ i) : SS C W mr Γb Γ (tAsg te (gName i)) (gAsg g (gtName i)) (Γ.set i m) := by
  intro F H σ ρ L Dn hs r k
  show te σ H fun x H1 => Dn.nx (σ.set i (some x)) H1
  refine h F H σ ρ L _ hs r ?_
  unfold gAsg at k
  revert k
  cases g ρ with
  | ok p => exact fun k F1 H1 v s1 r1 => k F1 H1 _ s1 (r1.put l hio)
  | ex c d => exact fun k => k
  | stuck => exact fun k => k
/-- the modes of slots that hold nothing may be any -/
theorem ss_mode {i : Nat} {t : TS} {g : GS} (h : SS C W mr Γb (Γ.set i m) t g Γ') (l : i < Γ.length) (hio : ∀ p ∈ C.io, p.1 ≠ i) : SS C W mr Γb Γ t (fun ρ => g (ρ.set i none)) Γ' := by
  intro F H σ ρ L Dn hs r k
  refine h F H σ (ρ.set i none) L Dn hs ?_ k
  obtain ⟨f1, f2, nd, a, b⟩ := r.own
  have key : ∀ {Γ : List Md} {σ : L2.St} {ρ : EnvD} {fp : List Addr} {i : Nat}, Slots C F H Γ σ ρ fp → ∃ x y z, fp = x ++ (y ++ z) ∧ Slots C F H (Γ.set i m) σ (ρ.set i none) (x ++ z) := by
    intro Γ
    induction Γ with
    | nil =>
      intro σ ρ fp i h
      cases σ <;> cases ρ <;> first | exact ⟨[], [], [], h, rfl⟩ | exact h.elim
    | cons m1 Γ ih =>
      intro σ ρ fp i h
      cases σ with
      | nil => cases ρ <;> exact h.elim
      | cons s1 σ =>
        cases ρ with
        | nil => exact h.elim
        | cons r1 ρ =>
          obtain ⟨f1, f2, h1, h2, h3⟩ := h
          cases i with
          | zero => exact ⟨[], f1, f2, h1, [], f2, rfl, rfl, h3⟩
          | succ i =>
            obtain ⟨x, y, z, h4, h5⟩ := ih (i := i) h3
            exact ⟨f1 ++ x, y, z, by rw [h1, h4, List.append_assoc], f1, x ++ z, by rw [List.append_assoc], h2, h5⟩
  obtain ⟨x, y, z, h4, h5⟩ := key (i := i) a
  subst h4
  refine ⟨r.fit, fun p hp => ?_, x ++ z, f2, nd.sublist (List.Sublist.append (List.Sublist.append (List.Sublist.refl _) (List.sublist_append_right _ _)) (List.Sublist.refl _)), h5, b⟩
  rw [List.getElem?_set_ne (Ne.symm (hio p hp))]
  exact r.io p hp

/-! ### while -/
def whileG (c : GT) (b : GS) : Nat → GS
  | 0, _ => .stuck
  | n + 1, ρ => match c ρ with
    | .ok true => (match b ρ with
      | .nx ρ' => whileG c b n ρ'
      | .ct ρ' => whileG c b n ρ'
      | .bk ρ' => .nx ρ'
      | o => o)
    | .ok false => .nx ρ
    | .ex c d => .ex c d
    | .stuck => .stuck
def fuelW : Nat := 1099511627776
def gWhile (c : GT) (b : GS) : GS := whileG c b fuelW
theorem whileG_mono {c : GT} {b : GS} : ∀ {n k : Nat} {ρ : EnvD} {o : Out}, n ≤ k → whileG c b n ρ = o → o ≠ .stuck → whileG c b k ρ = o
  | 0, _, _, _, _, h, hn => absurd h.symm hn
  | n + 1, 0, _, _, h, _, _ => absurd h (Nat.not_succ_le_zero _)
  | n + 1, k + 1, ρ, o, h, e, hn => by
    unfold whileG at e ⊢
    split at e
    · split at e
      · exact whileG_mono (Nat.le_of_succ_le_succ h) e hn
      · exact whileG_mono (Nat.le_of_succ_le_succ h) e hn
      · exact e
      · exact e
    · exact e
    · exact e
    · exact e
theorem gWhile_of {c : GT} {b : GS} {n : Nat} {ρ : EnvD} {o : Out} (h : n ≤ fuelW) (e : whileG c b n ρ = o) (hn : o ≠ .stuck) : gWhile c b ρ = o := whileG_mono h e hn
theorem ss_while {c : TT} {tb : TS} {gc : GT} {gb : GS} (hc : ST C W Γ c gc) (hb : SS C W mr Γ Γ tb gb Γ) : SS C W mr Γb Γ (tWhile c tb) (gWhile gc gb) Γ := by
  intro F H σ ρ L Dn hs r k
  refine ⟨fun n σ H => ∃ F' ρ', Same F F' ∧ Rep C F' H Γ σ ρ' L ∧ PS' C W mr Γb Γ F' H L Dn (whileG gc gb n ρ'), ⟨fuelW, F, ρ, Same.refl _, r, k⟩, fun n σ H hW => ?_⟩
  obtain ⟨F1, ρ1, s1, r1, k1⟩ := hW
  cases n with
  | zero => exact k1.elim
  | succ n =>
    refine hc F1 H σ ρ1 L _ hs.ok r1 ?_
    unfold whileG at k1
    revert k1
    cases gc ρ1 with
    | ok b =>
      intro k1 F2 H2 s2 s3 r2
      cases b with
      | false =>
        show Dn.nx σ H2
        exact k1 F2 H2 σ s2 r2
      | true =>
        show ∃ N : L2.St → Hp → Prop, _
        refine ⟨fun σ' H' => ∃ F' ρ', Same F F' ∧ Rep C F' H' Γ σ' ρ' L ∧ PS' C W mr Γb Γ F' H' L Dn (whileG gc gb n ρ'), fun σ' H' h => ⟨n, Nat.lt_succ_self _, h⟩, ?_⟩
        refine hb F2 H2 σ ρ1 L _ hs r2 ?_
        revert k1
        cases gb ρ1 with
        | nx ρ' => exact fun k F3 H3 σ3 s4 r3 => ⟨F3, ρ', s1.trans (s2.trans s4), r3, PS'.mono k (s2.trans s4)⟩
        | ct ρ' => exact fun k F3 H3 σ3 s4 r3 => ⟨F3, ρ', s1.trans (s2.trans s4), r3, PS'.mono k (s2.trans s4)⟩
        | bk ρ' => exact fun k F3 H3 σ3 s4 r3 => k F3 H3 σ3 (s2.trans s4) r3
        | rt d ρ' => exact fun k F3 H3 Γr σ3 L3 v s4 r3 => k F3 H3 Γr σ3 L3 v (s2.trans s4) r3
        | ex c d => exact fun k F3 H3 s4 f => k F3 H3 (s2.trans s4) f
        | stuck => exact fun k => k
    | ex c d => exact fun k1 F2 H2 s2 s3 f => k1 F2 H2 s2 f
    | stuck => exact fun k1 => k1

/-! ### what is walked -/
/-- the turns of J give the items, in the mode m, while the entries E stand -/
def Walk (C : Cxt) (J : It) (its : List DV) (m : Md) (E : List Ent) : Prop :=
  ∀ (i : Nat) F H Γ σ ρ L, Rep C F H Γ σ ρ (E ++ L) → (its.length ≤ i → J.stop i H) ∧
    ∀ d, its[i]? = some d → J.go i H ∧ ∀ x H', J.yld i H x H' → ∃ F', Same F F' ∧ Same H H' ∧ Rep C F' H' Γ σ ρ ((m, d, x) :: (E ++ L))
abbrev GI := EnvD → Rs (List DV)
def PI' (C : Cxt) (W : Wx) (Γ : List Md) (F H : Hp) (σ : L2.St) (ρ : EnvD) (L : List Ent) (m : Md) (st : Bool) (R : It → Hp → Prop) : Rs (List DV) → Prop
  | .ok its => ∀ F' H' J E, Same F F' → Same H H' → (st = true → storL E) → (∀ e ∈ E, e.1.free = true ∧ At C F' H' e.1 e.2.1 e.2.2 []) → Rep C F' H' Γ σ ρ (E ++ L) → Walk C J its m E → R J H'
  | .ex c d => ∀ F' H', Same F F' → Same H H' → Fit C F' H' → W c d H'
  | .stuck => False
def SI (C : Cxt) (W : Wx) (Γ : List Md) (wi : TI) (gi : GI) (m : Md) (st : Bool) : Prop :=
  ∀ F H σ ρ L R, okL L → Rep C F H Γ σ ρ L → PI' C W Γ F H σ ρ L m st R (gi ρ) → wi σ H R
theorem storL_app {E L : List Ent} (h1 : storL E) (h2 : storL L) : storL (E ++ L) := by
  show (E ++ L).all _ = true
  rw [List.all_append, h1, h2]
  rfl
theorem Rep.dropE : ∀ {E : List Ent}, Rep C F H Γ σ ρ (E ++ L) → Rep C F H Γ σ ρ L
  | [], r => r
  | _ :: E, r => Rep.dropE (E := E) r.tail
def forG (tg : GG) (b : GS) : List DV → GS
  | [], ρ => .nx ρ
  | d :: ds, ρ => match tg d ρ with
    | .ok ρ1 => (match b ρ1 with
      | .nx ρ2 => forG tg b ds ρ2
      | .ct ρ2 => forG tg b ds ρ2
      | .bk ρ2 => .nx ρ2
      | o => o)
    | .ex c d => .ex c d
    | .stuck => .stuck
def gFor (gi : GI) (tg : GG) (b : GS) : GS := fun ρ => match gi ρ with
  | .ok its => forG tg b its ρ
  | .ex c d => .ex c d
  | .stuck => .stuck
theorem ss_for {wi : TI} {gi : GI} {g : TG} {tg : GG} {tb : TS} {gb : GS} {is : List Nat} (hi : SI C W Γ wi gi m true) (hg : SN C Γ g tg m is) (hx : ∀ d ρ c e, tg d ρ ≠ .ex c e) (hb : SS C W mr Γ Γ tb gb Γ) : SS C W mr Γb Γ (tFor wi g tb) (gFor gi tg gb) Γ := by
  intro F H σ ρ L Dn hs r k
  refine hi F H σ ρ L _ hs.ok r ?_
  unfold gFor at k
  revert k
  cases gi ρ with
  | ex c d => exact fun k F2 H2 s2 s3 f => k F2 H2 s2 f
  | stuck => exact fun k => k
  | ok its =>
    intro k F1 H1 J E s1 s2 hE hA r1 w
    refine ⟨fun i n σ H => i + n = its.length ∧ ∃ F' ρ', Same F F' ∧ Rep C F' H Γ σ ρ' (E ++ L) ∧ PS' C W mr Γb Γ F' H L Dn (forG tg gb (its.drop i) ρ'), ⟨its.length, by omega, F1, ρ, s1, r1, PS'.mono k s1⟩, fun i n σ H hW => ?_⟩
    obtain ⟨en, F2, ρ2, s3, r2, k2⟩ := hW
    obtain ⟨w1, w2⟩ := w i F2 H Γ σ ρ2 L r2
    cases e : its[i]? with
    | none =>
      have hl := List.getElem?_eq_none_iff.mp e
      rw [List.drop_of_length_le hl] at k2
      exact .inl ⟨w1 hl, k2 F2 H σ (Same.refl _) r2.dropE⟩
    | some d =>
      have hl := (List.getElem?_eq_some_iff.mp e).1
      have ed : its.drop i = d :: its.drop (i + 1) := by
        rw [List.drop_eq_getElem_cons hl, (List.getElem?_eq_some_iff.mp e).2]
      rw [ed] at k2
      obtain ⟨w3, w4⟩ := w2 d e
      refine .inr ⟨w3, fun σ' H' => ∃ F' ρ', Same F F' ∧ Rep C F' H' Γ σ' ρ' (E ++ L) ∧ PS' C W mr Γb Γ F' H' L Dn (forG tg gb (its.drop (i + 1)) ρ'), fun σ' H' h => ⟨n - 1, by omega, by omega, h⟩, fun x H' hy => ?_⟩
      obtain ⟨F3, s4, s5, r3⟩ := w4 x H' hy
      unfold forG at k2
      cases et : tg d ρ2 with
      | ex c d => exact absurd et (hx _ _ _ _)
      | stuck => rw [et] at k2; exact k2.elim
      | ok ρ3 =>
        rw [et] at k2
        refine hg F3 H' σ ρ2 (E ++ L) d x ρ3 _ r3 et fun σ' _ r4 => ?_
        refine hb F3 H' σ' ρ3 (E ++ L) _ (storL_app (hE rfl) hs) r4 ?_
        revert k2
        show PS' C W mr Γb Γ F2 H L Dn (match gb ρ3 with | .nx ρ2 => forG tg gb (its.drop (i + 1)) ρ2 | .ct ρ2 => forG tg gb (its.drop (i + 1)) ρ2 | .bk ρ2 => .nx ρ2 | o => o) → _
        cases gb ρ3 with
        | nx ρ' => exact fun k F4 H4 σ4 s6 r5 => ⟨F4, ρ', s3.trans (s4.trans s6), r5, PS'.mono k (s4.trans s6)⟩
        | ct ρ' => exact fun k F4 H4 σ4 s6 r5 => ⟨F4, ρ', s3.trans (s4.trans s6), r5, PS'.mono k (s4.trans s6)⟩
        | bk ρ' => exact fun k F4 H4 σ4 s6 r5 => k F4 H4 σ4 (s4.trans s6) r5.dropE
        | rt d ρ' => exact fun k F4 H4 Γr σ4 L4 v s6 r5 => k F4 H4 Γr σ4 L4 v (s4.trans s6) r5
        | ex c d => exact fun k F4 H4 s6 f => k F4 H4 (s4.trans s6) f
        | stuck => exact fun k => k
end
end DL
end

/-! text DL8 -/
section
set_option maxRecDepth 100000
set_option maxHeartbeats 4000000
/-! the data layer, part 8: what is walked, comprehensions -/
namespace DL
open PySem PySem.Spec PyProof.Rows L2
section
variable {C : Cxt} {W : Wx} {F F' H H' : Hp} {Γ : List Md} {σ : L2.St} {ρ : EnvD} {L : List Ent} {m ma mb mr : Md} {d : DV} {v : V} {st : Bool}
theorem ixok_free : ∀ {m : Md}, m.ixok = true → m.free = true
  | .fr, _ => rfl
  | .yg, _ => rfl
  | .bo, _ => rfl
  | .sc, _ => rfl
  | .pk m, h => fo_free m h
  | .tu m, h => fo_free m h
  | .po m, h => fo_free m h
where fo_free : ∀ (m : Md), m.fo = true → m.free = true
  | .fr, _ => rfl
  | .pk m, h => fo_free m h
  | .tu m, h => fo_free m h
  | .po m, h => fo_free m h
def seqOf : DV → Rs (List DV)
  | .lst ds => .ok ds
  | .tup ds => .ok ds
  | _ => .stuck
def gSeqI (g : GE) : GI := fun ρ => (g ρ).bind seqOf
/-- a list or a tuple -/
def iSeq (K : PySem.W.Frag) (tl : TE) : TI := fun σ H R => iList K tl σ H R ∨ iTup K tl σ H R
theorem pi_seq {X : Cx} {tg l : Expr} {tl : TE} (hl : PE X l tl) : PI X tg l (iSeq X.K tl) :=
  ⟨fun pins s σ H R I h => h.elim (fun h => (pi_list hl).run pins s σ H R I h) fun h => (pi_tup hl).run pins s σ H R I h⟩
theorem si_seq {t : TE} {g : GE} (h : SE C W Γ t g m) (q : m.ixok = true := by rfl) (hs : st = true → m.stor = true := by exact fun _ => rfl) : SI C W Γ (iSeq C.K t) (gSeqI g) m.kid st := by
  intro F H σ ρ L R hL r k
  unfold gSeqI at k
  have key : ∀ d, g ρ = .ok d → (∀ ds, d = .lst ds → iList C.K t σ H R) ∧ (∀ ds, d = .tup ds → iTup C.K t σ H R) := by
    intro d e
    constructor
    · intro ds ed
      subst ed
      rw [e] at k
      refine h F H σ ρ L _ hL r ?_
      rw [e]
      intro F1 H1 x s1 s2 r1
      obtain ⟨a, vs, h1, h2, h3⟩ := r1.items q
      refine ⟨a, h1, ⟨vs, h2.1⟩, ?_⟩
      refine k F1 H1 (Itl C.K a) [(m, .lst ds, x)] s1 s2 (fun z => storL_cons (hs z) rfl) (fun e he => ?_) r1 ?_
      · obtain rfl := List.mem_singleton.mp he
        exact ⟨ixok_free q, r1.free (ixok_free q)⟩
      · intro i F2 H2 Γ2 σ2 ρ2 L2 r2
        obtain ⟨a2, vs2, g1, g2, g3⟩ := Rep.items (L := L2) r2 q
        have ea : a2 = a := by
          rw [h1] at g1
          cases g1
          rfl
        subst ea
        refine ⟨fun hl => ⟨vs2, g2.1, by rw [← g3.length]; exact hl⟩, fun d hd => ?_⟩
        obtain ⟨w, e1, e2⟩ := g3.nil_get hd
        refine ⟨⟨vs2, w, g2.1, e1⟩, fun y H' hy => ?_⟩
        obtain ⟨rfl, hy⟩ := hy
        have ey : y = w := Option.some.inj ((hy vs2 g2.1).symm.trans e1)
        subst ey
        exact ⟨F2, Same.refl _, Same.refl _, r2.cons0 e2⟩
    · intro ds ed
      subst ed
      rw [e] at k
      refine h F H σ ρ L _ hL r ?_
      rw [e]
      intro F1 H1 x s1 s2 r1
      obtain ⟨a, vs, h1, h2, h3⟩ := r1.parts q
      refine ⟨a, h1, ⟨vs, h2⟩, ?_⟩
      refine k F1 H1 (Itt C.K a) [(m, .tup ds, x)] s1 s2 (fun z => storL_cons (hs z) rfl) (fun e he => ?_) r1 ?_
      · obtain rfl := List.mem_singleton.mp he
        exact ⟨ixok_free q, r1.free (ixok_free q)⟩
      · intro i F2 H2 Γ2 σ2 ρ2 L2 r2
        obtain ⟨a2, vs2, g1, g2, g3⟩ := Rep.parts (L := L2) r2 q
        have ea : a2 = a := by
          rw [h1] at g1
          cases g1
          rfl
        subst ea
        refine ⟨fun hl => ⟨vs2, g2, by rw [← g3.length]; exact hl⟩, fun d hd => ?_⟩
        obtain ⟨w, e1, e2⟩ := g3.nil_get hd
        refine ⟨⟨vs2, w, g2, e1⟩, fun y H' hy => ?_⟩
        obtain ⟨rfl, hy⟩ := hy
        have ey : y = w := Option.some.inj ((hy vs2 g2).symm.trans e1)
        subst ey
        exact ⟨F2, Same.refl _, Same.refl _, r2.cons0 e2⟩
  cases e : g ρ with
  | ok d =>
    cases d with
    | lst ds => exact .inl ((key _ e).1 ds rfl)
    | tup ds => exact .inr ((key _ e).2 ds rfl)
    | _ => rw [e] at k; exact k.elim
  | ex c d =>
    refine .inl (h F H σ ρ L _ hL r ?_)
    rw [e] at k ⊢
    exact k
  | stuck => rw [e] at k; exact k.elim

/-! ranges -/
def rngD (lo : Int) (n : Nat) : List DV := (List.range n).map fun k : Nat => DV.int (lo + (k : Int))
def rngOk (j : Int) : Bool := decide (-(2 ^ 62) ≤ j) && decide (j < 2 ^ 62)
theorem rngOk_ok {j : Int} (h : rngOk j = true) : -(2 ^ 62) ≤ j ∧ j < 2 ^ 62 := by
  obtain ⟨h1, h2⟩ := (Bool.and_eq_true _ _).mp h
  exact ⟨of_decide_eq_true h1, of_decide_eq_true h2⟩
def dRng1 : List DV → Rs (List DV)
  | [.int j] => if rngOk j = true then .ok (rngD 0 j.toNat) else .stuck
  | _ => .stuck
def dRng2 : List DV → Rs (List DV)
  | [.int i, .int j] => if (rngOk i && rngOk j) = true then .ok (rngD i (j - i).toNat) else .stuck
  | _ => .stuck
def gRng1 (g : GA) : GI := fun ρ => (g ρ).bind dRng1
def gRng2 (g : GA) : GI := fun ρ => (g ρ).bind dRng2
theorem walk_rng {lo : Int} {n : Nat} : Walk C (Itr lo n) (rngD lo n) .fr [] := by
  intro i F H Γ σ ρ L r
  have hl : (rngD lo n).length = n := by unfold rngD; rw [List.length_map, List.length_range]
  refine ⟨fun h => by rw [hl] at h; exact h, fun d hd => ?_⟩
  have h1 := (List.getElem?_eq_some_iff.mp hd).1
  rw [hl] at h1
  have h2 : d = .int (lo + (i : Int)) := by
    unfold rngD at hd
    rw [List.getElem?_map, List.getElem?_range h1] at hd
    exact (Option.some.inj hd).symm
  subst h2
  refine ⟨h1, fun x H' hy => ?_⟩
  obtain ⟨rfl, rfl⟩ := hy
  exact ⟨F, Same.refl _, Same.refl _, r.cons0 ⟨rfl, rfl⟩⟩
theorem si_rng1 {t : TA} {g : GA} (h : SA C W Γ t g [ma]) (q : ma.rd = true := by rfl) : SI C W Γ (iRng1 t) (gRng1 g) .fr st := by
  intro F H σ ρ L R hL r k
  show t σ H fun vs H1 => ∃ j : Int, vs = [.int j] ∧ -(2 ^ 62) ≤ j ∧ j < 2 ^ 62 ∧ R (Itr 0 j.toNat) H1
  refine h F H σ ρ L _ hL r ?_
  unfold gRng1 at k
  revert k
  cases g ρ with
  | ex c d => exact fun k => k
  | stuck => exact fun k => k
  | ok ds =>
    intro k F1 H1 vs s1 s2 e1 e2 r1
    match vs, ds, e1, e2, r1, k with
    | [x], [dx], _, _, r1, k =>
      have hd := Rep.da (L := L) r1 q
      cases dx with
      | int j =>
        have k : PI' C W Γ F H σ ρ L .fr st R (if rngOk j = true then .ok (rngD 0 j.toNat) else .stuck) := k
        split at k
        · rename_i hz
          obtain ⟨z1, z2⟩ := rngOk_ok hz
          have hx : x = .int j := hd
          exact ⟨j, by rw [hx], z1, z2, k F1 H1 _ [] s1 s2 (fun _ => rfl) (fun e he => by cases he) (Rep.tail (L := L) r1) walk_rng⟩
        · exact k.elim
      | _ => exact k.elim
theorem si_rng2 {t : TA} {g : GA} (h : SA C W Γ t g [ma, mb]) (qa : ma.rd = true := by rfl) (qb : mb.rd = true := by rfl) : SI C W Γ (iRng2 t) (gRng2 g) .fr st := by
  intro F H σ ρ L R hL r k
  show t σ H fun vs H1 => ∃ i j : Int, vs = [.int i, .int j] ∧ (-(2 ^ 62) ≤ i ∧ i < 2 ^ 62 ∧ -(2 ^ 62) ≤ j ∧ j < 2 ^ 62) ∧ R (Itr i (j - i).toNat) H1
  refine h F H σ ρ L _ hL r ?_
  unfold gRng2 at k
  revert k
  cases g ρ with
  | ex c d => exact fun k => k
  | stuck => exact fun k => k
  | ok ds =>
    intro k F1 H1 vs s1 s2 e1 e2 r1
    match vs, ds, e1, e2, r1, k with
    | [x, y], [dx, dy], _, _, r1, k =>
      obtain ⟨hd1, hd2⟩ := Rep.da2 (L := L) r1 qa qb
      cases dx with
      | int i =>
        cases dy with
        | int j =>
          have k : PI' C W Γ F H σ ρ L .fr st R (if (rngOk i && rngOk j) = true then .ok (rngD i (j - i).toNat) else .stuck) := k
          split at k
          · rename_i hz
            obtain ⟨y1, y2⟩ := (Bool.and_eq_true _ _).mp hz
            obtain ⟨z1, z2⟩ := rngOk_ok y1
            obtain ⟨z3, z4⟩ := rngOk_ok y2
            have hx : x = .int i := hd1
            have hy : y = .int j := hd2
            exact ⟨i, j, by rw [hx, hy], ⟨z1, z2, z3, z4⟩, k F1 H1 _ [] s1 s2 (fun _ => rfl) (fun e he => by cases he) (Rep.tail (L := L) (Rep.tail (L := _ :: L) r1)) walk_rng⟩
          · exact k.elim
        | _ => exact k.elim
      | _ => cases dy <;> exact k.elim

/-! ### slots wiped and laid back -/
def wipeD (ρ : EnvD) : List Nat → EnvD
  | [] => ρ
  | v :: vs => (wipeD ρ vs).set v none
theorem Slots.sig : ∀ {Γ : List Md} {σ : L2.St} {ρ : EnvD} {fp : List Addr} {i : Nat} (s : Option V), Slots C F H Γ σ ρ fp → ρ[i]? = some none → Slots C F H Γ (σ.set i s) ρ fp
  | [], [], [], _, i, s, h, _ => h
  | m1 :: Γ, s1 :: σ, r :: ρ, _, 0, s, ⟨f1, f2, h1, h2, h3⟩, e => by
    have e : r = none := by simpa using e
    subst e
    exact ⟨f1, f2, h1, h2, h3⟩
  | m1 :: Γ, s1 :: σ, r :: ρ, _, i + 1, s, ⟨f1, f2, h1, h2, h3⟩, e => ⟨f1, f2, h1, h2, Slots.sig s h3 (by simpa using e)⟩
theorem Rep.sig {i : Nat} (s : Option V) (r : Rep C F H Γ σ ρ L) (e : ρ[i]? = some none) (hio : ∀ p ∈ C.io, p.1 ≠ i) : Rep C F H Γ (σ.set i s) ρ L := by
  obtain ⟨f1, f2, nd, a, b⟩ := r.own
  refine ⟨r.fit, fun p hp => ?_, f1, f2, nd, a.sig s e, b⟩
  rw [List.getElem?_set_ne (Ne.symm (hio p hp))]
  exact r.io p hp
theorem Rep.wipe1 {i : Nat} (r : Rep C F H Γ σ ρ L) (hΓ : Γ.all Md.stor = true) (hio : ∀ p ∈ C.io, p.1 ≠ i) : ∃ S : List Ent, storL S ∧ Rep C F H Γ (σ.set i none) (ρ.set i none) (S ++ L) ∧
    ∀ F' H' L', Rep C F' H' Γ (σ.set i none) (ρ.set i none) (S ++ L') → Rep C F' H' Γ σ ρ L' := by
  obtain ⟨f1, f2, nd, a, b⟩ := id r.own
  obtain ⟨l1, l2⟩ := a.len
  cases e : ρ[i]? with
  | none =>
    have hl := List.getElem?_eq_none_iff.mp e
    have e1 : ρ.set i none = ρ := List.set_eq_of_length_le hl
    have e2 : σ.set i none = σ := List.set_eq_of_length_le (by rw [l1, ← l2]; exact hl)
    rw [e1, e2]
    exact ⟨[], rfl, r, fun F' H' L' h => h⟩
  | some o =>
    cases o with
    | none =>
      have e1 : ρ.set i none = ρ := set_id e
      rw [e1]
      have hl := (List.getElem?_eq_some_iff.mp e).1
      refine ⟨[], rfl, r.sig none e hio, fun F' H' L' h => ?_⟩
      have h2 := Rep.sig (σ[i]'(by rw [l1, ← l2]; exact hl)) h e hio
      rw [set_set', set_id (List.getElem?_eq_getElem _)] at h2
      exact h2
    | some d =>
      have hl := (List.getElem?_eq_some_iff.mp e).1
      have hl2 : i < Γ.length := by rw [← l2]; exact hl
      have em := List.getElem?_eq_getElem hl2
      obtain ⟨v, h1, r1⟩ := r.take em e
      have en : (ρ.set i none)[i]? = some none := List.getElem?_set_self hl
      refine ⟨[(Γ[i], d, v)], storL_cons (List.all_eq_true.mp hΓ _ (List.getElem_mem hl2)) rfl, r1.sig none en hio, fun F' H' L' h => ?_⟩
      have h2 := Rep.sig (some v) h en hio
      rw [set_set', set_id h1] at h2
      have h3 := Rep.back (L := L') h2 h1 (.inl em)
      rw [set_set', set_id e, set_id em] at h3
      exact h3
theorem Rep.wipe : ∀ {vs : List Nat}, Rep C F H Γ σ ρ L → Γ.all Md.stor = true → (∀ p ∈ C.io, ∀ i ∈ vs, p.1 ≠ i) → ∃ S : List Ent, storL S ∧ Rep C F H Γ (L2.wipe σ vs) (wipeD ρ vs) (S ++ L) ∧
    ∀ F' H' L', Rep C F' H' Γ (L2.wipe σ vs) (wipeD ρ vs) (S ++ L') → Rep C F' H' Γ σ ρ L'
  | [], r, _, _ => ⟨[], rfl, r, fun F' H' L' h => h⟩
  | i :: vs, r, hΓ, hio => by
    obtain ⟨S, h1, h2, h3⟩ := Rep.wipe (vs := vs) r hΓ fun p hp j hj => hio p hp j (List.mem_cons_of_mem _ hj)
    obtain ⟨S2, g1, g2, g3⟩ := h2.wipe1 (i := i) hΓ fun p hp => hio p hp i List.mem_cons_self
    refine ⟨S2 ++ S, storL_app g1 h1, ?_, fun F' H' L' h => h3 F' H' L' (g3 F' H' _ ?_)⟩
    · rw [List.append_assoc]; exact g2
    · rw [← List.append_assoc]; exact h
/-- slots forgotten -/
theorem Rep.forget : ∀ {vs : List Nat}, Rep C F H Γ σ ρ L → (∀ p ∈ C.io, ∀ i ∈ vs, p.1 ≠ i) → Rep C F H Γ (L2.wipe σ vs) (wipeD ρ vs) L
  | [], r, _ => r
  | i :: vs, r, hio => by
    have h := Rep.forget (vs := vs) r fun p hp j hj => hio p hp j (List.mem_cons_of_mem _ hj)
    obtain ⟨f1, f2, nd, a, b⟩ := h.own
    obtain ⟨x, y, z, h4, h5⟩ := a.drop (i := i) none
    subst h4
    refine ⟨h.fit, fun p hp => ?_, x ++ z, f2, ?_, h5, b⟩
    · show ((L2.wipe σ vs).set i none)[p.1]? = _ ∧ _
      rw [List.getElem?_set_ne (Ne.symm (hio p hp i List.mem_cons_self))]
      exact h.io p hp
    · refine nd.sublist (List.Sublist.append ?_ (List.Sublist.refl _))
      exact List.Sublist.append (List.Sublist.refl _) (List.sublist_append_right _ _)
theorem wipe_idem (σ : L2.St) : ∀ vs : List Nat, L2.wipe (L2.wipe σ vs) vs = L2.wipe σ vs := by
  have key : ∀ (us vs : List Nat), (∀ i ∈ us, i ∈ vs) → L2.wipe (L2.wipe σ us) vs = L2.wipe σ vs := by
    intro us
    induction us with
    | nil => intro vs _; rfl
    | cons i us ih =>
      intro vs h
      show L2.wipe ((L2.wipe σ us).set i none) vs = _
      rw [wipe_set _ i none vs (h i List.mem_cons_self)]
      exact ih vs fun j hj => h j (List.mem_cons_of_mem _ hj)
  exact fun vs => key vs vs fun _ h => h
theorem wipeD_set (ρ : EnvD) (i : Nat) (x : Option DV) : ∀ vs : List Nat, i ∈ vs → wipeD (ρ.set i x) vs = wipeD ρ vs
  | [], h => by cases h
  | w :: vs, h => by
    show (wipeD (ρ.set i x) vs).set w none = (wipeD ρ vs).set w none
    by_cases e : i ∈ vs
    · rw [wipeD_set ρ i x vs e]
    · have hw : i = w := by
        rcases List.mem_cons.mp h with h | h
        · exact h
        · exact absurd h e
      subst hw
      clear h
      have key : ∀ vs : List Nat, i ∉ vs → wipeD (ρ.set i x) vs = (wipeD ρ vs).set i x := by
        intro vs
        induction vs with
        | nil => intro _; rfl
        | cons u vs ih =>
          intro hn
          show (wipeD (ρ.set i x) vs).set u none = ((wipeD ρ vs).set u none).set i x
          rw [ih fun z => hn (List.mem_cons_of_mem _ z)]
          have : i ≠ u := fun z => hn (z ▸ List.mem_cons_self)
          exact List.set_comm _ _ this
      rw [key vs e, set_set']
theorem wipeD_idem (ρ : EnvD) : ∀ vs : List Nat, wipeD (wipeD ρ vs) vs = wipeD ρ vs := by
  have key : ∀ (us vs : List Nat), (∀ i ∈ us, i ∈ vs) → wipeD (wipeD ρ us) vs = wipeD ρ vs := by
    intro us
    induction us with
    | nil => intro vs _; rfl
    | cons i us ih =>
      intro vs h
      show wipeD ((wipeD ρ us).set i none) vs = _
      rw [wipeD_set _ i none vs (h i List.mem_cons_self)]
      exact ih vs fun j hj => h j (List.mem_cons_of_mem _ hj)
  exact fun vs => key vs vs fun _ h => h
/-- this target stores within these slots -/
def Keeps (tg : GG) (vs : List Nat) : Prop := ∀ d ρ ρ', tg d ρ = .ok ρ' → wipeD ρ' vs = wipeD ρ vs
theorem keeps_name {i : Nat} {vs : List Nat} (h : i ∈ vs) : Keeps (gtName i) vs := fun d ρ ρ' e => by
  cases e
  exact wipeD_set ρ i _ vs h
theorem setAll_wipe {vs : List Nat} : ∀ {is : List Nat} {ds : List DV} {ρ : EnvD}, (∀ i ∈ is, i ∈ vs) → wipeD (setAll is ds ρ) vs = wipeD ρ vs
  | [], _, _, _ => by unfold setAll; rfl
  | i :: is, [], _, _ => by unfold setAll; rfl
  | i :: is, d :: ds, ρ, h => by
    show wipeD (setAll is ds (ρ.set i (some d))) vs = _
    rw [setAll_wipe fun j hj => h j (List.mem_cons_of_mem _ hj)]
    exact wipeD_set ρ i _ vs (h i List.mem_cons_self)
theorem keeps_tup {is vs : List Nat} (h : ∀ i ∈ is, i ∈ vs) : Keeps (gtTup is) vs := fun d ρ ρ' e => by
  cases d with
  | tup ds =>
    have e : (if ds.length = is.length then Rs.ok (setAll is ds ρ) else .stuck) = .ok ρ' := e
    split at e
    · cases e; exact setAll_wipe h
    · cases e
  | _ => cases e
end
end DL
end

/-! text DL9 -/
section
set_option maxRecDepth 100000
set_option maxHeartbeats 4000000
/-! the data layer, part 9: comprehensions; stores -/
namespace DL
open PySem PySem.Spec PyProof.Rows L2
section
variable {C : Cxt} {W : Wx} {F F' H H' : Hp} {Γ : List Md} {σ : L2.St} {ρ : EnvD} {L : List Ent} {m ma mb mr me mi : Md} {d : DV} {v : V} {st : Bool}
/-- the heap without p -/
def hide (p : Addr) (H : Hp) : Hp := fun a => if a = p then none else H a
theorem hide_same {p : Addr} (s : Same H H') : Same (hide p H) (hide p H') := fun a o e => by
  unfold hide at e ⊢
  split at e
  · cases e
  · rename_i h
    rw [if_neg h]
    exact s _ _ e
theorem hide_upd {p : Addr} {o : HO} : Same (hide p H) (upd H p o) := fun a u e => by
  unfold hide at e
  split at e
  · cases e
  · rename_i h
    rw [upd_ne h]
    exact e
theorem hide_upd2 {p : Addr} {o : HO} : hide p (upd H p o) = hide p H := by
  funext a
  unfold hide
  split
  · rfl
  · rename_i h
    rw [upd_ne h]
theorem hide_new {p : Addr} (np : H p = none) : Same H (hide p H) := fun a u e => by
  unfold hide
  rw [if_neg (ne_of_none e np)]
  exact e
/-- entries that a write at p leaves as they are -/
def Safe (C : Cxt) (F : Hp) (p : Addr) (H : Hp) (L : List Ent) : Prop := ∀ e ∈ L, e.1.stor = true ∨ (e.1.free = true ∧ At C F (hide p H) e.1 e.2.1 e.2.2 [])
theorem Safe.of {p : Addr} (h : storL L) : Safe C F p H L := fun e he => .inl (List.all_eq_true.mp h e he)
theorem Safe.mono {p : Addr} (h : Safe C F p H L) (a : Same F F') (b : Same H H') : Safe C F' p H' L := fun e he => (h e he).imp_right fun ⟨q, x⟩ => ⟨q, x.mono a (fun _ z => by cases z) (fun _ z => by cases z) (.inr (hide_same b))⟩
theorem Safe.upd {p : Addr} {o : HO} (h : Safe C F p H L) : Safe C F p (upd H p o) L := fun e he => by
  rw [hide_upd2]
  exact h e he
theorem Exs.safe {p : Addr} {o : HO} : ∀ {L : List Ent} {fp : List Addr}, Exs C F H L fp → Safe C F p H L → (∀ a ∈ fp, F a = none) → (∀ a ∈ fp, a ≠ p) → Exs C F (L2.upd H p o) L fp
  | [], _, h, _, _, _ => h
  | (m, d, v) :: L, _, ⟨f1, f2, h1, h2, h3⟩, s, n, k => by
    subst h1
    have h4 := Exs.safe (o := o) h3 (fun e he => s e (List.mem_cons_of_mem _ he)) (fun a ha => n a (List.mem_append_right _ ha)) (fun a ha => k a (List.mem_append_right _ ha))
    refine ⟨f1, f2, rfl, ?_, h4⟩
    rcases s (m, d, v) List.mem_cons_self with q | ⟨q, x⟩
    · exact h2.mono (Same.refl _) (fun a ha => n a (List.mem_append_left _ ha)) (fun a ha => upd_ne (k a (List.mem_append_left _ ha))) (.inl q)
    · have e := h2.free_nil q
      subst e
      exact x.mono (Same.refl _) (fun _ z => by cases z) (fun _ z => by cases z) (.inr hide_upd)
/-- a list of one's own grows by what the first entry holds -/
theorem Rep.push {ds : List DV} {y : V} (r : Rep C F H Γ σ ρ ((m, d, y) :: (.own m, .lst ds, v) :: L)) (hΓ : Γ.all Md.stor = true) (qm : m.stor = true) :
    ∃ p vs, v = .ref p ∧ H p = some (.lst vs) ∧ ds.length = vs.length ∧ F p = none ∧ C.Bp p = none ∧ (Safe C F p H L → Rep C F (L2.upd H p (.lst (vs ++ [y]))) Γ σ ρ ((.own m, .lst (ds ++ [d]), v) :: L)) := by
  obtain ⟨f1, f2, nd, a, g1, g2, h1, h2, g3, g4, h3, h4, h5⟩ := r.own
  unfold At at h4
  rw [if_pos (show isLD (.lst ds) = true from rfl)] at h4
  obtain ⟨p, vs, o, fc, e1, e2, e3, e4, e5, e6, e7⟩ := h4
  obtain rfl : o = .lst vs := e5
  subst e1
  subst e6
  subst h3
  subst h1
  refine ⟨p, vs, rfl, e4, e7.length, e2, e3, fun sf => ?_⟩
  -- f1 ++ (g1 ++ ((p :: fc) ++ g4)) has no address twice
  have np := List.nodup_append.mp nd
  have np2 := List.nodup_append.mp np.2.1
  have np3 := List.nodup_append.mp np2.2.1
  have np4 := List.nodup_cons.mp np3.1
  have n1 : ∀ x ∈ f1, x ≠ p := fun x hx e => np.2.2 x hx p (List.mem_append_right _ (List.mem_append_left _ List.mem_cons_self)) e
  have n2 : ∀ x ∈ g1, x ≠ p := fun x hx e => np2.2.2 x hx p (List.mem_append_left _ List.mem_cons_self) e
  have n3 : ∀ x ∈ fc, x ≠ p := fun x hx e => np4.1 (e ▸ hx)
  have n4 : ∀ x ∈ g4, x ≠ p := fun x hx e => np3.2.2 p List.mem_cons_self x hx e.symm
  have o1 := a.owned
  have o2 := h2.owned
  have o4 := h5.owned
  have nm : ∀ x u, L2.upd H p (.lst (vs ++ [y])) x = some u → tupO u = true → H x = some u := fun x u e t => by
    by_cases z : x = p
    · subst z; rw [upd_same] at e; cases e; cases t
    · rw [upd_ne z] at e; exact e
  have lq : ∀ x u, x ≠ p → H x = some u → L2.upd H p (.lst (vs ++ [y])) x = some u := fun x u z e => by rw [upd_ne z]; exact e
  have fit : Fit C F (L2.upd H p (.lst (vs ++ [y]))) := ⟨r.fit.ff, fun x u e => lq x u (fun z => by rw [z, e2] at e; cases e) (r.fit.fh _ _ e), fun x u e => lq x u (fun z => by rw [z, e3] at e; cases e) (r.fit.bh _ _ e), r.fit.f0, fun x u e t => r.fit.tp x u (nm x u e t) t⟩
  have stm : ∀ {m : Md} {d : DV} {v : V} {f : List Addr}, m.stor = true → At C F H m d v f → (∀ x ∈ f, x ≠ p) → At C F (L2.upd H p (.lst (vs ++ [y]))) m d v f := fun q x k => x.mono (Same.refl _) (fun z hz => (x.owned z hz).1) (fun z hz => upd_ne (k z hz)) (.inl q)
  refine ⟨fit, r.io, f1, (p :: (fc ++ g1)) ++ g4, ?_, a.mono (Same.refl _) (fun x hx => (o1 x hx).1) (fun x hx => upd_ne (n1 x hx)) (.inl hΓ), p :: (fc ++ g1), g4, rfl, ?_, h5.safe sf (fun x hx => (o4 x hx).1) n4⟩
  · refine List.Perm.nodup (l := f1 ++ (g1 ++ ((p :: fc) ++ g4))) (List.Perm.append (List.Perm.refl _) ?_) nd
    rw [← List.append_assoc]
    refine List.Perm.append ?_ (List.Perm.refl _)
    exact List.perm_append_comm
  · unfold At
    rw [if_pos (show isLD (.lst (ds ++ [d])) = true from rfl)]
    refine ⟨p, vs ++ [y], _, fc ++ g1, rfl, e2, e3, upd_same, rfl, rfl, ?_⟩
    exact (e7.imp fun d v f hf x => stm qm x fun z hz => n3 z (hf z hz)).append (Alls.one (stm qm h2 n2))

/-! ### entries in another order -/
theorem Exs.perm {L L' : List Ent} (p : L.Perm L') : ∀ {f : List Addr}, Exs C F H L f → ∃ f', f.Perm f' ∧ Exs C F H L' f' := by
  induction p with
  | nil => exact fun {f} h => ⟨f, List.Perm.refl _, h⟩
  | cons e _ ih =>
    obtain ⟨m, d, v⟩ := e
    intro f ⟨f1, f2, h1, h2, h3⟩
    obtain ⟨g, pg, h4⟩ := ih h3
    exact ⟨f1 ++ g, by rw [h1]; exact List.Perm.append (List.Perm.refl _) pg, f1, g, rfl, h2, h4⟩
  | swap a b l =>
    obtain ⟨m, d, v⟩ := a
    obtain ⟨m2, d2, v2⟩ := b
    intro f ⟨f1, f2, h1, h2, f3, f4, h3, h4, h5⟩
    refine ⟨f3 ++ (f1 ++ f4), ?_, f3, f1 ++ f4, rfl, h4, f1, f4, rfl, h2, h5⟩
    rw [h1, h3, ← List.append_assoc, ← List.append_assoc]
    exact List.Perm.append List.perm_append_comm (List.Perm.refl _)
  | trans _ _ ih1 ih2 =>
    intro f h
    obtain ⟨g, pg, h1⟩ := ih1 h
    obtain ⟨g2, pg2, h2⟩ := ih2 h1
    exact ⟨g2, pg.trans pg2, h2⟩
theorem Rep.permL {L' : List Ent} (r : Rep C F H Γ σ ρ L) (p : L.Perm L') : Rep C F H Γ σ ρ L' := by
  obtain ⟨f1, f2, nd, a, b⟩ := r.own
  obtain ⟨f3, pf, b2⟩ := b.perm p
  exact ⟨r.fit, r.io, f1, f3, (List.Perm.append (List.Perm.refl _) pf).nodup nd, a, b2⟩
theorem Exs.each : ∀ {L : List Ent} {fp : List Addr}, Exs C F H L fp → ∀ e ∈ L, ∃ f, At C F H e.1 e.2.1 e.2.2 f
  | (m, d, v) :: L, _, ⟨f1, f2, h1, h2, h3⟩, e, he => by
    rcases List.mem_cons.mp he with rfl | he
    · exact ⟨f1, h2⟩
    · exact Exs.each h3 e he
theorem Rep.safe0 {D : Addr} (r : Rep C F H Γ σ ρ L) (hL : okL L) (nD : H D = none) : Safe C F D H L := fun e he => (hL e he).imp_right fun q => by
  obtain ⟨f1, f2, nd, a, b⟩ := r.own
  obtain ⟨f, h⟩ := b.each e he
  have ef := h.free_nil q
  subst ef
  exact ⟨q, h.mono (Same.refl _) (fun _ z => by cases z) (fun _ z => by cases z) (.inr (hide_new nD))⟩

/-! ### comprehensions -/
def consO : Option DV → List DV → List DV
  | some x, r => x :: r
  | none, r => r
/-- what a turn gives: nothing, or one more item -/
def lcLoop (f : DV → Rs (Option DV)) : List DV → Rs (List DV)
  | [] => .ok []
  | d :: ds => (f d).bind fun o => (lcLoop f ds).bind fun r => .ok (consO o r)
def lcTurn (tg : GG) (gt : GT) (ge : GE) (ρ : EnvD) (d : DV) : Rs (Option DV) := (tg d ρ).bind fun ρ' => (gt ρ').bind fun b => if b = true then (ge ρ').bind fun x => .ok (some x) else .ok none
def gLc (gi : GI) (tg : GG) (gt : GT) (ge : GE) (vs : List Nat) : GE := fun ρ => (gi ρ).bind fun its => if its.length ≤ sizeLine then (lcLoop (lcTurn tg gt ge (wipeD ρ vs)) its).bind fun r => .ok (.lst r) else .stuck
theorem PE'.exOf {Q : VK} {c : Str} {x : DV} {r : Rs DV} (h : PE' C W Γ F H σ ρ L m Q r) (e : r = .ex c x) : ∀ F' H', Same F F' → Same H H' → Fit C F' H' → W c x H' := by
  subst e
  exact h
theorem se_lc {wi : TI} {gi : GI} {g : TG} {tg : GG} {tt : TT} {gt : GT} {te : TE} {ge : GE} {is vs : List Nat} (hi : SI C W Γ wi gi mi false) (hg : SN C Γ g tg mi is) (hk : Keeps tg vs) (hx : ∀ d ρ c e, tg d ρ ≠ .ex c e) (hv : ∀ i ∈ is, i ∈ vs) (ht : ST C W Γ tt gt) (he : SE C W Γ te ge me)
    (hΓ : Γ.all Md.stor = true) (qm : me.stor = true) (hio : ∀ p ∈ C.io, ∀ i ∈ vs, p.1 ≠ i) : SE C W Γ (tLc wi g tt te vs) (gLc gi tg gt ge vs) (.own me) := by
  intro F H σ ρ L Q hL r k
  refine hi F H σ ρ L _ hL r ?_
  unfold gLc at k
  revert k
  cases gi ρ with
  | ex c d => exact fun k => k
  | stuck => exact fun k => k
  | ok its =>
    intro k F1 H1 J E s1 s2 _ hA r1 w
    have k : PE' C W Γ F H σ ρ L (.own me) Q (if its.length ≤ sizeLine then (lcLoop (lcTurn tg gt ge (wipeD ρ vs)) its).bind fun r => .ok (.lst r) else .stuck) := k
    split at k
    case isFalse => exact k.elim
    case isTrue hz =>
    intro D nD
    obtain ⟨S, hS, r2, back⟩ := r1.wipe (vs := vs) hΓ hio
    have hSL : okL (S ++ L) := fun e he => by
      rcases List.mem_append.mp he with h | h
      · exact .inl (List.all_eq_true.mp hS e h)
      · exact hL e h
    have hE : okL E := fun e he => .inr (hA e he).1
    have hESL : okL (E ++ (S ++ L)) := fun e he => by
      rcases List.mem_append.mp he with h | h
      · exact hE e h
      · exact hSL e h
    have pm : (S ++ (E ++ L)).Perm (E ++ (S ++ L)) := by
      rw [← List.append_assoc, ← List.append_assoc]
      exact List.Perm.append List.perm_append_comm (List.Perm.refl _)
    have r3 := r2.permL pm
    -- the accumulated items, the state between two turns
    let Inv : Nat → Hp → Prop := fun i H' => ∃ (F' : Hp) (acc : List DV), Same F1 F' ∧ Same H1 (hide D H') ∧ acc.length ≤ i ∧ Rep C F' H' Γ (L2.wipe σ vs) (wipeD ρ vs) ((.own me, .lst acc, .ref D) :: (E ++ (S ++ L))) ∧ Safe C F' D H' (E ++ (S ++ L)) ∧
      PE' C W Γ F1 H1 σ ρ L (.own me) Q ((lcLoop (lcTurn tg gt ge (wipeD ρ vs)) (its.drop i)).bind fun r => .ok (.lst (acc ++ r)))
    refine ⟨fun i n H => i + n = its.length ∧ Inv i H, ⟨its.length, by omega, F1, [], Same.refl _, ?_, Nat.le_refl _, r3.newl nD ⟨rfl, rfl⟩, ?_, k.mono s1 s2⟩, fun i n H2 hW => ?_⟩
    · rw [hide_upd2]
      exact hide_new nD
    · exact (r3.safe0 hESL nD).upd
    · obtain ⟨en, F2, acc, s3, s4, la, r4, sf, k2⟩ := hW
      have s4' : Same H1 H2 := fun a o e => by
        have h := s4 a o e
        unfold hide at h
        split at h
        · cases h
        · exact h
      have rW : Rep C F2 H2 Γ (L2.wipe σ vs) (wipeD ρ vs) (E ++ ((.own me, .lst acc, .ref D) :: (S ++ L))) := r4.permL (List.perm_middle.symm)
      obtain ⟨w1, w2⟩ := w i F2 H2 Γ (L2.wipe σ vs) (wipeD ρ vs) _ rW
      cases e : its[i]? with
      | none =>
        have hl := List.getElem?_eq_none_iff.mp e
        rw [List.drop_of_length_le hl] at k2
        refine .inl ⟨w1 hl, ?_⟩
        have k3 : PE' C W Γ F1 H1 σ ρ L (.own me) Q (.ok (.lst (acc ++ []))) := k2
        rw [List.append_nil] at k3
        refine k3 F2 H2 (.ref D) s3 s4' (back F2 H2 _ ?_)
        have r5 : Rep C F2 H2 Γ (L2.wipe σ vs) (wipeD ρ vs) (((.own me, .lst acc, .ref D) :: (S ++ L))) := rW.dropE
        exact r5.permL (List.perm_middle.symm)
      | some d =>
        have hl := (List.getElem?_eq_some_iff.mp e).1
        have ed : its.drop i = d :: its.drop (i + 1) := by
          rw [List.drop_eq_getElem_cons hl, (List.getElem?_eq_some_iff.mp e).2]
        rw [ed] at k2
        obtain ⟨w3, w4⟩ := w2 d e
        refine .inr ⟨w3, fun H' => Inv (i + 1) H', fun H' h => ⟨n - 1, by omega, by omega, h⟩, fun x H3 hy => ?_⟩
        obtain ⟨F3, s5, s6, r5⟩ := w4 x H3 hy
        have k2 : PE' C W Γ F1 H1 σ ρ L (.own me) Q (((lcTurn tg gt ge (wipeD ρ vs) d).bind fun o => (lcLoop (lcTurn tg gt ge (wipeD ρ vs)) (its.drop (i + 1))).bind fun r => .ok (consO o r)).bind fun r => .ok (.lst (acc ++ r))) := k2
        have r5 : Rep C F3 H3 Γ (L2.wipe σ vs) (wipeD ρ vs) ((mi, d, x) :: ((.own me, .lst acc, .ref D) :: (E ++ (S ++ L)))) := r5.permL (List.Perm.cons _ List.perm_middle)
        unfold lcTurn at k2
        cases et : tg d (wipeD ρ vs) with
        | ex c d => exact absurd et (hx _ _ _ _)
        | stuck => rw [et] at k2; exact k2.elim
        | ok ρ2 =>
          rw [et] at k2
          refine hg F3 H3 (L2.wipe σ vs) (wipeD ρ vs) _ d x ρ2 _ r5 et fun σ2 hw r6 => ?_
          have ew : L2.wipe σ2 vs = L2.wipe σ vs := (hw vs hv).trans (wipe_idem σ vs)
          have ewD : wipeD ρ2 vs = wipeD ρ vs := (hk d _ ρ2 et).trans (wipeD_idem ρ vs)
          have hO : okL ((.own me, .lst acc, .ref D) :: (E ++ (S ++ L))) := okL_cons (by show (me.stor || false) = true; rw [qm]; rfl) hESL
          refine ⟨ew, ?_⟩
          refine ht F3 H3 σ2 ρ2 _ _ hO r6 ?_
          revert k2
          show PE' C W Γ F1 H1 σ ρ L (.own me) Q ((((gt ρ2).bind fun b => if b = true then (ge ρ2).bind fun x => Rs.ok (some x) else .ok none).bind fun o => (lcLoop (lcTurn tg gt ge (wipeD ρ vs)) (its.drop (i + 1))).bind fun r => .ok (consO o r)).bind fun r => .ok (.lst (acc ++ r))) → _
          have sh : ∀ {H4 : Hp}, Same H3 H4 → Same H1 (hide D H4) := fun s => s4.trans (hide_same (s6.trans s))
          cases gt ρ2 with
          | ex c d => exact fun k F4 H4 s7 s8 f => k F4 H4 (s3.trans (s5.trans s7)) (s4'.trans (s6.trans s8)) f
          | stuck => exact fun k => k
          | ok b =>
            intro k F4 H4 s7 s8 r7
            cases b with
            | false =>
              show Inv (i + 1) H4
              have k3 : PE' C W Γ F1 H1 σ ρ L (.own me) Q (((lcLoop (lcTurn tg gt ge (wipeD ρ vs)) (its.drop (i + 1))).bind fun r => .ok (consO none r)).bind fun r => .ok (.lst (acc ++ r))) := k
              rw [bind2] at k3
              have r8 := r7.forget (vs := vs) hio
              rw [ew, ewD] at r8
              exact ⟨F4, acc, s3.trans (s5.trans s7), sh s8, Nat.le_succ_of_le la, r8, (sf.mono (s5.trans s7) (s6.trans s8)), k3⟩
            | true =>
              show te σ2 H4 _
              refine he F4 H4 σ2 ρ2 _ _ hO r7 ?_
              revert k
              show PE' C W Γ F1 H1 σ ρ L (.own me) Q ((((ge ρ2).bind fun x => Rs.ok (some x)).bind fun o => (lcLoop (lcTurn tg gt ge (wipeD ρ vs)) (its.drop (i + 1))).bind fun r => .ok (consO o r)).bind fun r => .ok (.lst (acc ++ r))) → _
              cases ge ρ2 with
              | ex c d => exact fun k F5 H5 s9 s10 f => k F5 H5 (s3.trans (s5.trans (s7.trans s9))) (s4'.trans (s6.trans (s8.trans s10))) f
              | stuck => exact fun k => k
              | ok dy =>
                intro k F5 H5 y s9 s10 r8
                have k3 : PE' C W Γ F1 H1 σ ρ L (.own me) Q (((lcLoop (lcTurn tg gt ge (wipeD ρ vs)) (its.drop (i + 1))).bind fun r => .ok (dy :: r)).bind fun r => .ok (.lst (acc ++ r))) := k
                rw [bind2] at k3
                obtain ⟨p, ws, z1, z2, z3, z4, z5, z6⟩ := r8.push hΓ qm
                cases z1
                have sf5 : Safe C F5 D H5 (E ++ (S ++ L)) := sf.mono (s5.trans (s7.trans s9)) (s6.trans (s8.trans s10))
                refine ⟨ws, z2, by rw [← z3]; exact Nat.lt_of_le_of_lt la (Nat.lt_of_lt_of_le hl hz), ?_⟩
                have r9 := (z6 sf5).forget (vs := vs) hio
                rw [ew, ewD] at r9
                refine ⟨F5, acc ++ [dy], s3.trans (s5.trans (s7.trans s9)), ?_, by rw [List.length_append]; exact Nat.succ_le_succ la, r9, sf5.upd, ?_⟩
                · rw [hide_upd2]
                  exact sh (s8.trans s10)
                · have e3 : (fun r : List DV => (Rs.ok (DV.lst ((acc ++ [dy]) ++ r)) : Rs DV)) = fun r => (Rs.ok (dy :: r)).bind fun r => .ok (.lst (acc ++ r)) := by
                    funext r
                    show _ = Rs.ok (DV.lst (acc ++ (dy :: r)))
                    rw [List.append_assoc]
                    rfl
                  rw [e3]
                  exact k3
end
end DL
end

/-! text DL10 -/
section
set_option maxRecDepth 100000
set_option maxHeartbeats 4000000
/-! the data layer, part 10: defs, their calls, the law -/
namespace DL
open PySem PySem.Spec PyProof.Rows L2
abbrev C0 (K : PySem.W.Frag) (mg : Str → Option Value) (H F : Hp) : Cxt := ⟨K, mg, H, F, []⟩
def ArgsAt (C : Cxt) (F H : Hp) : List Md → List DV → List V → Prop
  | [], [], [] => True
  | m :: ms, d :: ds, v :: vs => At C F H m d v [] ∧ ArgsAt C F H ms ds vs
  | _, _, _ => False
def PD (C : Cxt) (XW : Wx) (F : Hp) (mr : Md) (Q : VK) : Rs DV → Prop
  | .ok d => ∀ F' H' v fp, Same F F' → Fit C F' H' → At C F' H' mr d v fp → fp.Nodup → Q v H'
  | .ex c d => ∀ F' H', Same F F' → Fit C F' H' → XW c d H'
  | .stuck => False
/-- a def's promise by its mirror -/
def spD (K : PySem.W.Frag) (mg : Str → Option Value) (XW : XK → Wx) (pm : List Md) (mr : Md) (f : List DV → Rs DV) : Sp := fun vs H Q E =>
  ∃ F ds, Fit (C0 K mg H F) F H ∧ ArgsAt (C0 K mg H F) F H pm ds vs ∧ PD (C0 K mg H F) (XW E) F mr Q (f ds)
def X0 : XK → Wx := fun _ _ _ _ => False
def W0 : Wx := fun _ _ _ => False
theorem ArgsAt.len {C : Cxt} {F H : Hp} : ∀ {ms : List Md} {ds : List DV} {vs : List V}, ArgsAt C F H ms ds vs → ds.length = ms.length ∧ vs.length = ms.length
  | [], [], [], _ => ⟨rfl, rfl⟩
  | m :: ms, d :: ds, v :: vs, h => by
    obtain ⟨a, b⟩ := ArgsAt.len h.2
    exact ⟨by rw [List.length_cons, List.length_cons, a], by rw [List.length_cons, List.length_cons, b]⟩
  | [], _ :: _, _, h => h.elim
  | [], [], _ :: _, h => h.elim
  | _ :: _, [], _, h => h.elim
  | _ :: _, _ :: _, [], h => h.elim
def startD (n : Nat) (ds : List DV) : EnvD := ds.map some ++ List.replicate (n - ds.length) none
def finB : Out → Rs DV
  | .nx _ => .ok .non
  | .rt d _ => .ok d
  | .ex c d => .ex c d
  | _ => .stuck
/-- a def's mirror by its body's, over n slots -/
def runB (g : GS) (n : Nat) (ds : List DV) : Rs DV := finB (g (startD n ds))
section
variable {C : Cxt} {W : Wx} {F F' H H' : Hp} {Γ : List Md} {σ : L2.St} {ρ : EnvD} {L : List Ent} {m ma mb mr me mi : Md} {d : DV} {v : V}
theorem slots_none : ∀ (Γ : List Md), Slots C F H Γ (List.replicate Γ.length none) (List.replicate Γ.length none) []
  | [] => rfl
  | m :: Γ => ⟨[], [], rfl, rfl, slots_none Γ⟩
theorem slots_start : ∀ {pm : List Md} {ds : List DV} {vs : List V} (Γ : List Md), ArgsAt C F H pm ds vs → Slots C F H (pm ++ Γ) (vs.map some ++ List.replicate Γ.length none) (ds.map some ++ List.replicate Γ.length none) []
  | [], [], [], Γ, _ => slots_none Γ
  | m :: pm, d :: ds, v :: vs, Γ, h => ⟨[], [], rfl, ⟨v, rfl, h.1⟩, slots_start Γ h.2⟩
  | [], _ :: _, _, _, h => h.elim
  | [], [], _ :: _, _, h => h.elim
  | _ :: _, [], _, _, h => h.elim
  | _ :: _, _ :: _, [], _, h => h.elim
/-- THE RULE of a def that lets no exception out -/
theorem fnD {P : Program} {w : World} {K : PySem.W.Frag} {mg : Str → Option Value} {base : Heap} {k : Nat} {x qual : Str} {st : Stmt} {f : Addr} {fd : FuncData} {N ps : List Str} {pm Γl : List Md} {mr : Md} {g : GS}
    (Fn : FunD K x qual (defArgs st) (defBody st) (defScope st) [] [] f fd) (S : FnScope N ps (defScope st)) (hp : pm.length = ps.length) (hN : pm.length + Γl.length = N.length) (qr : mr.rd = true)
    (hb : ∀ (cdv : Value) (A : Around) (outer : List PySem.Env) (s : Shared) (H : Hp) (E : XK), Room k (A.deeper (envOfC qual (defScope st) s.heap.objs.size f cdv)) →
      ∃ t, PSs (cxOf CX0 P w K mg base N qual (defScope st) f cdv A outer s H E).nox (defBody st) t ∧ ∀ (Bp F0 : Hp), ∃ Γ', SS ⟨K, mg, Bp, F0, []⟩ W0 mr [] (pm ++ Γl) t g Γ') :
    FnOk P w K mg base CX0 (k + 1) f fd ps (spD K mg X0 pm mr (runB g N.length)) := by
  refine Fn.ok S (fun vs H Q E h => ?_) fun cdv A outer s H vs Q E hr h => ?_
  · obtain ⟨F, ds, _, h2, _⟩ := h
    rw [h2.len.2, hp]
  · obtain ⟨F, ds, h1, h2, h3⟩ := h
    obtain ⟨t, ht, hs⟩ := hb cdv A outer s H E hr
    obtain ⟨l1, l2⟩ := h2.len
    obtain ⟨Γ', hs⟩ := hs H F
    refine ⟨t, ht.nox, hs F H (start N vs) (startD N.length ds) [] _ rfl ?_ ?_⟩
    · refine ⟨h1, fun p hp => (by cases hp), [], [], List.nodup_nil, ?_, rfl⟩
      unfold L2.start startD
      rw [l1, l2, show N.length - pm.length = Γl.length by omega]
      exact slots_start Γl h2
    · unfold runB at h3
      revert h3
      cases g (startD N.length ds) with
      | nx ρ' => exact fun h3 F1 H1 σ1 s1 r1 => h3 F1 H1 .non [] s1 r1.fit (At.flat qr rfl) List.nodup_nil
      | rt d ρ' =>
        intro h3 F1 H1 Γr σ1 L1 v s1 r1
        obtain ⟨f1, f2, nd, a, g1, g2, e1, e2, e3⟩ := r1.own
        subst e1
        exact h3 F1 H1 v g1 s1 r1.fit e2 (nd.sublist (List.Sublist.trans (List.sublist_append_left _ _) (List.sublist_append_right _ _)))
      | bk ρ' => exact fun h => h.elim
      | ct ρ' => exact fun h => h.elim
      | ex c d => exact fun h3 F1 H1 s1 f1 => h3 F1 H1 s1 f1
      | stuck => exact fun h => h
/-! ### calls -/
@[reducible] def Md.fits : Md → Md → Bool
  | m, .bo => m.rd
  | .fr, .fr => true
  | .sc, .sc => true
  | _, _ => false
@[reducible] def fitsL : List Md → List Md → Bool
  | [], [] => true
  | m :: ms, p :: ps => Md.fits m p && fitsL ms ps
  | _, _ => false
theorem Rep.args : ∀ {ms pm : List Md} {ds : List DV} {vs : List V} {L : List Ent}, Rep C F H Γ σ ρ (entsA ms ds vs L) → fitsL ms pm = true → ds.length = vs.length → ms.length = vs.length → ArgsAt (C0 C.K C.mg H F) F H pm ds vs ∧ Rep C F H Γ σ ρ L
  | [], [], [], [], L, r, _, _, _ => ⟨trivial, r⟩
  | m :: ms, p :: pm, d :: ds, v :: vs, L, r, q, e1, e2 => by
    obtain ⟨q1, q2⟩ := (Bool.and_eq_true _ _).mp (show (Md.fits m p && fitsL ms pm) = true from q)
    obtain ⟨h1, r1⟩ := Rep.args (ms := ms) (pm := pm) (ds := ds) (vs := vs) r q2 (by simpa using e1) (by simpa using e2)
    refine ⟨⟨?_, h1⟩, r1.tail⟩
    cases p with
    | bo => exact ⟨rfl, r1.da q1⟩
    | fr =>
      cases m with
      | fr => exact ⟨rfl, r1.fr⟩
      | _ => cases q1
    | sc =>
      cases m with
      | sc => obtain ⟨f, h⟩ := r1.head; exact ⟨rfl, h.2⟩
      | _ => cases q1
    | yg => cases m <;> cases q1
    | pk m => cases m <;> cases q1
    | own m => cases m <;> cases q1
    | tu m => cases m <;> cases q1
    | ob m => cases m <;> cases q1
    | po m => cases m <;> cases q1
  | [], _ :: _, _, _, _, _, q, _, _ => by cases q
  | _ :: _, [], _, _, _, _, q, _, _ => by cases q
  | [], [], _ :: _, [], _, _, _, e, _ => by cases e
  | [], [], _, _ :: _, _, _, _, _, e => by cases e
  | _ :: _, _ :: _, [], _ :: _, _, _, _, e, _ => by cases e
  | _ :: _, _ :: _, _, [], _, _, _, _, e => by cases e
/-- the callee's frozen part is one of the caller's -/
theorem Fit.lift (e : Fit C F H) (h : Fit (C0 C.K C.mg H F) F' H') : Fit C F' H' := by
  refine ⟨e.ff.trans h.ff, h.fh, e.bh.trans h.bh, fun a ha => ?_, h.tp⟩
  rcases h.f0 a ha with z | z | ⟨o, z1, z2⟩
  · exact e.f0 a z
  · exact .inr (.inl (Same.free e.bh z))
  · exact e.f0 a (by rw [e.tp a o z1 z2]; exact fun z => by cases z)
theorem At.conv {C C' : Cxt} (hK : C'.K = C.K) (hm : C'.mg = C.mg) (h0 : ∀ a, C.F0 a = none → C'.F0 a = none) : ∀ {m : Md} {d : DV} {v : V} {fp : List Addr}, m.fz = true → At C F H m d v fp → (∀ a ∈ fp, C'.Bp a = none) → At C' F H m d v fp := by
  intro m
  induction m with
  | fr => intro d v fp _ h _; unfold At at h ⊢; rw [hK, hm]; exact h
  | yg => intro d v fp _ h _; unfold At at h ⊢; rw [hK]; exact ⟨h.1, DY.mono (Same.refl _) h0 _ _ h.2⟩
  | bo => intro d v fp q; cases q
  | sc => intro d v fp q; cases q
  | pk m ih | po m ih => intro d v fp q; cases q
  | tu m ih =>
    intro d v fp q h k
    unfold At at h ⊢
    split at h
    · rename_i z
      rw [if_pos z]
      obtain ⟨a, vs, h1, h2, h3⟩ := h
      rw [hK]
      exact ⟨a, vs, h1, h2, h3.imp fun d v f hf x => ih q x fun a ha => k a (hf a ha)⟩
    · rename_i z
      rw [if_neg z, hK, hm]
      exact h
  | own m ih | ob m ih =>
    intro d v fp q h k
    unfold At at h ⊢
    split at h
    · rename_i z
      rw [if_pos z]
      obtain ⟨a, vs, o, fc, h1, h2, h3, h4, h5, h6, h7⟩ := h
      subst h6
      exact ⟨a, vs, o, fc, h1, h2, k a List.mem_cons_self, h4, by rw [hm]; exact h5, rfl, h7.imp fun d v f hf x => ih q x fun a ha => k a (List.mem_cons_of_mem _ (hf a ha))⟩
    · rename_i z
      rw [if_neg z, hK, hm]
      exact h
/-- behind a call -/
theorem Rep.call {fp : List Addr} (r : Rep C F H Γ σ ρ L) (q : m.fz = true) (hf : Fit (C0 C.K C.mg H F) F' H') (h : At (C0 C.K C.mg H F) F' H' m d v fp) (nd : fp.Nodup) : Rep C F' H' Γ σ ρ ((m, d, v) :: L) := by
  have s : Same H H' := hf.bh
  have sf : Same F F' := hf.ff
  have on : ∀ a, Owned C F H a → F' a = none := fun a ⟨h1, h2, o, h3, h4⟩ => by
    cases e : F' a with
    | none => rfl
    | some u =>
      rcases hf.f0 a (by rw [e]; exact fun z => by cases z) with z | z | ⟨o2, z1, z2⟩
      · exact absurd h1 z
      · rw [show H a = none from z] at h3; cases h3
      · rw [show H a = some o2 from z1] at h3
        cases h3
        cases o <;> first | exact h4.elim | cases z2
  have oh : ∀ a, Owned C F H a → H' a = H a := fun a ⟨h1, h2, o, h3, h4⟩ => by rw [h3]; exact s _ _ h3
  have fr : ∀ a ∈ fp, H a = none := fun a ha => (h.owned a ha).2.1
  obtain ⟨f1, f2, nd2, a, b⟩ := r.own
  have oa := a.owned
  have ob := b.owned
  refine ⟨r.fit.lift hf, r.io, f1, fp ++ f2, ?_, a.mono sf (fun x hx => on x (oa x hx)) (fun x hx => oh x (oa x hx)) (.inr s), fp, f2, rfl, h.conv (C := C0 C.K C.mg H F) (C' := C) rfl rfl (fun a h => Same.free r.fit.ff h) q (fun x hx => Same.free r.fit.bh (fr x hx)), b.mono sf (fun x hx => on x (ob x hx)) (fun x hx => oh x (ob x hx)) (.inr s)⟩
  have hn : ∀ x ∈ f1 ++ f2, x ∉ fp := fun x hx hy => by
    have z := fr x hy
    rcases List.mem_append.mp hx with w | w
    · obtain ⟨_, _, o, e, _⟩ := oa x w; rw [z] at e; cases e
    · obtain ⟨_, _, o, e, _⟩ := ob x w; rw [z] at e; cases e
  refine List.Perm.nodup (l := fp ++ (f1 ++ f2)) ?_ ?_
  · rw [← List.append_assoc, ← List.append_assoc]
    exact List.Perm.append List.perm_append_comm (List.Perm.refl _)
  · exact List.nodup_append.mpr ⟨nd, nd2, fun x hx y hy e => hn y hy (e ▸ hx)⟩
theorem se_call {XW : XK → Wx} {E : XK} {pm ms : List Md} {f : List DV → Rs DV} {t : TA} {g : GA} (h : SA C W Γ t g ms) (hx : ∀ c d H', W c d H' → XW E c d H') (hf : fitsL ms pm = true := by rfl) (q : mr.fz = true := by rfl) :
    SE C W Γ (tCall (spD C.K C.mg XW pm mr f) [] E t) (gCB f g) mr := by
  intro F H σ ρ L Q hL r k
  show t σ H fun vs H1 => spD C.K C.mg XW pm mr f (vs ++ []) H1 Q E
  refine sa_then h hL r k fun ds F1 H1 vs s1 s2 e1 e2 r1 k1 => ?_
  rw [List.append_nil]
  obtain ⟨a1, r2⟩ := r1.args hf e1 e2
  refine ⟨F1, ds, ⟨Same.refl _, r2.fit.fh, Same.refl _, fun a h => .inl h, r2.fit.tp⟩, a1, ?_⟩
  revert k1
  cases f ds with
  | ok d => exact fun k1 F2 H2 v fp s3 f2 h2 nd => k1 F2 H2 v s3 f2.bh (r2.call q f2 h2 nd)
  | ex c d => exact fun k1 F2 H2 s3 f2 => hx c d H2 (k1 F2 H2 s3 f2.bh (r2.fit.lift f2))
  | stuck => exact fun k1 => k1
/-- the law's end -/
theorem law_end {K : PySem.W.Frag} {mg : Str → Option Value} {f : List DV → Rs DV} {H : Hp} {a : Addr} {ns : List Int} {E : XK} (h : f [.lst (ns.map .int)] = .ok (.bl true)) (hS : SqL K H a (ns.map V.int)) : spD K mg X0 [.sc] .fr f [.ref a] H (fun v _ => v = .bl true) E := by
  refine ⟨H, [.lst (ns.map .int)], ⟨Same.refl _, Same.refl _, Same.refl _, fun a h => .inl h, fun a o h _ => h⟩, ⟨⟨rfl, a, ns, rfl, rfl, hS⟩, trivial⟩, ?_⟩
  rw [h]
  exact fun F' H' v fp _ _ h _ => h.2
end
end DL
end

/-! text DL11 -/
section
set_option maxRecDepth 100000
set_option maxHeartbeats 4000000
/-! the data layer, part 11: stores into what is owned -/
namespace DL
open PySem PySem.Spec PyProof.Rows L2
section
variable {C : Cxt} {W : Wx} {F F' H H' : Hp} {Γ Γb Γ' : List Md} {σ : L2.St} {ρ : EnvD} {L : List Ent} {m ma mb mr me mi : Md} {d : DV} {v : V} {Dn : Ends}
/-! a, b = e1, e2 -/
def gPar (i j : Nat) (g : GA) : GS := fun ρ => match g ρ with
  | .ok [a, b] => .nx ((ρ.set i (some a)).set j (some b))
  | .ex c d => .ex c d
  | _ => .stuck
theorem ss_par {i j : Nat} {t : TA} {g : GA} (h : SA C W Γ t g [ma, mb]) (li : i < Γ.length) (lj : j < Γ.length) (hio : ∀ p ∈ C.io, p.1 ≠ i ∧ p.1 ≠ j) : SS C W mr Γb Γ (tPar i j t) (gPar i j g) ((Γ.set i ma).set j mb) := by
  intro F H σ ρ L Dn hs r k
  show t σ H fun vs H1 => ∃ v w, vs = [v, w] ∧ Dn.nx ((σ.set i (some v)).set j (some w)) H1
  refine h F H σ ρ L _ hs.ok r ?_
  unfold gPar at k
  revert k
  cases g ρ with
  | ex c d => exact fun k F1 H1 s1 s2 f => k F1 H1 s1 f
  | stuck => exact fun k => k
  | ok ds =>
    intro k F1 H1 vs s1 s2 e1 e2 r1
    match vs, ds, e1, e2, r1, k with
    | [x, y], [dx, dy], _, _, r1, k =>
      refine ⟨x, y, rfl, ?_⟩
      have r2 : Rep C F1 H1 Γ σ ρ ((ma, dx, x) :: (mb, dy, y) :: L) := Rep.swap (L := L) r1
      have r3 := r2.put li fun p hp => (hio p hp).1
      have r4 := r3.put (by rw [List.length_set]; exact lj) fun p hp => (hio p hp).2
      exact k F1 H1 _ s1 r4
/-! x += e of ints -/
def gAug (i : Nat) (f : Int → Int → Int) (g : GE) : GS := fun ρ => match lk ρ i with
  | .ok (.int a) => (match g ρ with
    | .ok (.int b) => .nx (ρ.set i (some (.int (f a b))))
    | .ex c d => .ex c d
    | _ => .stuck)
  | _ => .stuck
theorem ss_aug {i : Nat} {f : Int → Int → Int} {t : TE} {g : GE} (h : SE C W Γ t g ma) (hi : Γ[i]? = some m) (hio : ∀ p ∈ C.io, p.1 ≠ i) (q : m.rd = true := by rfl) (qa : ma.rd = true := by rfl) : SS C W mr Γb Γ (tAug i t (ipI f)) (gAug i f g) Γ := by
  intro F H σ ρ L Dn hs r k
  unfold gAug at k
  rcases lk_cases ρ i with ⟨d, e2, e3⟩ | e3
  · rw [e3] at k
    cases d with
    | int a =>
      obtain ⟨x, h1, r0⟩ := r.look hi e2
      have hx : x = .int a := by
        obtain ⟨f, hf⟩ := r0.head
        exact hf.int1
      subst hx
      refine ⟨.int a, h1, ?_⟩
      refine h F H σ ρ L _ hs.ok r ?_
      revert k
      show PS' C W mr Γb Γ F H L Dn (match g ρ with | .ok (.int b) => .nx (ρ.set i (some (.int (f a b)))) | .ex c d => .ex c d | _ => .stuck) → _
      cases g ρ with
      | ex c d => exact fun k F1 H1 s1 s2 f => k F1 H1 s1 f
      | stuck => exact fun k => k
      | ok d =>
        intro k F1 H1 y s1 s2 r1
        have hd := r1.da qa
        cases d with
        | int b =>
          have r2 : Rep C F1 H1 Γ σ ρ ((m, .int (f a b), .int (f a b)) :: L) := r1.tail.cons0 (At.flat q rfl)
          have r3 := r2.put (List.getElem?_eq_some_iff.mp hi).1 hio
          rw [set_id hi] at r3
          exact ⟨a, b, rfl, hd, k F1 H1 _ s1 r3⟩
        | _ => exact k.elim
    | _ => exact k.elim
  · rw [e3] at k
    exact k.elim
/-! xs.append(e) of a name's own list -/
def gApp (i : Nat) (g : GX) : GX := fun ρ => match lk ρ i with
  | .ok (.lst _) => (g ρ).bind fun p => (match lk p.2 i with
    | .ok (.lst ds) => if ds.length < sizeLine then .ok (.non, p.2.set i (some (.lst (ds ++ [p.1])))) else .stuck
    | _ => .stuck)
  | _ => .stuck
theorem sx_app {i : Nat} {t : TE} {g : GX} (hi : Γ[i]? = some (.own m)) (h : SX C W Γ t g m) (hΓ : Γ.all Md.stor = true) (qm : m.stor = true := by rfl) : SX C W Γ (tBM C.K "list" rAppend (tVar i) (tCons t tNil)) (gApp i g) .fr := by
  intro F H σ ρ L Q hs r k
  show ∃ v, σ[i]? = some (some v) ∧ (tyV C.K "list" v H ∧ t σ H fun y H2 => rAppend v [y] H2 Q)
  unfold gApp at k
  rcases lk_cases ρ i with ⟨d, e2, e3⟩ | e3
  · rw [e3] at k
    cases d with
    | lst ds0 =>
      obtain ⟨x, h1, r0⟩ := r.look hi e2
      obtain ⟨f, hf⟩ := r0.head
      have hf : At C F H (.pk m.peek) (.lst ds0) x f := hf
      unfold At at hf
      rw [if_pos (show isLD (.lst ds0) = true from rfl)] at hf
      obtain ⟨a, ws, rfl, hrd, _⟩ := hf
      refine ⟨.ref a, h1, .inl ⟨rfl, ws, .inl hrd⟩, ?_⟩
      refine h F H σ ρ L _ hs r ?_
      revert k
      show PX' C W Γ F H σ L .fr Q ((g ρ).bind fun p => (match lk p.2 i with | .ok (.lst ds) => if ds.length < sizeLine then .ok (.non, p.2.set i (some (.lst (ds ++ [p.1])))) else .stuck | _ => .stuck)) → _
      cases g ρ with
      | ex c d => exact fun k => k
      | stuck => exact fun k => k
      | ok p =>
        obtain ⟨dy, ρ'⟩ := p
        intro k F1 H1 y s1 r1
        have k : PX' C W Γ F H σ L .fr Q (match lk ρ' i with | .ok (.lst ds) => if ds.length < sizeLine then .ok (.non, ρ'.set i (some (.lst (ds ++ [dy])))) else .stuck | _ => .stuck) := k
        rcases lk_cases ρ' i with ⟨d, g2, g3⟩ | g3
        · rw [g3] at k
          cases d with
          | lst ds =>
            have k : PX' C W Γ F H σ L .fr Q (if ds.length < sizeLine then .ok (.non, ρ'.set i (some (.lst (ds ++ [dy])))) else .stuck) := k
            split at k
            · rename_i hz
              obtain ⟨v, h2, r2⟩ := r1.take hi g2
              rw [h1] at h2
              cases h2
              obtain ⟨p, vs, z1, z2, z3, z4, z5, z6⟩ := r2.swap.push hΓ qm
              cases z1
              refine ⟨a, vs, y, rfl, rfl, z2, by rw [← z3]; exact hz, ?_⟩
              have r3 := (z6 (Safe.of hs)).back h1 (.inl hi)
              rw [set_set', set_id hi] at r3
              exact k F1 _ .non s1 (r3.cons0 ⟨rfl, rfl⟩)
            · exact k.elim
          | _ => exact k.elim
        · rw [g3] at k
          exact k.elim
    | _ => exact k.elim
  · rw [e3] at k
    exact k.elim
/-! xs[i] = e of a name's own list -/
theorem Alls.put {R : DV → V → List Addr → Prop} {d : DV} {v : V} {g : List Addr} (h : R d v g) : ∀ {ds : List DV} {vs : List V} {f : List Addr} {j : Nat}, Alls R ds vs f → j < ds.length → ∃ x y z, f = x ++ (y ++ z) ∧ Alls R (ds.set j d) (vs.set j v) (x ++ (g ++ z))
  | [], _, _, j, _, l => by simp at l
  | d1 :: ds, _, _, 0, ⟨w, r, f1, f2, h1, h2, h3, h4⟩, _ => by
    subst h1
    exact ⟨[], f1, f2, h2, v, r, g, f2, rfl, rfl, h, h4⟩
  | d1 :: ds, _, _, j + 1, ⟨w, r, f1, f2, h1, h2, h3, h4⟩, l => by
    subst h1
    obtain ⟨x, y, z, e1, e2⟩ := Alls.put h h4 (j := j) (by simpa using l)
    exact ⟨f1 ++ x, y, z, by rw [h2, e1, List.append_assoc], w, _, f1, x ++ (g ++ z), rfl, by rw [List.append_assoc], h3, e2⟩
theorem Rep.setAt {ds : List DV} {y : V} {j : Nat} (r : Rep C F H Γ σ ρ ((m, d, y) :: (.own m, .lst ds, v) :: L)) (hΓ : Γ.all Md.stor = true) (qm : m.stor = true) (hj : j < ds.length) (hs : storL L) :
    ∃ p vs, v = .ref p ∧ H p = some (.lst vs) ∧ ds.length = vs.length ∧ Rep C F (L2.upd H p (.lst (vs.set j y))) Γ σ ρ ((.own m, .lst (ds.set j d), v) :: L) := by
  obtain ⟨f1, f2, nd, a, g1, g2, h1, h2, g3, g4, h3, h4, h5⟩ := r.own
  unfold At at h4
  rw [if_pos (show isLD (.lst ds) = true from rfl)] at h4
  obtain ⟨p, vs, o, fc, e1, e2, e3, e4, e5, e6, e7⟩ := h4
  obtain rfl : o = .lst vs := e5
  subst e1
  subst e6
  subst h3
  subst h1
  refine ⟨p, vs, rfl, e4, e7.length, ?_⟩
  have np := List.nodup_append.mp nd
  have np2 := List.nodup_append.mp np.2.1
  have np3 := List.nodup_append.mp np2.2.1
  have np4 := List.nodup_cons.mp np3.1
  have n1 : ∀ x ∈ f1, x ≠ p := fun x hx e => np.2.2 x hx p (List.mem_append_right _ (List.mem_append_left _ List.mem_cons_self)) e
  have n2 : ∀ x ∈ g1, x ≠ p := fun x hx e => np2.2.2 x hx p (List.mem_append_left _ List.mem_cons_self) e
  have n3 : ∀ x ∈ fc, x ≠ p := fun x hx e => np4.1 (e ▸ hx)
  have n4 : ∀ x ∈ g4, x ≠ p := fun x hx e => np3.2.2 p List.mem_cons_self x hx e.symm
  have o1 := a.owned
  have o2 := h2.owned
  have o4 := h5.owned
  have nm : ∀ x u, L2.upd H p (.lst (vs.set j y)) x = some u → tupO u = true → H x = some u := fun x u e t => by
    by_cases z : x = p
    · subst z; rw [upd_same] at e; cases e; cases t
    · rw [upd_ne z] at e; exact e
  have lq : ∀ x u, x ≠ p → H x = some u → L2.upd H p (.lst (vs.set j y)) x = some u := fun x u z e => by rw [upd_ne z]; exact e
  have fit : Fit C F (L2.upd H p (.lst (vs.set j y))) := ⟨r.fit.ff, fun x u e => lq x u (fun z => by rw [z, e2] at e; cases e) (r.fit.fh _ _ e), fun x u e => lq x u (fun z => by rw [z, e3] at e; cases e) (r.fit.bh _ _ e), r.fit.f0, fun x u e t => r.fit.tp x u (nm x u e t) t⟩
  have stm : ∀ {m : Md} {d : DV} {v : V} {f : List Addr}, m.stor = true → At C F H m d v f → (∀ x ∈ f, x ≠ p) → At C F (L2.upd H p (.lst (vs.set j y))) m d v f := fun q x k => x.mono (Same.refl _) (fun z hz => (x.owned z hz).1) (fun z hz => upd_ne (k z hz)) (.inl q)
  have e8 : Alls (At C F (L2.upd H p (.lst (vs.set j y))) m) ds vs fc := e7.imp fun d v f hf x => stm qm x fun z hz => n3 z (hf z hz)
  obtain ⟨x, w, z, i1, i2⟩ := Alls.put (stm qm h2 n2) e8 hj
  subst i1
  refine ⟨fit, r.io, f1, (p :: (x ++ (g1 ++ z))) ++ g4, ?_, a.mono (Same.refl _) (fun x hx => (o1 x hx).1) (fun x hx => upd_ne (n1 x hx)) (.inl hΓ), p :: (x ++ (g1 ++ z)), g4, rfl, ?_, h5.safe (Safe.of hs) (fun x hx => (o4 x hx).1) n4⟩
  · have hp : List.Perm (f1 ++ (g1 ++ ((p :: (x ++ (w ++ z))) ++ g4))) (w ++ (f1 ++ ((p :: (x ++ (g1 ++ z))) ++ g4))) := by
      refine List.perm_iff_count.mpr fun b => ?_
      simp only [List.count_append, List.count_cons]
      omega
    exact ((hp.nodup nd)).sublist (List.sublist_append_right _ _)
  · unfold At
    rw [if_pos (show isLD (.lst (ds.set j d)) = true from rfl)]
    exact ⟨p, vs.set j y, _, _, rfl, e2, e3, upd_same, rfl, rfl, i2⟩
theorem ixN_lt {n : Nat} {i : Int} {j : Nat} (h : ixN n i = some j) : j < n := by
  unfold ixN at h
  split at h
  · split at h
    · cases h; omega
    · cases h
  · split at h
    · cases h; omega
    · cases h
def setD (x : DV) (i : DV) (y : DV) : Rs DV := match x, i with
  | .lst ds, .int k => (match ixN ds.length k with
    | some j => .ok (.lst (ds.set j y))
    | none => .stuck)
  | _, _ => .stuck
def gSetI (i : Nat) (gi : GE) (g : GX) : GS := fun ρ => match g ρ with
  | .ok (y, ρ') => (match lk ρ' i with
    | .ok x => (match gi ρ' with
      | .ok k => (match setD x k y with
        | .ok x' => .nx (ρ'.set i (some x'))
        | _ => .stuck)
      | .ex c d => .ex c d
      | .stuck => .stuck)
    | _ => .stuck)
  | .ex c d => .ex c d
  | .stuck => .stuck
theorem ss_seti {i : Nat} {t ti : TE} {g : GX} {gi : GE} (hi : Γ[i]? = some (.own m)) (h : SX C W Γ t g m) (hk : SE C W Γ ti gi mi) (hΓ : Γ.all Md.stor = true) (qm : m.stor = true := by rfl) (qi : mi.rd = true := by rfl) : SS C W mr Γb Γ (tAsg t (gSub (tVar i) ti rSetL)) (gSetI i gi g) Γ := by
  intro F H σ ρ L Dn hs r k
  show t σ H fun x H1 => ∃ v, σ[i]? = some (some v) ∧ ti σ H1 fun z H2 => rSetL v z x H2 fun H3 => Dn.nx σ H3
  refine h F H σ ρ L _ hs r ?_
  unfold gSetI at k
  revert k
  cases g ρ with
  | ex c d => exact fun k => k
  | stuck => exact fun k => k
  | ok p =>
    obtain ⟨dy, ρ'⟩ := p
    intro k F1 H1 y s1 r1
    have k : PS' C W mr Γb Γ F H L Dn (match lk ρ' i with | .ok x => (match gi ρ' with | .ok k => (match setD x k dy with | .ok x' => .nx (ρ'.set i (some x')) | _ => .stuck) | .ex c d => .ex c d | .stuck => .stuck) | _ => .stuck) := k
    rcases lk_cases ρ' i with ⟨dx, g2, g3⟩ | g3
    · rw [g3] at k
      have k : PS' C W mr Γb Γ F H L Dn (match gi ρ' with | .ok k => (match setD dx k dy with | .ok x' => .nx (ρ'.set i (some x')) | _ => .stuck) | .ex c d => .ex c d | .stuck => .stuck) := k
      obtain ⟨v, h2, _⟩ := r1.look hi g2
      refine ⟨v, h2, ?_⟩
      refine hk F1 H1 σ ρ' _ _ (storL_cons qm hs).ok r1 ?_
      revert k
      cases gi ρ' with
      | ex c d => exact fun k F2 H2 s2 s3 f => k F2 H2 (s1.trans s2) f
      | stuck => exact fun k => k
      | ok dk =>
        intro k F2 H2 z s2 s3 r2
        have hz := r2.da qi
        have k : PS' C W mr Γb Γ F H L Dn (match setD dx dk dy with | .ok x' => .nx (ρ'.set i (some x')) | _ => .stuck) := k
        cases dx with
        | lst ds =>
          cases dk with
          | int kk =>
            have k : PS' C W mr Γb Γ F H L Dn (match (match ixN ds.length kk with | some j => (Rs.ok (DV.lst (ds.set j dy)) : Rs DV) | none => .stuck) with | .ok x' => .nx (ρ'.set i (some x')) | _ => .stuck) := k
            cases e : ixN ds.length kk with
            | none => rw [e] at k; exact k.elim
            | some j =>
              rw [e] at k
              have k : PS' C W mr Γb Γ F H L Dn (.nx (ρ'.set i (some (.lst (ds.set j dy))))) := k
              obtain ⟨v2, h3, r3⟩ := r2.tail.take hi g2
              rw [h2] at h3
              cases h3
              obtain ⟨p, vs, z1, z2, z3, r4⟩ := r3.swap.setAt hΓ qm (ixN_lt e) hs
              subst z1
              refine ⟨p, vs, kk, j, rfl, hz, z2, by rw [← z3]; exact e, ?_⟩
              have r5 := r4.back h2 (.inl hi)
              rw [set_set', set_id hi] at r5
              exact k F2 _ σ (s1.trans s2) r5
          | _ => exact k.elim
        | _ => cases dk <;> exact k.elim
    · rw [g3] at k
      exact k.elim
end
end DL
end

/-! text DL12 -/
section
set_option maxRecDepth 100000
set_option maxHeartbeats 4000000
/-! the data layer, part 12: small things that a printed proof names -/
namespace DL
open PySem PySem.Spec PyProof.Rows L2
section
variable {C : Cxt} {W : Wx} {F F' H H' : Hp} {Γ : List Md} {σ : L2.St} {ρ : EnvD} {L : List Ent} {m ma mb mr me mi : Md} {d : DV} {v : V} {Dn : Ends} {st : Bool}
def gYes : GT := fun _ => .ok true
theorem st_yes : ST C W Γ tYes gYes := fun F H σ ρ L Q hL r k => k F H (Same.refl _) (Same.refl _) r
theorem st_tt {t : TE} {g : GE} (h : SE C W Γ t g m) (q : m.rd = true := by rfl) : ST C W Γ (tTest t) (gB g) := st_b h q
theorem nio {i : Nat} : ∀ p ∈ ([] : List (Nat × V × Md)), p.1 ≠ i := fun _ h => nomatch h
theorem nio2 {i j : Nat} : ∀ p ∈ ([] : List (Nat × V × Md)), p.1 ≠ i ∧ p.1 ≠ j := fun _ h => nomatch h
theorem nioL {is : List Nat} : ∀ p ∈ ([] : List (Nat × V × Md)), ∀ i ∈ is, p.1 ≠ i := fun _ h => nomatch h
theorem hx0 : ∀ (c : Str) (d : DV) (H' : Hp), W0 c d H' → X0 E0 c d H' := fun _ _ _ h => h
/-- items that cannot change are frozen by themselves -/
def gImmI (g : GI) : GI := fun ρ => (g ρ).bind fun its => if imms its = true then .ok its else .stuck
theorem imms_get : ∀ {ds : List DV} {i : Nat} {d : DV}, imms ds = true → ds[i]? = some d → imm d = true
  | [], _, _, _, h => by simp at h
  | a :: ds, 0, d, q, h => by
    simp at h
    subst h
    exact ((Bool.and_eq_true _ _).mp q).1
  | a :: ds, i + 1, d, q, h => imms_get (ds := ds) (i := i) ((Bool.and_eq_true _ _).mp q).2 (by simpa using h)
theorem si_imm {wi : TI} {gi : GI} (h : SI C W Γ wi gi m st) (q : m.rd = true := by rfl) : SI C W Γ wi (gImmI gi) .fr st := by
  intro F H σ ρ L R hL r k
  refine h F H σ ρ L R hL r ?_
  unfold gImmI at k
  revert k
  cases gi ρ with
  | ex c d => exact fun k => k
  | stuck => exact fun k => k
  | ok its =>
    show PI' C W Γ F H σ ρ L .fr st R (if imms its = true then .ok its else .stuck) → _
    split
    · rename_i hz
      intro k F1 H1 J E s1 s2 hs hA r1 w
      refine k F1 H1 J E s1 s2 hs hA r1 fun i F2 H2 Γ2 σ2 ρ2 L2 r2 => ?_
      obtain ⟨w1, w2⟩ := w i F2 H2 Γ2 σ2 ρ2 L2 r2
      refine ⟨w1, fun d hd => ⟨(w2 d hd).1, fun x H3 hy => ?_⟩⟩
      obtain ⟨F3, s3, s4, r3⟩ := (w2 d hd).2 x H3 hy
      exact ⟨F3, s3, s4, r3.tail.cons0 ⟨rfl, imm_da r3.fit.tp _ _ (imms_get hz hd) (r3.da q)⟩⟩
    · exact fun k => k.elim
/-- data without a place may be of any mode -/
def gFlat (g : GE) : GE := fun ρ => (g ρ).bind fun d => if (DL.flat d).isSome = true then .ok d else .stuck
theorem se_flat {t : TE} {g : GE} (h : SE C W Γ t g ma) (q : ma.rd = true) (qm : m.rd = true) : SE C W Γ t (gFlat g) m := by
  intro F H σ ρ L Q hL r k
  refine se_then h hL r k fun d F1 H1 x s1 s2 r1 k1 => ?_
  split at k1
  · rename_i hz
    obtain ⟨w, hw⟩ := Option.isSome_iff_exists.mp hz
    have e := da_flat hw (r1.da q)
    subst e
    exact k1.flat r1.tail qm hw
  · exact k1.elim
/-! displays over moved names -/
abbrev GAX := EnvD → Rs (List DV × EnvD)
def PAX' (C : Cxt) (W : Wx) (Γ : List Md) (F H : Hp) (σ : L2.St) (L : List Ent) (ms : List Md) (Q : List V → Hp → Prop) : Rs (List DV × EnvD) → Prop
  | .ok (ds, ρ') => ∀ F' H' vs, Same F F' → ds.length = vs.length → ms.length = vs.length → Rep C F' H' Γ σ ρ' (entsA ms ds vs L) → Q vs H'
  | .ex c d => ∀ F' H', Same F F' → Fit C F' H' → W c d H'
  | .stuck => False
def SXA (C : Cxt) (W : Wx) (Γ : List Md) (t : TA) (g : GAX) (ms : List Md) : Prop :=
  ∀ F H σ ρ L Q, storL L → Rep C F H Γ σ ρ L → PAX' C W Γ F H σ L ms Q (g ρ) → t σ H Q
def xNil : GAX := fun ρ => .ok ([], ρ)
def xCons (ga : GX) (gr : GAX) : GAX := fun ρ => (ga ρ).bind fun p => (gr p.2).bind fun q => .ok (p.1 :: q.1, q.2)
theorem sxa_nil : SXA C W Γ tNil xNil [] := fun F H σ ρ L Q hs r k => k F H [] (Same.refl _) rfl rfl r
theorem sxa_cons {ta : TE} {tr : TA} {ga : GX} {gr : GAX} {ms : List Md} (ha : SX C W Γ ta ga m) (hr : SXA C W Γ tr gr ms) (qo : m.stor = true := by rfl) : SXA C W Γ (tCons ta tr) (xCons ga gr) (m :: ms) := by
  intro F H σ ρ L Q hs r k
  show ta σ H fun x H1 => tr σ H1 fun xs H2 => Q (x :: xs) H2
  refine ha F H σ ρ L _ hs r ?_
  unfold xCons at k
  revert k
  cases ga ρ with
  | ex c d => exact fun k => k
  | stuck => exact fun k => k
  | ok p =>
    obtain ⟨d, ρ1⟩ := p
    intro k F1 H1 x s1 r1
    refine hr F1 H1 σ ρ1 _ _ (storL_cons qo hs) r1 ?_
    revert k
    show PAX' C W Γ F H σ L (m :: ms) Q ((gr ρ1).bind fun q => .ok (d :: q.1, q.2)) → _
    cases gr ρ1 with
    | ex c d => exact fun k F2 H2 s2 f => k F2 H2 (s1.trans s2) f
    | stuck => exact fun k => k
    | ok q =>
      obtain ⟨ds, ρ2⟩ := q
      exact fun k F2 H2 vs s2 e1 e2 r2 => k F2 H2 (x :: vs) (s1.trans s2) (by rw [List.length_cons, List.length_cons, e1]) (by rw [List.length_cons, List.length_cons, e2]) r2
def xTup (g : GAX) : GX := fun ρ => (g ρ).bind fun q => if q.1.length ≤ sizeLine then .ok (.tup q.1, q.2) else .stuck
def xLst (g : GAX) : GX := fun ρ => (g ρ).bind fun q => if q.1.length ≤ sizeLine then .ok (.lst q.1, q.2) else .stuck
theorem sx_tupM {t : TA} {g : GAX} {ms : List Md} (h : SXA C W Γ t g ms) (q : ∀ x ∈ ms, x = m) : SX C W Γ (tTup t) (xTup g) (.tu m) := by
  intro F H σ ρ L Q hs r k
  show t σ H fun xs H1 => xs.length ≤ sizeLine ∧ ∀ p, H1 p = none → Q (.ref p) (L2.upd H1 p (.tup xs))
  refine h F H σ ρ L _ hs r ?_
  unfold xTup at k
  revert k
  cases g ρ with
  | ex c d => exact fun k => k
  | stuck => exact fun k => k
  | ok p =>
    obtain ⟨ds, ρ1⟩ := p
    show PX' C W Γ F H σ L (.tu m) Q (if ds.length ≤ sizeLine then .ok (.tup ds, ρ1) else .stuck) → _
    split
    · rename_i hz
      intro k F1 H1 vs s1 e1 e2 r1
      refine ⟨by rw [← e1]; exact hz, fun p np => ?_⟩
      obtain ⟨sf, r2⟩ := r1.tuple q e2 e1 np
      exact k _ _ _ (s1.trans sf) r2
    · exact fun k => k.elim
theorem sx_tup {t : TA} {g : GAX} {ms : List Md} (h : SXA C W Γ t g ms) (q : ∀ x ∈ ms, x = .fr) : SX C W Γ (tTup t) (xTup g) .fr := sx_fr (sx_tupM h q) rfl
theorem sx_lst {t : TA} {g : GAX} {ms : List Md} (h : SXA C W Γ t g ms) (q : ∀ x ∈ ms, x = m) : SX C W Γ (tLst t) (xLst g) (.own m) := by
  intro F H σ ρ L Q hs r k
  show t σ H fun xs H1 => xs.length ≤ sizeLine ∧ ∀ p, H1 p = none → Q (.ref p) (L2.upd H1 p (.lst xs))
  refine h F H σ ρ L _ hs r ?_
  unfold xLst at k
  revert k
  cases g ρ with
  | ex c d => exact fun k => k
  | stuck => exact fun k => k
  | ok p =>
    obtain ⟨ds, ρ1⟩ := p
    show PX' C W Γ F H σ L (.own m) Q (if ds.length ≤ sizeLine then .ok (.lst ds, ρ1) else .stuck) → _
    split
    · rename_i hz
      intro k F1 H1 vs s1 e1 e2 r1
      refine ⟨by rw [← e1]; exact hz, fun p np => ?_⟩
      exact k F1 _ _ s1 (r1.node q e2 e1 np rfl rfl rfl rfl)
    · exact fun k => k.elim
/-- a list whose items cannot change: its items are frozen by themselves -/
def kidsImm : DV → Bool
  | .lst ds => imms ds
  | .dct _ ds => imms ds
  | d => imm d
def gImmL (g : GE) : GE := fun ρ => (g ρ).bind fun d => if kidsImm d = true then .ok d else .stuck
theorem imms_alls {K : PySem.W.Frag} {mg : Str → Option Value} (tp : ∀ a o, H a = some o → tupO o = true → F a = some o) : ∀ {ds : List DV} {vs : List V}, imms ds = true → DAs K mg H ds vs → DAs K mg F ds vs := fun {ds vs} q h => imms_da tp ds vs q h
theorem se_immL {t : TE} {g : GE} (h : SE C W Γ t g ma) (q : ma.rd = true) : SE C W Γ t (gImmL g) (.pk .fr) := by
  intro F H σ ρ L Q hL r k
  refine se_then h hL r k fun d F1 H1 x s1 s2 r1 k1 => ?_
  split at k1
  · rename_i hz
    have hd := r1.da q
    refine k1.give r1.tail ?_
    cases d with
    | lst ds =>
      obtain ⟨a, vs, e1, e2, e3⟩ := hd
      unfold At
      rw [if_pos (show isLD (.lst ds) = true from rfl)]
      exact ⟨a, vs, e1, e2, Alls.of_das (imms_alls r1.fit.tp hz e3) fun d v x => ⟨rfl, x⟩⟩
    | dct ks ds =>
      obtain ⟨a, vs, e1, e2, e3⟩ := hd
      unfold At
      rw [if_pos (show isLD (.dct ks ds) = true from rfl)]
      exact ⟨a, vs, e1, e2, Alls.of_das (imms_alls r1.fit.tp hz e3) fun d v x => ⟨rfl, x⟩⟩
    | obj c ns ds => cases hz
    | non => exact At.of_fr r1.fit.fh rfl (imm_da r1.fit.tp _ _ hz hd)
    | bl b => exact At.of_fr r1.fit.fh rfl (imm_da r1.fit.tp _ _ hz hd)
    | int i => exact At.of_fr r1.fit.fh rfl (imm_da r1.fit.tp _ _ hz hd)
    | str s => exact At.of_fr r1.fit.fh rfl (imm_da r1.fit.tp _ _ hz hd)
    | tup ds => exact At.of_fr r1.fit.fh rfl (imm_da r1.fit.tp _ _ hz hd)
  · exact k1.elim
end
/-! the rules that speak of the written part, with it named -/
section
variable {X : Cx} {K : PySem.W.Frag}
theorem kx_ix (h : X.K = K) : IxR X (rIxX K) := by subst h; exact ix_X
theorem kx_sl (h : X.K = K) : SlR X (rSlX K) := by subst h; exact sl_X
theorem kx_eq (h : X.K = K) (hu : X.A.units + 64 < cLine) : OpR X (compareOp .Eq) (rEqD K) := by subst h; exact op_eqD hu
theorem kx_ne (h : X.K = K) (hu : X.A.units + 64 < cLine) : OpR X (compareOp .NotEq) (rNeD K) := by subst h; exact op_neD hu
theorem kx_in (h : X.K = K) (hu : X.A.units + 65 < cLine) : OpR X (compareOp .In) (rInX K) := by subst h; exact op_inX hu
theorem kx_notIn (h : X.K = K) (hu : X.A.units + 65 < cLine) : OpR X (compareOp .NotIn) (rNotInX K) := by subst h; exact op_notInX hu
theorem kx_len (h : X.K = K) : CallR X (.builtin "len") (rLenX K) := by subst h; exact call_lenX
theorem kx_list (h : X.K = K) : CallR X (.type "list") (rListOf K) := by subst h; exact call_list_of
theorem kx_sum (h : X.K = K) (hc : X.calm = true) : CallR X (.builtin "sum") (rSum K) := by subst h; exact cr_sum hc
theorem kx_all (h : X.K = K) (hc : X.calm = true) : CallR X (.builtin "all") (rAll K) := by subst h; exact cr_all hc
theorem kx_any (h : X.K = K) (hc : X.calm = true) : CallR X (.builtin "any") (rAny K) := by subst h; exact cr_any hc
theorem kx_max (h : X.K = K) (hc : X.calm = true) : CallR X (.builtin "max") (rMax K) := by subst h; exact cr_max hc
theorem kx_min (h : X.K = K) (hc : X.calm = true) : CallR X (.builtin "min") (rMin K) := by subst h; exact cr_min hc
theorem kx_sorted (h : X.K = K) : CallR X (.builtin "sorted") (rSortedI K) := by subst h; exact cr_sortedI
theorem kx_seq {tg l : Expr} {tl : TE} (h : X.K = K) (hl : PE X l tl) : PI X tg l (iSeq K tl) := by subst h; exact pi_seq hl
theorem kx_tru {a : Expr} {ta : TE} (h : X.K = K) (ha : PE X a ta) (he : ∀ whole, isTrue a X.env whole = (do let v ← whole; standAt a.pos; holding [v] (truthy v))) : PT X a (tTru K ta) := by subst h; exact pt_truth ha he
end
section
variable {C : Cxt} {W : Wx} {Γ : List Md} {m : Md}
theorem si_seqC {t : TE} {g : GE} (h : SE C W Γ t g m) (q : m.ixok = true := by rfl) : SI C W Γ (iSeq C.K t) (gSeqI g) m.kid false := si_seq h q (fun h => by cases h)
theorem si_seqS {t : TE} {g : GE} (h : SE C W Γ t g m) (q : m.ixok = true := by rfl) (hs : m.stor = true := by rfl) : SI C W Γ (iSeq C.K t) (gSeqI g) m.kid true := si_seq h q (fun _ => hs)
end
end DL
namespace L2
open PySem
theorem Room.units65 {k : Nat} {A : Around} (r : Room k A) : A.units + 65 < cLine := by have := r.un; omega
end L2
end

/-! text DLH -/
section
set_option maxRecDepth 100000
set_option maxHeartbeats 4000000
/-! the data layer, the head: facts of the written part by tests of one's own -/
namespace DL
open PySem PySem.Spec PyProof.Rows L2
abbrev Qs := List (PySem.W.Frag → Bool)
def obsX (qs : Qs) (fn : List He.DefD) (K : PySem.W.Frag) : He.AlD := ((qs.all fun q => q K) && fn.all fun d => d.ok K, fn.map fun d => He.fnW K d.at_)
def SaysX (qs : Qs) (fn : List He.DefD) (K : PySem.W.Frag) : Prop := obsX qs fn K = He.valD fn
def obsXG (n : Nat) (qs : Qs) (fn : List He.DefD) (g : Addr → Option Obj) : He.AlD := obsX qs fn (He.frG g (cStatics :: He.asD g n))
def hookX (n : Nat) (qs : Qs) (fn : List He.DefD) : PySem.W.Hook where
  α := He.AlD
  obs := fun s => obsXG n qs fn s.heap.get?
  val := fun _ => He.valD fn
  says := fun _ h => ∃ K : PySem.W.Frag, K.In h ∧ SaysX qs fn K
  of := fun _ _ e => ⟨_, He.frG_in, e⟩
  keeps := fun _ _ _ ⟨K, hK, c⟩ k => ⟨K, PySem.W.Frag.In.keeps hK k, c⟩
theorem obsXG_eq {n : Nat} {qs : Qs} {fn : List He.DefD} {g : Addr → Option Obj} {s : Shared} (h : ∀ a, g a = s.heap.get? a) : obsXG n qs fn g = (hookX n qs fn).obs s := by
  have e : g = s.heap.get? := funext h
  rw [e] <;> rfl
section
variable {qs : Qs} {fn : List He.DefD} {K : PySem.W.Frag}
theorem SaysX.fact (c : SaysX qs fn K) (i : Nat) {q : PySem.W.Frag → Bool} (h : qs[i]? = some q := by rfl) : q K = true := by
  have c1 := ((Bool.and_eq_true _ _).mp (show ((qs.all fun q => q K) && fn.all fun d => d.ok K) = true from congrArg (fun z : He.AlD => z.1) c)).1
  exact List.all_eq_true.mp c1 q (List.mem_of_getElem? h)
theorem SaysX.def_ (c : SaysX qs fn K) (i : Nat) {d : He.DefD} (h : fn[i]? = some d := by rfl) : ∃ fd, FunD K d.name d.qual d.params d.body d.scope (d.dvs K) (d.kws K) (He.fAd K d.at_) fd := by
  have c2 := ((Bool.and_eq_true _ _).mp (show ((qs.all fun q => q K) && fn.all fun d => d.ok K) = true from congrArg (fun z : He.AlD => z.1) c)).2
  have e : fn.map (fun d => He.fnW K d.at_) = fn.map He.DefD.val := congrArg (fun z : He.AlD => z.2) c
  have e2 : (fn.map fun d => He.fnW K d.at_)[i]? = (fn.map He.DefD.val)[i]? := by rw [e]
  rw [List.getElem?_map, List.getElem?_map, h] at e2
  exact He.DefD.funD (Option.some.inj e2) (List.all_eq_true.mp c2 d (List.mem_of_getElem? h))
end
/-- the module's name x is the built-in function of this name -/
def bltB (x : Str) (id : String) (K : PySem.W.Frag) : Bool := match PySem.W.nsIn K mainGlobals x with
  | some (some (.builtin j)) => decide (j = id)
  | _ => false
theorem bltB_ok {K : PySem.W.Frag} {h : Heap} {mg : Str → Option Value} {x : Str} {id : String} (X : K.In h) (G : h.Ns mainGlobals mg) (c : bltB x id K = true) : mg x = some (.builtin id) := by
  unfold bltB at c
  split at c
  · rename_i j e
    have ej : j = id := of_decide_eq_true c
    subst ej
    exact PySem.W.mg_of X G e
  · cases c
end DL
end

/-! text DX0 -/
section
set_option maxRecDepth 100000
set_option maxHeartbeats 4000000
/-! own exceptions, part 0: an __init__ that says super().__init__(at); self.at = at, over ValueError, for the class and its heirs -/
namespace DL
open PySem PySem.Spec PyProof.Rows L2
abbrev exBody (p0 p1 p2 p3 p4 p5 p6 p7 p8 p9 : Pos) : List Stmt :=
  [.Expr (.Call (.Attribute (.Call (.Name "super" p0) [] [] p1) "__init__" p2) [.Name "at" p3] [] p4) p5,
   .Assign [.Attribute (.Name "self" p6) "at" p7] (.Name "at" p8) p9]
abbrev exScope : Scope := { kind := .function, names := [("self", .local), ("at", .local), ("__class__", .free), ("super", .globalImplicit)], isGenerator := false, isCoroutine := false, more := [] }
/-- what such an __init__ keeps -/
def spI (K : PySem.W.Frag) (D : Addr) : Sp := fun vs H Q _ => ∃ (a C : Addr) (v : V), vs = [.ref a, v] ∧ OexC K C ∧ PySem.W.mroIn K C (.ref D) = some true ∧
  PySem.W.subIn K (.ref C) (.type "ValueError") = some true ∧ PySem.W.ks_superIn K C D "__init__" = some (some (.builtin "ValueError.__init__")) ∧ PySem.W.findIn K (.ref C) "at" = some none ∧
  H a = some (exo a C none) ∧ ∀ dx, H dx = none → dx ≠ a → Q .non (upd (upd H dx (exd dx [("at", v)])) a (exo a C (some dx)))
abbrev inEnv (qual : Str) (L f : Addr) (cd : Value) (cc : Addr) : Env := PySem.W.ksEnv qual exScope L f cd cc
def cxI (P : Program) (w : World) (K : PySem.W.Frag) (mg : Str → Option Value) (base : Heap) (qual : Str) (f : Addr) (cd : Value) (cc : Addr) (A : Around) (outer : List Env) (s : Shared) (H : Hp) (E : XK) : Cx where
  prog := P
  w := w
  K := K
  mg := mg
  base := base
  A := A.deeper (inEnv qual s.heap.objs.size f cd cc)
  N := ["self", "at"]
  s_0 := s
  H_0 := H
  env := inEnv qual s.heap.objs.size f cd cc
  outer := outer
  stack := inEnv qual s.heap.objs.size f cd cc :: outer
  ex := []
  calm := true
  fn := fun x => decide (x ≠ "__class__")
  pn := []
  xe := fun e s' => wpAny (model P w) (A.deeper (inEnv qual s.heap.objs.size f cd cc)) (leaving (inEnv qual s.heap.objs.size f cd cc) e) (fun _ s'' => C8.CX0 outer H s E e s'') (fun e' s'' => C8.CX0 outer H s E e' s'') s'
theorem sup_init {P : Program} {w : World} {K : PySem.W.Frag} {mg : Str → Option Value} {base : Heap} {k : Nat} {D fI cc cda : Addr} {qual : Str} {params : Arguments} {ar : Arg} {dV kV doc pm ct oc ccl cl : Value} {an od cdd cld : Option Addr} {osl ccs csl : Array (Option Value)}
    {vs : Array Value} {file : Str} {tf : Tok} {cdD : ClassData} {p0 p1 p2 p3 p4 p5 p6 p7 p8 p9 : Pos}
    (lk : K.lookup fI = some ⟨oc, od, .func (PySem.W.ksFn "__init__" qual params (exBody p0 p1 p2 p3 p4 p5 p6 p7 p8 p9) exScope dV kV doc pm an (.ref cda) ct cc), osl⟩) (hcd : PySem.W.codeIn K (.ref cda) qual = true)
    (lc : K.lookup cda = some ⟨ccl, cdd, .fields vs, ccs⟩) (hvs : vs[2]? = some (.str file tf)) (hfile : ((P.main.file : Str) == file) = true) (lcc : K.lookup cc = some ⟨cl, cld, .cell (some (.ref D)), csl⟩) (hD : PySem.W.clsIn K D = some cdD)
    (hsu : mg "super" = none) (hany : PySem.W.nsIn K cStatics "thirdparty.any" = some none) (htop : (P.main.scope.names.lookup ("super" : Str)).isSome = false) (hpar : (params.posonlyargs ++ params.args).head? = some ar) (har : ar.arg = ("self" : Str))
    (hev : ∀ L : Addr, ∃ pl : Sem Bool, eval (.Call (.Attribute (.Call (.Name "super" p0) [] [] p1) "__init__" p2) [.Name "at" p3] [] p4) (inEnv qual L fI (.ref cda) cc) = (do
        let ov ← attributeBase (.Call (.Name "super" p0) [] [] p1) "__init__" (inEnv qual L fI (.ref cda) cc) (eval (.Call (.Name "super" p0) [] [] p1) (inEnv qual L fI (.ref cda) cc))
        standAt p2.atName
        let (f, first) ← holding [ov] (getMethod ov "__init__" pl)
        callWith p4 f first (backTo p4 (starEach [.Name "at" p3] (inEnv qual L fI (.ref cda) cc))) [])) :
    FnOk P w K mg base C8.CX0 (k + 1) fI (PySem.W.ksFn "__init__" qual params (exBody p0 p1 p2 p3 p4 p5 p6 p7 p8 p9) exScope dV kV doc pm an (.ref cda) ct cc) ["self", "at"] (spI K D) := by
  refine ⟨fun vs H Q E h => ?_, fun A outer s H args us vs Q E hr e0 hb r hsp => ?_⟩
  · obtain ⟨a, C, v, e, _⟩ := h
    rw [e]; rfl
  obtain ⟨a, C, v, e, T, hmro, hsub, hsup, hno, ea, hq⟩ := hsp
  subst e
  cases r with
  | @cons _ u0 _ ur ra rw' =>
  obtain rfl : u0 = Value.ref a := ra
  cases rw' with
  | @cons _ u _ ur2 rv rn =>
  cases rn
  have KX : K.In s.heap := e0.mod.kin.keeps fun b o e => (e0.bs b o e).1
  have lim : s.heap.NoLimit := e0.mod.nolimit.keeps fun b o e => (e0.bs b o e).1
  refine ks_codeAny_call_defAt hr.depth (KX _ _ lk) rfl lim (PySem.W.codeRec_of KX hcd) rfl hb (show ∀ x ∈ exScope.names, x.2 ≠ .cell by decide) (fun y hy => ?_) (fun h₁ hns hk => ?_) rfl rfl rfl
  · rcases List.mem_cons.mp hy with rfl | hy
    · rfl
    · rcases List.mem_cons.mp hy with rfl | hy
      · rfl
      · cases hy
  have I : Inv (cxI P w K mg base qual fI (.ref cda) cc A outer s H E) [] [some (.ref a), some v] H { s with heap := h₁, toks := s.toks + (["self", "at"].zip [Value.ref a, u]).length } := by
    have Kb : K.In base := e0.mod.kin
    have cab : ∀ y c, (inEnv qual s.heap.objs.size fI (.ref cda) cc).cells.lookup y = some c → y = "__class__" ∧ c = cc := fun y c e => by
      have e2 : (match y == ("__class__" : Str) with | true => some cc | false => none) = some c := e
      by_cases q : y = ("__class__" : Str)
      · subst q
        have e3 : some cc = some c := e2
        exact ⟨rfl, (Option.some.inj e3).symm⟩
      · rw [show (y == ("__class__" : Str)) = false from by simpa using q] at e2
        cases e2
    refine ⟨⟨e0.mod, rfl, rfl, rfl, Nat.le_refl _, fun y z c h1 h2 => (cab y c h1).1.trans (cab z c h2).1.symm, fun y hy => ?_, fun y c hn h => absurd (cab y c h).1 (of_decide_eq_true hn), fun _ => hr.hd, Around.frames_deeper e0.frames, .inr ⟨rfl, rfl⟩, fun b z => (nomatch z), e0.bs, e0.bsz, fun b _ _ z => (nomatch z), fun b z => (nomatch z), e0.funs, e0.frf⟩,
      rfl, e0.bare, Un.kept hk, ⟨_, hns, fun i y v' h1 h2 h3 => ?_⟩, fun y c h => ?_, e0.hok.fresh (Nat.le_refl _), fun y c h => ?_, fun p hp => (nomatch hp), e0.hok.kept hk, rfl⟩
    · have hy : exScope.names.lookup y = some .cell ∨ exScope.names.lookup y = some .free := hy
      have hz : y = "__class__" := by
        have hm : ∃ kd, (kd = NameKind.cell ∨ kd = NameKind.free) ∧ (y, kd) ∈ exScope.names := by
          rcases hy with hy | hy
          · exact ⟨_, .inl rfl, PySem.mem_of_lookup hy⟩
          · exact ⟨_, .inr rfl, PySem.mem_of_lookup hy⟩
        obtain ⟨kd, hkd, hm⟩ := hm
        simp only [exScope, List.mem_cons, List.not_mem_nil, Prod.mk.injEq, or_false] at hm
        rcases hm with ⟨_, q⟩ | ⟨_, q⟩ | ⟨q, _⟩ | ⟨_, q⟩
        · subst q; rcases hkd with z | z <;> cases z
        · subst q; rcases hkd with z | z <;> cases z
        · exact q
        · subst q; rcases hkd with z | z <;> cases z
      subst hz
      exact ⟨cc, rfl⟩
    · match i, h1, h2 with
      | 0, h1, h2 =>
        cases h1
        cases h2
        exact ⟨.ref a, rfl, .inl ⟨rfl, rfl⟩⟩
      | 1, h1, h2 =>
        cases h1
        cases h2
        exact ⟨u, rv, .inl ⟨rfl, rfl⟩⟩
      | (n + 2), h1, h2 => cases h1
    · obtain ⟨_, rfl⟩ := cab y c h
      exact ⟨_, ⟨_, hk _ _ (KX _ _ lcc), rfl⟩⟩
    · obtain ⟨_, rfl⟩ := cab y c h
      exact (e0.bs _ _ (Kb _ _ lcc)).2
  have K1 : K.In h₁ := fun b o e => hk _ _ (KX _ _ e)
  show _root_.PySem.wpAt (model P w) (A.deeper (inEnv qual s.heap.objs.size fI (.ref cda) cc)) (.func (exBody p0 p1 p2 p3 p4 p5 p6 p7 p8 p9) (inEnv qual s.heap.objs.size fI (.ref cda) cc)) (execs (exBody p0 p1 p2 p3 p4 p5 p6 p7 p8 p9) (inEnv qual s.heap.objs.size fI (.ref cda) cc)) _ _ _
  obtain ⟨pl, hev⟩ := hev s.heap.objs.size
  refine ks_wpAt_execs_cons (ks_wpAt_Expr_any (ks_wpAt_MethodCall (he := hev) ?_))
  · refine ks_wpAt_super_base rfl rfl rfl rfl (K1 _ _ lk) rfl hpar rfl (K1 _ _ lc) rfl hvs hfile htop ?_
    obtain ⟨mb, hb1, hb2⟩ := I.mod.blt
    refine PySem.W.ks_loadName_global rfl rfl (Calls.loadGlobal_builtin (env := inEnv qual s.heap.objs.size fI (.ref cda) cc) (I.mod.glob.keeps I.bk) hsu (hb1.keeps I.bk) ((hb2 _ (by decide)).trans (by first | boot_by_name | rfl | kernel_rfl)) ⟨rfl, ?_⟩)
    refine wpAny_loadName_free rfl rfl rfl ⟨_, K1 _ _ lcc, rfl⟩ ?_
    rw [har]
    refine wpAny_loadName_local rfl rfl hns (v := .ref a) rfl ?_
    obtain ⟨nm, q, N, bs, bm, sn, sub, ab, col, dd, k0, k1, k2, k3, k5, hC, hbm⟩ := T.cls
    obtain ⟨t1, ho⟩ := exo_at I.hok ea
    have hcl : PySem.W.clsIn K C = some { name := nm, bases := bs, mro := .ref C :: bm, ns := N, qualname := q, hasDict := true, slotNames := sn, subclasses := sub, abstract := ab, collection := col, hasDel := false } := by unfold PySem.W.clsIn; rw [hC] <;> rfl
    obtain ⟨oD, hD1, hD2⟩ : ∃ oD, K.lookup D = some oD ∧ oD.data = .cls cdD := by
      unfold PySem.W.clsIn at hD
      split at hD
      · rename_i c d cd' sl ho
        cases hD
        exact ⟨_, ho, rfl⟩
      · cases hD
    refine ks_wpAny_isType_cls (K1 _ _ hD1) hD2 ⟨rfl, ?_⟩
    refine ks_wpAny_call_super (K1 _ _ hD1) hD2 ho rfl (fun c e => nomatch e) (PySem.W.looks_mroIn K1 hmro) (fun h2 hso k2 => ?_)
    have K2 : K.In h2 := fun b o e => k2 _ _ (K1 _ _ e)
    unfold PySem.W.ks_superIn at hsup
    rw [hcl] at hsup
    have haC : a ≠ C := fun z => by
      rw [z] at ho
      have := K1 _ _ hC
      rw [ho] at this
      cases this
    have hI : PySem.W.InstAt h2 a { cls := .ref C, dict := none, data := .fields #[.ref t1, .none, .none, .none, .bool false, .none] } C none := ⟨k2 _ _ ho, rfl, rfl, trivial⟩
    refine PySem.W.kxs_getMethod PySem.W.kxs_ValueError hso (PySem.W.looks_opaque K2 hany) (l₀ := .ref C :: bm) (fun A Q E s k q => wpAny_bind ((PySem.W.looks_clsIn K2 hcl) A _ E s k (wpAny_pure q))) rfl K2 hsup (hI.type.andThen (PySem.W.looks_subIn K2 hsub)) haC (by decide) ?_
    have J2 : Inv (cxI P w K mg base qual fI (.ref cda) cc A outer s H E) [] [some (.ref a), some v] H ⟨h2, s.gens, s.drawn, s.toks + (["self", "at"].zip [Value.ref a, u]).length, s.os⟩ := I.kept (t' := s.toks + (["self", "at"].zip [Value.ref a, u]).length) k2
    have I2 : Inv (cxI P w K mg base qual fI (.ref cda) cc A outer s H E) [] [some (.ref a), some v] H ⟨h2.push (PySem.W.kxs_mw "ValueError.__init__" a), s.gens, s.drawn, s.toks + (["self", "at"].zip [Value.ref a, u]).length + 1, s.os⟩ :=
      J2.kept (t' := s.toks + (["self", "at"].zip [Value.ref a, u]).length + 1) (fun b o e => Heap.get?_push_of_some _ e)
    have hu : (h2.push (PySem.W.kxs_mw "ValueError.__init__" a)).get? h2.objs.size = some (PySem.W.kxs_mw "ValueError.__init__" a) := Heap.get?_push_at rfl rfl
    have hpin : ∀ p ∈ ([] : List (Addr × Obj)) ++ [(h2.objs.size, PySem.W.kxs_mw "ValueError.__init__" a)], (h2.push (PySem.W.kxs_mw "ValueError.__init__" a)).get? p.1 = some p.2 ∧ H p.1 = none ∧ p.1 ≠ s.heap.objs.size ∧ p.1 ∉ frs outer ∧ ∀ v, p.2.data ≠ .cell v := fun p hp => by
      rcases List.mem_cons.mp (show p ∈ (h2.objs.size, PySem.W.kxs_mw "ValueError.__init__" a) :: [] from hp) with rfl | hp
      · exact ⟨hu, J2.hok.fresh (Nat.le_refl _), Nat.ne_of_gt J2.lt, J2.nofs (Nat.le_refl _), fun v e => by cases e⟩
      · cases hp
    have I3 : Inv (cxI P w K mg base qual fI (.ref cda) cc A outer s H E) [(h2.objs.size, PySem.W.kxs_mw "ValueError.__init__" a)] [some (.ref a), some v] H ⟨h2.push (PySem.W.kxs_mw "ValueError.__init__" a), s.gens, s.drawn, s.toks + (["self", "at"].zip [Value.ref a, u]).length + 1, s.os⟩ :=
      ⟨I2.ok, I2.os, I2.bare, I2.base, I2.loc, I2.cell, I2.free, I2.freeC, hpin, I2.hok, I2.len⟩
    refine PySem.W.kxs_callWith (i := "ValueError.__init__") (x := a) rfl ?_
    have hPA : PA (cxI P w K mg base qual fI (.ref cda) cc A outer s H E) [.Name "at" p3] (tCons (tVar 1) tNil) := pa_cons (pe_var (i := 1) rfl (.inl rfl)) pa_nil
    refine Calls.evalArgs_plain (thn (hPA.run p4 _ _ _ H (fun vs H' => vs = [v] ∧ H = H') I3 ⟨v, rfl, rfl, rfl⟩) fun us s4 z => ?_)
    obtain ⟨vs4, H4, I4, r4, e1, e2⟩ := z
    subst e1 e2
    cases r4 with
    | @cons _ u4 _ ur4 rv4 rn4 =>
    cases rn4
    have hu4 := (I4.pin _ (by exact List.mem_cons_self)).1
    refine ⟨hu4, ?_⟩
    obtain ⟨hh, g, d, tk, os⟩ := s4
    obtain ⟨t4, ho4⟩ := exo_at I4.hok ea
    refine wpAny_call (codeAny_of_tree ?_)
    show wpAny _ _ (callAny (.ref h2.objs.size) ⟨[u4], []⟩) _ _ _
    simp only [callAny]
    refine wpAny_bind (wpAny_load hu4 ?_)
    simp only [PySem.W.kxs_mw, show (Value.type "method-wrapper" == Value.type "method" || Value.type "method-wrapper" == Value.type "builtin_function_or_method" || Value.type "method-wrapper" == Value.type "method-wrapper") = true by decide, if_true]
    refine PySem.W.KFB.if_so (by decide) ?_
    refine wpAny_bind (PySem.W.check_bound_init F.excBase_ValueError.toExcCallFacts (I4.kIn _ _ hC) ho4 rfl ?_)
    refine wpAny_bind (wpAny_pure (wpAny_pure ?_))
    refine ⟨plainId_quiet F.excBase_ValueError.init.plain _, codeAny_builtin F.excBase_ValueError.initEntry ?_⟩
    refine PySem.W.exc_init_tree (cls := .ref C) (t0 := t4) (dv := none) (c2 := .none) (c3 := .none) (b4 := .bool false) ho4 (by rw [sizeLine_eq]; simp) (fun h5 k5 e5 _ => ?_)
    have J := I4.write (t' := tk) (x := a) (e := a) (o := exo a C none) (by rw [ea]; exact True.intro) (.inl rfl) k5 ⟨_, e5⟩ (exo_ok e5)
    have eu : upd H a (exo a C none) = H := by
      funext b
      by_cases hb : b = a
      · rw [hb, upd_same, ea]
      · rw [upd_ne hb]
    rw [eu] at J
    have T' : OexC (cxI P w K mg base qual fI (.ref cda) cc A outer s H E).K C := T
    have hPS : PSs (cxI P w K mg base qual fI (.ref cda) cc A outer s H E) [.Assign [.Attribute (.Name "self" p6) "at" p7] (.Name "at" p8) p9] _ := pss_cons (ps_ost (pe_var (i := 0) rfl (.inl rfl)) (pe_var (i := 1) rfl (.inl rfl))) pss_nil
    refine wpAt_of_wpAny (thn (hPS.run _ _ _ H { nx := fun _ H' => Q .non H', rt := Q } J ?_) fun fl s6 hs => ?_)
    · refine ⟨v, rfl, .ref a, rfl, a, C, rfl, T, hno, .inl ⟨ea, fun dx n ne => hq dx n ne⟩⟩
    · cases fl with
      | next =>
        obtain ⟨σ', H', J6, q6⟩ := hs
        exact ⟨.non, H', J6.os, J6.bare, J6.base, J6.hok, rfl, q6⟩
      | ret u6 =>
        obtain ⟨v6, σ', H', J6, rv6, q6⟩ := hs
        exact ⟨v6, H', J6.os, J6.bare, J6.base, J6.hok, rv6, q6⟩
      | brk =>
        obtain ⟨_, _, _, q6⟩ := hs
        exact False.elim q6
      | cont =>
        obtain ⟨_, _, _, q6⟩ := hs
        exact False.elim q6
end DL
end

/-! text DX1 -/
section
set_option maxRecDepth 100000
set_option maxHeartbeats 4000000
/-! own exceptions, part 1: raise, try, what a handler asks -/
namespace DL
open PySem PySem.Spec PyProof.Rows L2
/-- what is wanted of an exception of one of the classes ecs, at the data -/
def XO (mg : Str → Option Value) (ecs : List Str) (E : XK) : Wx := fun c d H =>
  c ∈ ecs → ∀ (Ca dd : Addr) (v : V), mg c = some (.ref Ca) → flat d = some v → H dd = some (.xd [("at", v)]) → E (.ref Ca) (some dd) H
/-- what the written part says of the own exception class at Ca (its __init__ is D's, at fI) -/
structure ExF (K : PySem.W.Frag) (D fI Ca : Addr) : Prop where
  oc : OexC K Ca
  mro : PySem.W.mroIn K Ca (.ref D) = some true
  sub : PySem.W.subIn K (.ref Ca) (.type "ValueError") = some true
  sup : PySem.W.ks_superIn K Ca D "__init__" = some (some (.builtin "ValueError.__init__"))
  no : PySem.W.findIn K (.ref Ca) "at" = some none
  ini : PySem.W.findIn K (.ref Ca) "__init__" = some (some (.ref fI))
  xf : XfC K Ca
  cla : PySem.W.findIn K (.ref Ca) "__class__" = some (some (.builtin "object.__class__"))
  spe : PySem.W.specialIn K (.builtin "object.__class__") "__get__" = some (some (.builtin "getset_descriptor.__get__"))
  tak : PySem.W.takesIn K (.builtin "object.__class__") = some true
  obj : PySem.W.mroIn K Ca (.type "object") = some true
section
variable {C : Cxt} {W : Wx} {F F' H H' : Hp} {Γ Γb Γ' : List Md} {σ : L2.St} {ρ : EnvD} {L : List Ent} {m mr : Md} {d : DV} {v : V} {Dn : Ends}
def gRaise (c : Str) (ga : GA) : GS := fun ρ => match ga ρ with
  | .ok [d] => if (flat d).isSome = true then .ex c d else .stuck
  | .ex c d => .ex c d
  | _ => .stuck
/-- raise c(e) -/
def tRaiseO (K : PySem.W.Frag) (Ca D : Addr) (ta : TA) (E : XK) : TS := fun _ σ H => tMkO Ca (spI K D) [] ta σ H E
theorem xd_tup {fs : List (Str × V)} : tupO (.xd fs) = false := rfl
theorem Fit.xd {dx : Addr} {fs : List (Str × V)} (e : Fit C F H) (n : H dx = none) : Fit C F (upd H dx (.xd fs)) :=
  e.alloc (same_upd n) fun a o h q => by
    by_cases z : a = dx
    · subst z
      rw [upd_same] at h
      cases h
      cases q
    · rw [upd_ne z] at h
      exact h
theorem ss_raise {c : Str} {Ca D fI : Addr} {ecs : List Str} {E : XK} {ta : TA} {ga : GA} (h : SA C W Γ ta ga [m]) (T : ExF C.K D fI Ca) (hm : C.mg c = some (.ref Ca)) (hc : c ∈ ecs) (hx : ∀ c d H', W c d H' → XO C.mg ecs E c d H') (q : m.rd = true := by rfl) :
    SS C W mr Γb Γ (tRaiseO C.K Ca D ta E) (gRaise c ga) Γ' := by
  intro F H σ ρ L Dn hs r k
  show ta σ H fun vs H1 => vs.length ≤ 1000 ∧ ∀ a, H1 a = none → spI C.K D (.ref a :: (vs ++ [])) (upd H1 a (exo a Ca none)) _ _
  refine h F H σ ρ L _ hs.ok r ?_
  unfold gRaise at k
  revert k
  cases ga ρ with
  | ex c d => exact fun k F1 H1 s1 s2 f1 => k F1 H1 s1 f1
  | stuck => exact fun k => k.elim
  | ok ds =>
    intro k F1 H1 vs s1 s2 e1 e2 r1
    cases vs with
    | nil => cases e2
    | cons x vs =>
      cases vs with
      | cons y vs => simp at e2
      | nil =>
        cases ds with
        | nil => cases e1
        | cons d ds =>
          cases ds with
          | cons d2 ds => simp at e1
          | nil =>
            have k : PS' C W mr Γb Γ' F H L Dn (if (DL.flat d).isSome = true then .ex c d else .stuck) := k
            split at k
            · rename_i hz
              obtain ⟨w, hw⟩ := Option.isSome_iff_exists.mp hz
              have r2 : Rep C F1 H1 Γ σ ρ ((m, d, x) :: L) := r1
              have ex := da_flat hw (r2.da q)
              subst ex
              refine ⟨by simp, fun a na => ⟨a, Ca, x, rfl, T.oc, T.mro, T.sub, T.sup, T.no, upd_same, fun dx ndx nea => ⟨rfl, dx, [("at", x)], upd_same, ?_, ?_, ?_⟩⟩⟩
              · rw [upd_ne nea, upd_same]
              · rw [upd_ne nea] at ndx
                exact ndx
              · rw [upd_ne nea] at ndx
                have eH : upd (L2.del (upd (upd (upd H1 a (exo a Ca none)) dx (exd dx [("at", x)])) a (exo a Ca (some dx))) a) dx (.xd [("at", x)]) = upd H1 dx (.xd [("at", x)]) := by
                  funext b
                  by_cases hb : b = dx
                  · rw [hb, upd_same, upd_same]
                  · rw [upd_ne hb, upd_ne hb]
                    by_cases ha : b = a
                    · rw [ha, del_same, na]
                    · rw [del_ne ha, upd_ne ha, upd_ne hb, upd_ne ha]
                rw [eH]
                exact hx _ _ _ (k F1 _ s1 (r2.fit.xd ndx)) hc Ca dx x hm hw upd_same
            · exact k.elim
/-! ### what a handler asks -/
/-- isinstance(error, X): error is what the handler holds, at a, of the class cls, its dict d -/
def rIsX (D fI : Addr) (K : PySem.W.Frag) (a : Addr) (cls : Value) (d : Option Addr) : List V → Hp → VK → Prop := fun xs H Q => ∃ (Ca dd : Addr) (c : V) (cv : Value) (b : Bool) (fs : List (Str × V)), cls = .ref Ca ∧ d = some dd ∧ ExF K D fI Ca ∧ xs = [.ref a, c] ∧ (∀ u, RelV c u → u = cv) ∧
  PySem.W.kitOne K (.ref Ca) cv = some b ∧ H dd = some (.xd fs) ∧ Q (.bl b) H
theorem ex_inst {X : Cx} {pins : List (Addr × Obj)} {σ : L2.St} {H : Hp} {s : Shared} {a Ca dd : Addr} {oe : Obj} {fs : List (Str × V)} (hok : HOk X.prog X.w H s.heap) (hg : s.heap.get? a = some oe) (hz : Zc (.ref Ca) (some dd) oe) (hf : ∃ vs, oe.data = .fields vs) (hd : H dd = some (.xd fs)) :
    ∃ (od : Obj) (mA : Str → Option Value), PySem.W.InstAt s.heap a oe Ca (some od) ∧ (∀ f, RelO (fs.lookup f) (mA f)) ∧ ∀ f, PySem.W.lookIn f od = some (mA f) := by
  obtain ⟨vs, hv⟩ := hf
  obtain ⟨mA, hns, hr⟩ : ObjOk X.prog X.w H s.heap dd (.xd fs) := hok dd _ hd
  obtain ⟨od, ho, hl⟩ := lookIn_ns hns
  have nc : PySem.W.notCls oe = true := by
    unfold PySem.W.notCls
    rw [hv] <;> rfl
  exact ⟨od, mA, ⟨hg, hz.1, nc, by rw [hz.2]; exact ho⟩, hr, hl⟩
theorem call_isX {X : Cx} {a D fI : Addr} {cls : Value} {d : Option Addr} {oe : Obj} {pn : List (Addr × Obj)} (hz : Zc cls d oe) (hf : ∃ vs, oe.data = .fields vs) : CallR (X.suite a ((a, oe) :: pn)) (.builtin "isinstance") (rIsX D fI X.K a cls d) := by
  intro pins s σ H xs us Q I r h
  obtain ⟨Ca, dd, c, cv, b, fs, e1, e2, T, e, hcv, hk, hd, q⟩ := h
  subst e1 e2 e
  cases r with
  | @cons _ ua _ ur ra rr =>
  cases rr with
  | @cons _ uc _ ur2 rc rn =>
  cases rn
  obtain rfl : ua = Value.ref a := ra
  obtain rfl := hcv _ rc
  have hg := (I.pin (a, oe) (List.mem_append_left _ List.mem_cons_self)).1
  obtain ⟨od, mA, J, _, _⟩ := ex_inst (X := X) (pins := pins) (σ := σ) I.hok hg hz hf hd
  have hcl : (PySem.W.clsIn X.K Ca).isSome = true := by
    obtain ⟨cd, e, _⟩ := PySem.W.any_some T.xf.hdC
    rw [e] <;> rfl
  exact PySem.W.kia_one (PySem.W.kitx_exc hcl T.xf.ga T.xf.gg T.xf.exC T.cla T.spe T.tak T.obj) I.kIn J hk (fun z => nomatch z) fun tk => ⟨.bl b, H, I.kept (t' := tk) fun _ _ z => z, rfl, q⟩
/-- the exception's dict stays -/
def KeepsX (C : Cxt) (dd : Addr) (v : V) : Prop := ∀ F H, Fit C F H → H dd = some (.xd [("at", v)])
def gIsX (b : Bool) : GE := fun _ => .ok (.bl b)
theorem se_isX {i : Nat} {a Ca dd D fI Xa : Addr} {b : Bool} {v : V} (T : ExF C.K D fI Ca) (hio : (i, V.ref a, Md.fr) ∈ C.io) (hF : KeepsX C dd v) (hk : PySem.W.kitOne C.K (.ref Ca) (.ref Xa) = some b) (q : m.rd = true := by rfl) :
    SE C W Γ (tCB (rIsX D fI C.K a (.ref Ca) (some dd)) (tCons (tVar i) (tCons (tC (.ref Xa)) tNil))) (gIsX b) m := by
  intro F H σ ρ L Q hL r k
  have h1 := (r.io _ hio).1
  refine ⟨.ref a, h1, ⟨Ca, dd, .ref Xa, .ref Xa, b, [("at", v)], rfl, rfl, T, rfl, fun u e => e, hk, hF _ _ r.fit, ?_⟩⟩
  exact k.flat r q rfl
/-- error.at -/
def tAtX (D fI : Addr) (K : PySem.W.Frag) (a : Addr) (cls : Value) (d : Option Addr) (te : TE) : TE := fun σ H Q => te σ H fun x H1 => ∃ (Ca dd : Addr) (fs : List (Str × V)) (v : V), x = .ref a ∧ cls = .ref Ca ∧ d = some dd ∧ ExF K D fI Ca ∧ H1 dd = some (.xd fs) ∧ fs.lookup ("at" : Str) = some v ∧ Q v H1
theorem pe_atX {X : Cx} {a D fI : Addr} {oe : Obj} {cls : Value} {d : Option Addr} {pn : List (Addr × Obj)} {e : Expr} {te : TE} {pos : Pos} (hz : Zc cls d oe) (hf : ∃ vs, oe.data = .fields vs) (he : PE (X.suite a ((a, oe) :: pn)) e te) (hb : attributeBase e "at" X.env (eval e X.env) = eval e X.env := by rfl) :
    PE (X.suite a ((a, oe) :: pn)) (.Attribute e "at" pos) (tAtX D fI X.K a cls d te) := by
  refine ⟨fun pins s σ H Q I h => attr_of hb (thn (he.run pins s σ H _ I h) fun u s1 z => ?_)⟩
  obtain ⟨x, H1, I1, rx, Ca, dd, fs, v, ex, e1, e2, T, hd, hl, q⟩ := z
  subst ex e1 e2
  obtain rfl : u = Value.ref a := rx
  have hg := (I1.pin (a, oe) (List.mem_append_left _ List.mem_cons_self)).1
  obtain ⟨od, mA, J, hr, hlk⟩ := ex_inst (X := X) (pins := pins) (σ := σ) I1.hok hg hz hf hd
  obtain ⟨u, hu, ru⟩ := RelO.some_of (v := v) (o := mA "at") (hl ▸ hr "at")
  exact HandSPX.exc_get I1.kIn J T.xf.ga T.xf.gg T.xf.exC (PySem.W.findObj_own T.xf.hdC T.no rfl (by rw [hlk, hu])) (handed_of ru) ⟨v, H1, I1.tok _, ru, q⟩
def gAt (d : DV) : GE := fun _ => .ok d
theorem se_at {i : Nat} {a Ca dd D fI : Addr} {v : V} (T : ExF C.K D fI Ca) (hio : (i, V.ref a, Md.fr) ∈ C.io) (hF : KeepsX C dd v) (hd : flat d = some v) (q : m.rd = true := by rfl) :
    SE C W Γ (tAtX D fI C.K a (.ref Ca) (some dd) (tVar i)) (gAt d) m := by
  intro F H σ ρ L Q hL r k
  have h1 := (r.io _ hio).1
  refine ⟨.ref a, h1, Ca, dd, [("at", v)], v, rfl, rfl, rfl, T, hF _ _ r.fit, by simp [List.lookup], ?_⟩
  exact k.flat r q hd
/-! ### try -/
theorem Takes.len {X : Cx} {W : WX} (t : Takes X W) : Takes X (fun c d σ H => σ.length = X.N.length → W c d σ H) := fun u s' ⟨a, B, sI, pins, σ, H, cls, d, e, I, nb, up, sky, na, os, ag, w⟩ =>
  t u s' ⟨a, B, sI, pins, σ, H, cls, d, e, I, nb, up, sky, na, os, ag, w I.len⟩
/-- the wish in a try's body, for any values of the names -/
abbrev anyS (n : Nat) (W : WX) : XK := fun cls d H => ∀ σ : L2.St, σ.length = n → W cls d σ H
theorem pass_try {X : Cx} {W : WX} {n : Nat} (t : Takes X W) (h : X.N.length = n) : Passes (L2.CX X.prog X.w) X (anyS n W) :=
  passes_call (W := fun c d σ H => σ.length = X.N.length → W c d σ H) (Takes.len t) fun cls d σ H k l => k σ (l.trans h)
def gTry (n : Nat) (gb : GS) (gh : Str → DV → GS) : GS := fun ρ => match gb ρ with
  | .ex c d => if (flat d).isSome = true then (match gh c d (List.replicate n none) with
    | .rt e ρ' => .rt e ρ'
    | _ => .stuck) else .stuck
  | o => o
def tTryX (K : PySem.W.Frag) (cw : Value) (n i : Nat) (tb : XK → TS) (ts : Addr → Value → Option Addr → TS) (Wout : WX) : TS := fun D σ H => tb (anyS n (wAs K cw i ts Wout D)) D σ H
theorem slots_any : ∀ (Γ : List Md) (σ : L2.St), σ.length = Γ.length → Slots C F H Γ σ (List.replicate Γ.length none) []
  | [], [], _ => rfl
  | m :: Γ, s :: σ, h => ⟨[], [], rfl, rfl, slots_any Γ σ (by simpa using h)⟩
  | [], _ :: _, h => by cases h
  | _ :: _, [], h => by cases h
theorem At.same {C C' : Cxt} (hK : C'.K = C.K) (hm : C'.mg = C.mg) (hB : C'.Bp = C.Bp) (h0 : ∀ a, C.F0 a = none → C'.F0 a = none) : ∀ {m : Md} {d : DV} {v : V} {fp : List Addr}, At C F H m d v fp → At C' F H m d v fp := by
  intro m
  induction m with
  | yg =>
    intro d v fp h
    unfold At at h ⊢
    rw [hK]
    exact ⟨h.1, DY.mono (Same.refl _) h0 _ _ h.2⟩
  | fr | bo | sc =>
    intro d v fp h
    unfold At at h ⊢
    first
      | (rw [hK, hm, hB]; exact h)
      | (rw [hK, hm]; exact h)
      | (rw [hK]; exact h)
  | pk m ih | po m ih | tu m ih =>
    intro d v fp h
    unfold At at h ⊢
    split at h
    · rename_i z
      rw [if_pos z]
      obtain ⟨a, vs, h1, h2, h3⟩ := h
      exact ⟨a, vs, h1, by first | (rw [hK, hm]; exact h2) | (rw [hK]; exact h2), h3.imp fun _ _ _ _ x => ih x⟩
    · rename_i z
      rw [if_neg z, hK, hm]
      exact h
  | own m ih | ob m ih =>
    intro d v fp h
    unfold At at h ⊢
    split at h
    · rename_i z
      rw [if_pos z]
      obtain ⟨a, vs, o, fc, h1, h2, h3, h4, h5, h6, h7⟩ := h
      exact ⟨a, vs, o, fc, h1, h2, by rw [hB]; exact h3, h4, by rw [hm]; exact h5, h6, h7.imp fun _ _ _ _ x => ih x⟩
    · rename_i z
      rw [if_neg z, hK, hm]
      exact h
theorem Slots.same {C C' : Cxt} (hK : C'.K = C.K) (hm : C'.mg = C.mg) (hB : C'.Bp = C.Bp) (h0 : ∀ a, C.F0 a = none → C'.F0 a = none) : ∀ {Γ : List Md} {σ : L2.St} {ρ : EnvD} {fp : List Addr}, Slots C F H Γ σ ρ fp → Slots C' F H Γ σ ρ fp
  | [], [], [], _, h => h
  | m :: Γ, s :: σ, r :: ρ, _, ⟨f1, f2, e, h1, h2⟩ => ⟨f1, f2, e, by
      cases r with
      | none => exact h1
      | some d =>
        obtain ⟨v, e1, e2⟩ := h1
        exact ⟨v, e1, At.same hK hm hB h0 e2⟩, Slots.same hK hm hB h0 h2⟩
  | [], [], _ :: _, _, h => h.elim
  | [], _ :: _, _, _, h => h.elim
  | _ :: _, [], _, _, h => h.elim
  | _ :: _, _ :: _, [], _, h => h.elim
theorem Exs.same {C C' : Cxt} (hK : C'.K = C.K) (hm : C'.mg = C.mg) (hB : C'.Bp = C.Bp) (h0 : ∀ a, C.F0 a = none → C'.F0 a = none) : ∀ {L : List Ent} {fp : List Addr}, Exs C F H L fp → Exs C' F H L fp
  | [], _, h => h
  | (_, _, _) :: _, _, ⟨f1, f2, e, h1, h2⟩ => ⟨f1, f2, e, At.same hK hm hB h0 h1, Exs.same hK hm hB h0 h2⟩
theorem ss_try {cw : Value} {n i : Nat} {ecs : List Str} {tb : XK → TS} {ts : Addr → Value → Option Addr → TS} {Wout : WX} {gb : GS} {gh : Str → DV → GS} {Γh : List Md} (hb : ∀ E, SS C (XO C.mg ecs E) mr Γb Γ (tb E) gb Γ')
    (hcl : ∀ c ∈ ecs, ∀ Ca, C.mg c = some (.ref Ca) → PySem.W.exmOne C.K (.ref Ca) cw = some true)
    (hh : ∀ (F0 : Hp) (c : Str) (d : DV) (v : V) (a Ca dd : Addr), c ∈ ecs → C.mg c = some (.ref Ca) → flat d = some v → KeepsX ⟨C.K, C.mg, C.Bp, F0, [(i, .ref a, .fr)]⟩ dd v → ∃ Γ2, SS ⟨C.K, C.mg, C.Bp, F0, [(i, .ref a, .fr)]⟩ W0 mr [] Γh (ts a (.ref Ca) (some dd)) (gh c d) Γ2)
    (hn : Γh.length = n) (hi : Γh[i]? = some .fr) (hio : C.io = []) : SS C W mr Γb Γ (tTryX C.K cw n i tb ts Wout) (gTry n gb gh) Γ' := by
  intro F H σ ρ L Dn hs r k
  refine hb (anyS n (wAs C.K cw i ts Wout Dn)) F H σ ρ L Dn hs r ?_
  unfold gTry at k
  revert k
  cases eb : gb ρ with
  | nx ρ' => exact fun k => k
  | rt d ρ' => exact fun k => k
  | bk ρ' => exact fun k => k
  | ct ρ' => exact fun k => k
  | stuck => exact fun k => k
  | ex c d =>
    intro k F1 H1 s1 f1 hc Ca dd v hm hv hd σ1 l1
    have k : PS' C W mr Γb Γ' F H L Dn (if (flat d).isSome = true then (match gh c d (List.replicate n none) with
      | .rt e ρ' => .rt e ρ'
      | _ => .stuck) else .stuck) := k
    rw [if_pos (by rw [hv]; rfl)] at k
    refine ⟨true, hcl c hc Ca hm, fun _ a na => ?_, fun z => nomatch z⟩
    have lΓ : σ.length = Γ.length := by
      obtain ⟨f1, f2, _, hS, _⟩ := r.own
      exact hS.len.1
    have sl : σ1.length = n := l1
    have key : ∃ F2, Same F1 F2 ∧ Same F2 H1 ∧ (∀ a, F2 a ≠ none → C.F0 a ≠ none ∨ C.Bp a = none ∨ ∃ o, C.Bp a = some o ∧ tupO o = true) ∧ (F2 dd = some (.xd [("at", v)]) ∨ C.Bp dd = some (.xd [("at", v)])) := by
      cases e : C.Bp dd with
      | some o =>
        have z := f1.bh _ _ e
        rw [hd] at z
        cases z
        exact ⟨F1, Same.refl _, f1.fh, f1.f0, .inr rfl⟩
      | none =>
        refine ⟨upd F1 dd (.xd [("at", v)]), fun b o h => ?_, fun b o h => ?_, fun b h => ?_, .inl upd_same⟩
        · by_cases hb : b = dd
          · subst hb
            have z := f1.fh _ _ h
            rw [hd] at z
            cases z
            exact upd_same
          · rw [upd_ne hb]
            exact h
        · by_cases hb : b = dd
          · subst hb
            rw [upd_same] at h
            cases h
            exact hd
          · rw [upd_ne hb] at h
            exact f1.fh _ _ h
        · by_cases hb : b = dd
          · subst hb
            exact .inr (.inl e)
          · rw [upd_ne hb] at h
            exact f1.f0 _ h
    obtain ⟨F2, s2, s3, f0, hk⟩ := key
    have hK : KeepsX ⟨C.K, C.mg, C.Bp, F2, [(i, .ref a, .fr)]⟩ dd v := fun F3 H3 f3 => by
      rcases hk with z | z
      · exact f3.fh _ _ (f3.ff _ _ z)
      · exact f3.bh _ _ z
    obtain ⟨Γ2, hss⟩ := hh F2 c d v a Ca dd hc hm hv hK
    have back : ∀ {F3 H3 : Hp}, Fit ⟨C.K, C.mg, C.Bp, F2, [(i, .ref a, .fr)]⟩ F3 H3 → Fit C F3 H3 := fun {F3 H3} f3 => by
      refine ⟨(f1.ff.trans s2).trans f3.ff, f3.fh, f3.bh, fun b h => ?_, f3.tp⟩
      rcases f3.f0 b h with z | z
      · exact f0 b z
      · exact .inr z
    have hil : i < σ1.length := by
      rw [sl, ← hn]
      exact (List.getElem?_eq_some_iff.mp hi).1
    have rep : Rep ⟨C.K, C.mg, C.Bp, F2, [(i, .ref a, .fr)]⟩ F2 H1 Γh (σ1.set i (some (.ref a))) (List.replicate n none) [] := by
      refine ⟨⟨Same.refl _, s3, f1.bh, fun b h => .inl h, fun b o h q => s2 _ _ (f1.tp b o h q)⟩, fun p hp => ?_, [], [], List.nodup_nil, ?_, rfl⟩
      · rcases List.mem_cons.mp hp with rfl | hp
        · exact ⟨List.getElem?_set_self hil, hi⟩
        · cases hp
      · rw [← hn]
        exact slots_any Γh _ (by rw [List.length_set, sl, hn])
    refine hss F2 H1 _ _ [] _ rfl rep ?_
    revert k
    cases gh c d (List.replicate n none) with
    | rt e ρ' =>
      intro k F3 H3 Γr σ3 L3 v3 s4 r3
      have r4 : Rep C F3 H3 Γr σ3 ρ' ((mr, e, v3) :: L3) := by
        obtain ⟨g1, g2, nd, hS, hE⟩ := r3.own
        refine ⟨back r3.fit, fun p hp => ?_, g1, g2, nd, Slots.same (C := ⟨C.K, C.mg, C.Bp, F2, [(i, .ref a, .fr)]⟩) (C' := C) rfl rfl rfl (fun a h => Same.free (f1.ff.trans s2) h) hS, Exs.same (C := ⟨C.K, C.mg, C.Bp, F2, [(i, .ref a, .fr)]⟩) (C' := C) rfl rfl rfl (fun a h => Same.free (f1.ff.trans s2) h) hE⟩
        rw [hio] at hp
        cases hp
      exact k F3 H3 Γr σ3 L3 v3 ((s1.trans s2).trans s4) r4
    | _ => exact fun k => k.elim
end
end DL
end

/-! text DX2 -/
section
set_option maxRecDepth 100000
set_option maxHeartbeats 4000000
/-! own exceptions, part 2: defs that let them out -/
namespace DL
open PySem PySem.Spec PyProof.Rows L2
section
/-- THE RULE of a def, whatever it lets out -/
theorem fnDX {P : Program} {w : World} {CX : CXT} {XW : XK → Wx} {K : PySem.W.Frag} {mg : Str → Option Value} {base : Heap} {k : Nat} {x qual : Str} {st : Stmt} {f : Addr} {fd : FuncData} {N ps : List Str} {pm Γl : List Md} {mr : Md} {g : GS}
    (Fn : FunD K x qual (defArgs st) (defBody st) (defScope st) [] [] f fd) (S : FnScope N ps (defScope st)) (hp : pm.length = ps.length) (hN : pm.length + Γl.length = N.length) (qr : mr.rd = true)
    (hb : ∀ (cdv : Value) (A : Around) (outer : List PySem.Env) (s : Shared) (H : Hp) (E : XK), Room k (A.deeper (envOfC qual (defScope st) s.heap.objs.size f cdv)) →
      ∃ t, PSs (cxOf CX P w K mg base N qual (defScope st) f cdv A outer s H E) (defBody st) t ∧ ∀ (Bp F0 : Hp), ∃ Γ', SS ⟨K, mg, Bp, F0, []⟩ (XW E) mr [] (pm ++ Γl) t g Γ') :
    FnOk P w K mg base CX (k + 1) f fd ps (spD K mg XW pm mr (runB g N.length)) := by
  refine Fn.ok S (fun vs H Q E h => ?_) fun cdv A outer s H vs Q E hr h => ?_
  · obtain ⟨F, ds, _, h2, _⟩ := h
    rw [h2.len.2, hp]
  · obtain ⟨F, ds, h1, h2, h3⟩ := h
    obtain ⟨t, ht, hs⟩ := hb cdv A outer s H E hr
    obtain ⟨l1, l2⟩ := h2.len
    obtain ⟨Γ', hs⟩ := hs H F
    refine ⟨t, ht, hs F H (start N vs) (startD N.length ds) [] _ rfl ?_ ?_⟩
    · refine ⟨h1, fun p hp => (by cases hp), [], [], List.nodup_nil, ?_, rfl⟩
      unfold L2.start startD
      rw [l1, l2, show N.length - pm.length = Γl.length by omega]
      exact slots_start Γl h2
    · unfold runB at h3
      revert h3
      cases g (startD N.length ds) with
      | nx ρ' => exact fun h3 F1 H1 σ1 s1 r1 => h3 F1 H1 .non [] s1 r1.fit (At.flat qr rfl) List.nodup_nil
      | rt d ρ' =>
        intro h3 F1 H1 Γr σ1 L1 v s1 r1
        obtain ⟨f1, f2, nd, a, g1, g2, e1, e2, e3⟩ := r1.own
        subst e1
        exact h3 F1 H1 v g1 s1 r1.fit e2 (nd.sublist (List.Sublist.trans (List.sublist_append_left _ _) (List.sublist_append_right _ _)))
      | bk ρ' => exact fun h => h.elim
      | ct ρ' => exact fun h => h.elim
      | ex c d => exact fun h3 F1 H1 s1 f1 => h3 F1 H1 s1 f1
      | stuck => exact fun h => h
theorem law_endX {XW : XK → Wx} {K : PySem.W.Frag} {mg : Str → Option Value} {f : List DV → Rs DV} {H : Hp} {a : Addr} {ns : List Int} {E : XK} (h : f [.lst (ns.map .int)] = .ok (.bl true)) (hS : SqL K H a (ns.map V.int)) : spD K mg XW [.sc] .fr f [.ref a] H (fun v _ => v = .bl true) E := by
  refine ⟨H, [.lst (ns.map .int)], ⟨Same.refl _, Same.refl _, Same.refl _, fun a h => .inl h, fun a o h _ => h⟩, ⟨⟨rfl, a, ns, rfl, rfl, hS⟩, trivial⟩, ?_⟩
  rw [h]
  exact fun F' H' v fp _ _ h _ => h.2
/-- what the text says of the root of the own exceptions: its class at D, its __init__ at fI -/
structure XIn (P : Program) (K : PySem.W.Frag) (mg : Str → Option Value) where
  D : Addr
  fI : Addr
  fd : FuncData
  ok : ∀ (w : World) (base : Heap) (k : Nat), FnOk P w K mg base C8.CX0 (k + 1) fI fd ["self", "at"] (spI K D)
  b : Binds K fd ["self", "at"] []
  t : PySem.W.typeIn K (.ref fI) = some (.type "function")
theorem kx_raise {X : Cx} {P : Program} {K : PySem.W.Frag} {mg : Str → Option Value} {j : Nat} {x : Str} {Ca : Addr} {p pos pos2 : Pos} {e : Expr} {es : List Expr} {ta : TA} {E : XK} (hK : X.K = K) (hP : X.prog = P) (hG : X.mg = mg) (I : XIn P K mg) (T : ExF K I.D I.fI Ca) (hr : Room j X.A) (h2 : 2 ≤ j)
    (hm : mg x = some (.ref Ca)) (hg : Gl X x) (hc : X.calm = true) (tk : Takes X (fun cls d _ H => E cls d H)) (ha : PA X (e :: es) ta) (hdb : (x == ("__debug__" : Str)) = false := by decide)
    (he : starEach (e :: es) X.env = (false, eval e X.env) :: starEach es X.env := by rfl) (hpl : (backTo pos (starEach es X.env)).any (·.1) = false := by rfl) :
    PS X (.Raise (some (.Call (.Name x p) (e :: es) [] pos)) none pos2) (tRaiseO K Ca I.D ta E) := by
  subst hK hP hG
  exact ps_raise (W := fun cls d _ H => E cls d H) hc tk (pmk_oex (k := 1) T.oc T.ini I.t (I.ok X.w X.base 0) (hr.mono h2) I.b .nil (fun _ _ _ _ _ _ _ h => h.elim) hg hm ha hdb he hpl)
/-- what a def of this context lets out -/
theorem px0 {P : Program} {w : World} {K : PySem.W.Frag} {mg : Str → Option Value} {base : Heap} {N : List Str} {qual : Str} {sc : Scope} {f : Addr} {cdv : Value} {A : Around} {outer : List PySem.Env} {s : Shared} {H : Hp} {E : XK} :
    Passes (L2.CX P w) (cxOf (L2.CX P w) P w K mg base N qual sc f cdv A outer s H E) E := passes_call (W := fun cls d _ H => E cls d H) (takes_of rfl rfl rfl rfl) fun _ _ _ _ h => h
theorem tk0 {P : Program} {w : World} {K : PySem.W.Frag} {mg : Str → Option Value} {base : Heap} {N : List Str} {qual : Str} {sc : Scope} {f : Addr} {cdv : Value} {A : Around} {outer : List PySem.Env} {s : Shared} {H : Hp} {E : XK} :
    Takes (cxOf (L2.CX P w) P w K mg base N qual sc f cdv A outer s H E) (fun cls d _ H => E cls d H) := takes_of rfl rfl rfl rfl
def EN : XK := fun _ _ _ => False
/-- nothing of it comes out -/
theorem passN {X : Cx} : Passes (L2.CX X.prog X.w) X EN := fun _ _ _ _ _ _ _ ⟨_, _, _, _, _, _, _, _, _, _, _, _, h⟩ => h.elim
/-- no exception is taken further -/
theorem takesN {X : Cx} : Takes X (fun _ _ _ _ => False) := fun _ _ ⟨_, _, _, _, _, _, _, _, _, _, _, _, _, _, _, _, h⟩ => h.elim
theorem hxN {mg : Str → Option Value} {ecs : List Str} : ∀ (c : Str) (d : DV) (H' : Hp), W0 c d H' → XO mg ecs EN c d H' := fun _ _ _ h => h.elim
theorem hxI {W : Wx} : ∀ (c : Str) (d : DV) (H' : Hp), W c d H' → W c d H' := fun _ _ _ h => h
def gNX (g : GE) : GE := fun ρ => match g ρ with
  | .ok d => .ok d
  | _ => .stuck
theorem se_nx {C : Cxt} {W : Wx} {Γ : List Md} {t : TE} {g : GE} {m : Md} (h : SE C W0 Γ t g m) : SE C W Γ t (gNX g) m := by
  intro F H σ ρ L Q hL r k
  refine h F H σ ρ L Q hL r ?_
  unfold gNX at k
  revert k
  cases g ρ with
  | ok d => exact fun k => k
  | ex c d => exact fun k => k.elim
  | stuck => exact fun k => k
theorem nio1 {i j : Nat} {v : V} {m : Md} (h : i ≠ j) : ∀ p ∈ [(i, v, m)], p.1 ≠ j := fun p hp => by
  rcases List.mem_cons.mp hp with rfl | hp
  · exact h
  · cases hp
theorem nth_mem {xs : List Str} {x : Str} (i : Nat) (h : xs[i]? = some x) : x ∈ xs := List.mem_of_getElem? h
/-- try: body / except x as n: suite, nothing taken further -/
theorem kx_try {X : Cx} {K : PySem.W.Frag} {x nm : Str} {cw : Value} {n i : Nat} {body suite : List Stmt} {b₀ : Stmt} {np pos pos' : Pos} {tb : XK → TS} {ts : Addr → Value → Option Addr → TS} (hK : X.K = K) (hs : X.stack = X.env :: X.outer) (hf : X.env.frame = some X.env.locals) (hN : X.N.Nodup) (hn : X.N.length = n)
    (hi : X.N[i]? = some nm) (hln : X.env.kindOf nm = some .local) (hg : Gl X x) (hd : (x == ("__debug__" : Str)) = false) (hm : X.mg x = some cw)
    (hb : ∀ (E : XK) (pn : List (Addr × Obj)) (xe : Value → Shared → Prop), Passes (L2.CX X.prog X.w) (X.tr pn xe) E → PassesOwn (model X.prog X.w) X.A X.env xe → PSs (X.tr pn xe) body (tb E))
    (hsu : ∀ (a : Addr) (oe : Obj) (cls : Value) (d : Option Addr) (pn : List (Addr × Obj)), Zc cls d oe → (∃ vs, oe.data = .fields vs) → PSs (X.suite a ((a, oe) :: pn)) (b₀ :: suite) (ts a cls d)) :
    PS X (.Try body [.ExceptHandler (some (.Name x np)) (some nm) (b₀ :: suite) pos'] [] [] pos) (tTryX K cw n i tb ts (fun _ _ _ _ => False)) := by
  subst hK
  exact ps_try_as (tb := fun W => tb (anyS n W)) hs hf hN hi hln ⟨hg, hd, .inl hm⟩ takesN (fun W pn xe t pw => hb (anyS n W) pn xe (pass_try t hn) pw) hsu
/-! a choice as a test -/
def tIfT (c a b : TT) : TT := fun σ H Q => c σ H fun z H1 => if z = true then a σ H1 Q else b σ H1 Q
theorem pt_ifT {X : Cx} {c a b : Expr} {tc ta tb : TT} {pos : Pos} (hc : PT X c tc) (ha : PT X a ta) (hb : PT X b tb) : PT X (.IfExp c a b pos) (tIfT tc ta tb) := by
  refine ⟨fun pins s σ H Q I h => ?_⟩
  unfold PySem.isTrue
  refine wpAny_bind (thn (hc.run pins s σ H _ I h) fun z s1 k => ?_)
  obtain ⟨H1, I1, q⟩ := k
  cases z with
  | true => exact ha.run pins s1 σ H1 Q I1 q
  | false => exact hb.run pins s1 σ H1 Q I1 q
def gIfT (c a b : GT) : GT := fun ρ => (c ρ).bind fun z => if z = true then a ρ else b ρ
theorem st_ifT {C : Cxt} {W : Wx} {Γ : List Md} {t ta tb : TT} {f ga gb : GT} (h : ST C W Γ t f) (ha : ST C W Γ ta ga) (hb : ST C W Γ tb gb) : ST C W Γ (tIfT t ta tb) (gIfT f ga gb) := by
  intro F H σ ρ L Q hL r k
  show t σ H fun c H1 => if c = true then ta σ H1 Q else tb σ H1 Q
  refine st_thenT h hL r k fun z F1 H1 s1 s2 r1 k1 => ?_
  cases z with
  | true => rw [if_pos rfl] at k1 ⊢; exact ha F1 H1 σ ρ L Q hL r1 k1
  | false => rw [if_neg Bool.false_ne_true] at k1 ⊢; exact hb F1 H1 σ ρ L Q hL r1 k1
end
end DL
end

/-! text DX3 -/
section
set_option maxRecDepth 100000
set_option maxHeartbeats 4000000
/-! own exceptions, part 3: what the written part must say, as tests -/
namespace DL
open PySem PySem.Spec PyProof.Rows L2
def eqV (o : Option (Option Value)) (v : Option (Option Value)) : Bool := decide (o = v)
theorem band {a b : Bool} (h : (a && b) = true) : a = true ∧ b = true := (Bool.and_eq_true _ _).mp h
def iniAt (K : PySem.W.Frag) (x : Str) : Addr := match PySem.W.findIn K (.ref (He.ga K x)) "__init__" with
  | some (some (.ref f)) => f
  | _ => 0
abbrev IniW : Type := Option (Str × Str × Arguments × FuncBody × Scope × Addr × Addr)
def iniW (K : PySem.W.Frag) (x : Str) : IniW := match K.lookup (iniAt K x) with
  | some ⟨_, _, .func fd, _⟩ => some (fd.name, fd.qualname, fd.params, fd.body, fd.scope, fd.globals, fd.builtins)
  | _ => none
/-- the code object of the file pf -/
def codF (K : PySem.W.Frag) (pf : Str) (cda : Addr) : Bool := match K.lookup cda with
  | some ⟨_, _, .fields vs, _⟩ => (match (vs[2]? : Option Value) with
    | some (.str file _) => pf == file
    | _ => false)
  | _ => false
/-- the cell of the class D -/
def celF (K : PySem.W.Frag) (D cc : Addr) : Bool := match K.lookup cc with
  | some ⟨_, _, .cell (some (.ref E)), _⟩ => decide (E = D)
  | _ => false
def noneV : Value → Bool
  | .none => true
  | _ => false
theorem noneV_ok {v : Value} (h : noneV v = true) : v = .none := by
  cases v <;> first | rfl | cases h
def iniB (x pf : Str) (K : PySem.W.Frag) : Bool := match K.lookup (iniAt K x) with
  | some ⟨_, _, .func fd, _⟩ => (match fd.closure, fd.code with
    | [(cn, cc)], .ref cda => noneV fd.defaults && (decide (cn = ("__class__" : Str)) && (PySem.W.codeIn K (.ref cda) fd.qualname && (codF K pf cda && (celF K (He.ga K x) cc && ((PySem.W.clsIn K (He.ga K x)).isSome && decide (PySem.W.typeIn K (.ref (iniAt K x)) = some (.type "function")))))))
    | _, _ => false)
  | _ => false
def thpB (K : PySem.W.Frag) : Bool := eqV (PySem.W.nsIn K cStatics "thirdparty.any") (some none)
theorem init_of {P : Program} {K : PySem.W.Frag} {mg : Str → Option Value} {x qual : Str} {params : Arguments} {ar : Arg} {p0 p1 p2 p3 p4 p5 p6 p7 p8 p9 : Pos}
    (e : iniW K x = (some (("__init__" : Str), qual, params, FuncBody.stmts (exBody p0 p1 p2 p3 p4 p5 p6 p7 p8 p9), exScope, mainGlobals, builtinsNs) : IniW)) (q : iniB x P.main.file K = true) (ha : thpB K = true) (hsu : mg "super" = none) (htop : (P.main.scope.names.lookup ("super" : Str)).isSome = false)
    (hpar : (params.posonlyargs ++ params.args).head? = some ar) (har : ar.arg = ("self" : Str))
    (hb : ∀ (kV doc pm ct : Value) (an : Option Addr) (cda cc : Addr) (u v : Value), bindArgs (PySem.W.ksFn "__init__" qual params (exBody p0 p1 p2 p3 p4 p5 p6 p7 p8 p9) exScope .none kV doc pm an (.ref cda) ct cc) ⟨[u, v], []⟩ = pure [(("self" : Str), u), (("at" : Str), v)])
    (hev : ∀ (L fI cda cc : Addr), ∃ pl : Sem Bool, eval (.Call (.Attribute (.Call (.Name "super" p0) [] [] p1) "__init__" p2) [.Name "at" p3] [] p4) (inEnv qual L fI (.ref cda) cc) = (do
        let ov ← attributeBase (.Call (.Name "super" p0) [] [] p1) "__init__" (inEnv qual L fI (.ref cda) cc) (eval (.Call (.Name "super" p0) [] [] p1) (inEnv qual L fI (.ref cda) cc))
        standAt p2.atName
        let (f, first) ← holding [ov] (getMethod ov "__init__" pl)
        callWith p4 f first (backTo p4 (starEach [.Name "at" p3] (inEnv qual L fI (.ref cda) cc))) [])) :
    ∃ I : XIn P K mg, I.D = He.ga K x ∧ I.fI = iniAt K x := by
  unfold iniB at q
  unfold iniW at e
  cases lk : K.lookup (iniAt K x) with
  | none => rw [lk] at q; cases q
  | some o =>
    obtain ⟨oc, od, dt, osl⟩ := o
    rw [lk] at q e
    cases dt with
    | func fd =>
      obtain ⟨n1, n2, n3, n4, n5, n6, n7, n8, n9, n10, n11, n12, n13, n14, n15⟩ := fd
      have e2 : (some (n1, n2, n3, n4, n5, n6, n15) : IniW) = some (("__init__" : Str), qual, params, FuncBody.stmts (exBody p0 p1 p2 p3 p4 p5 p6 p7 p8 p9), exScope, mainGlobals, builtinsNs) := e
      simp only [Option.some.injEq, Prod.mk.injEq] at e2
      obtain ⟨h1, h2, h3, h4, h5, h6, h7⟩ := e2
      subst h1 h2 h3 h4 h5 h6 h7
      dsimp only at q
      split at q
      · rename_i cn cc cda
        obtain ⟨q0, r0⟩ := band q
        have e0 := noneV_ok q0
        subst e0
        clear q
        obtain ⟨q1, q⟩ := band r0
        obtain ⟨q2, q⟩ := band q
        obtain ⟨q3, q⟩ := band q
        obtain ⟨q4, q⟩ := band q
        obtain ⟨q5, q6⟩ := band q
        have ecn := of_decide_eq_true q1
        subst ecn
        unfold codF at q3
        split at q3
        · rename_i ccl cdd vs ccs lc
          split at q3
          · rename_i file tf hvs
            unfold celF at q4
            split at q4
            · rename_i cl cld E csl lcc
              have eD := of_decide_eq_true q4
              subst eD
              obtain ⟨cdD, hD⟩ := Option.isSome_iff_exists.mp q5
              refine ⟨⟨_, iniAt K x, _, fun w base k => sup_init (k := k) lk q2 lc hvs q3 lcc hD hsu (of_decide_eq_true ha) htop hpar har (fun L => hev L _ _ _), ?_, of_decide_eq_true q6⟩, rfl, rfl⟩
              refine Binds.all fun us hl => ?_
              match us, hl with
              | [u, v], _ => exact hb _ _ _ _ _ _ _ u v
            · cases q4
          · cases q3
        · cases q3
      · cases q
    | _ => cases q
/-! the own exception classes -/
def excB (K : PySem.W.Frag) (C : Addr) : Bool := match K.lookup C with
  | some ⟨.type t, _, .cls cd, sl⟩ => decide (t = "type") && (match cd.mro, sl.toList with
    | .ref C' :: bm, [_, _, _, _, some (.builtin n), _] => decide (C' = C) && (decide (n = "ValueError.__new__") && (!cd.hasDel && (cd.hasDict && PySem.HandSPX.refsVE bm)))
    | _, _ => false)
  | _ => false
theorem excB_ok {K : PySem.W.Frag} {C : Addr} (h : excB K C = true) : ∃ nm q N bs bm sn sub ab col dd k0 k1 k2 k3 k5, K.lookup C = some (excClassObj nm q C N bs bm true sn sub ab col dd k0 k1 k2 k3 k5 "ValueError.__new__") ∧ PySem.HandSPX.refsVE bm = true := by
  unfold excB at h
  split at h
  · rename_i t dd cd sl lk
    obtain ⟨h1, h⟩ := band h
    have e1 := of_decide_eq_true h1
    subst e1
    split at h
    · rename_i C' bm k0 k1 k2 k3 n k5 hm hs
      obtain ⟨_, h⟩ := band h
      obtain ⟨h1, h⟩ := band h
      obtain ⟨h2, h⟩ := band h
      obtain ⟨h3, h⟩ := band h
      obtain ⟨h4, h5⟩ := band h
      have e1 := of_decide_eq_true h1
      have e2 := of_decide_eq_true h2
      subst e1 e2
      obtain ⟨c1, c2, c3, c4, c5, c6, c7, c8, c9, c10, c11⟩ := cd
      dsimp only at hm h3 h4
      subst hm h4
      have e3 : c11 = false := by simpa using h3
      subst e3
      obtain ⟨l⟩ := sl
      have e4 : l = _ := hs
      subst e4
      exact ⟨_, _, _, _, _, _, _, _, _, _, _, _, _, _, _, lk, h5⟩
    · cases h
  · cases h
def exfB (x c : Str) (K : PySem.W.Frag) : Bool := excB K (He.ga K c) && (eqV (PySem.W.findIn K (.ref (He.ga K c)) "__setattr__") (some (some (.builtin "object.__setattr__"))) && (decide (PySem.W.subIn K (.ref (He.ga K c)) (.type "BaseException") = some true) &&
  (decide (PySem.W.typeIn K (.ref (He.ga K c)) = some (.type "type")) && (PySem.W.keepIn K (.ref (He.ga K c)) && (decide (PySem.W.mroIn K (He.ga K c) (.ref (He.ga K x)) = some true) && (decide (PySem.W.subIn K (.ref (He.ga K c)) (.type "ValueError") = some true) &&
  (eqV (PySem.W.ks_superIn K (He.ga K c) (He.ga K x) "__init__") (some (some (.builtin "ValueError.__init__"))) && (eqV (PySem.W.findIn K (.ref (He.ga K c)) "at") (some none) && (eqV (PySem.W.findIn K (.ref (He.ga K c)) "__init__") (some (some (.ref (iniAt K x)))) &&
  (xfB K (He.ga K c) && (eqV (PySem.W.findIn K (.ref (He.ga K c)) "__class__") (some (some (.builtin "object.__class__"))) && (eqV (PySem.W.specialIn K (.builtin "object.__class__") "__get__") (some (some (.builtin "getset_descriptor.__get__"))) &&
  (decide (PySem.W.takesIn K (.builtin "object.__class__") = some true) && decide (PySem.W.mroIn K (He.ga K c) (.type "object") = some true))))))))))))))
theorem exfB_ok {K : PySem.W.Frag} {x c : Str} (h : exfB x c K = true) : ExF K (He.ga K x) (iniAt K x) (He.ga K c) := by
  obtain ⟨a1, h⟩ := band h
  obtain ⟨a2, h⟩ := band h
  obtain ⟨a3, h⟩ := band h
  obtain ⟨a4, h⟩ := band h
  obtain ⟨a5, h⟩ := band h
  obtain ⟨a6, h⟩ := band h
  obtain ⟨a7, h⟩ := band h
  obtain ⟨a8, h⟩ := band h
  obtain ⟨a9, h⟩ := band h
  obtain ⟨a10, h⟩ := band h
  obtain ⟨a11, h⟩ := band h
  obtain ⟨a12, h⟩ := band h
  obtain ⟨a13, h⟩ := band h
  obtain ⟨a14, a15⟩ := band h
  exact ⟨⟨excB_ok a1, of_decide_eq_true a2, of_decide_eq_true a3, of_decide_eq_true a4, a5⟩, of_decide_eq_true a6, of_decide_eq_true a7, of_decide_eq_true a8, of_decide_eq_true a9, of_decide_eq_true a10, xfB_ok a11, of_decide_eq_true a12, of_decide_eq_true a13, of_decide_eq_true a14, of_decide_eq_true a15⟩
def gloB (ecs : List Str) (K : PySem.W.Frag) : Bool := ecs.all fun c => (He.Fa.glo c).ok K
def clsB (x : Str) (ecs : List Str) (K : PySem.W.Frag) : Bool := ecs.all fun c => exfB x c K
def exmB (x : Str) (ecs : List Str) (K : PySem.W.Frag) : Bool := ecs.all fun c => decide (PySem.W.exmOne K (.ref (He.ga K c)) (.ref (He.ga K x)) = some true)
def isB (ecs : List Str) (K : PySem.W.Frag) : Bool := ecs.all fun c => ecs.all fun y => decide (PySem.W.kitOne K (.ref (He.ga K c)) (.ref (He.ga K y)) = some (decide (c = y)))
section
variable {K : PySem.W.Frag} {h : Heap} {mg : Str → Option Value} {x : Str} {ecs : List Str}
theorem glo_at (X : K.In h) (G : h.Ns mainGlobals mg) (q : gloB ecs K = true) {c : Str} (hc : c ∈ ecs) : mg c = some (.ref (He.ga K c)) := He.glo_ok X G (List.all_eq_true.mp q c hc)
theorem glo_eq (X : K.In h) (G : h.Ns mainGlobals mg) (q : gloB ecs K = true) {c : Str} (hc : c ∈ ecs) {Ca : Addr} (e : mg c = some (.ref Ca)) : Ca = He.ga K c := by
  rw [glo_at X G q hc] at e
  cases e
  rfl
theorem cls_at (X : K.In h) (G : h.Ns mainGlobals mg) (q : gloB ecs K = true) (q2 : clsB x ecs K = true) : ∀ c ∈ ecs, ∀ Ca, mg c = some (.ref Ca) → ExF K (He.ga K x) (iniAt K x) Ca := fun c hc Ca e => by
  rw [glo_eq X G q hc e]
  exact exfB_ok (List.all_eq_true.mp q2 c hc)
theorem exm_at (X : K.In h) (G : h.Ns mainGlobals mg) (q : gloB ecs K = true) (q2 : exmB x ecs K = true) : ∀ c ∈ ecs, ∀ Ca, mg c = some (.ref Ca) → PySem.W.exmOne K (.ref Ca) (.ref (He.ga K x)) = some true := fun c hc Ca e => by
  rw [glo_eq X G q hc e]
  exact of_decide_eq_true (List.all_eq_true.mp q2 c hc)
theorem is_at (X : K.In h) (G : h.Ns mainGlobals mg) (q : gloB ecs K = true) (q2 : isB ecs K = true) : ∀ c ∈ ecs, ∀ Ca, mg c = some (.ref Ca) → ∀ y ∈ ecs, ∀ Ya, mg y = some (.ref Ya) → PySem.W.kitOne K (.ref Ca) (.ref Ya) = some (decide (c = y)) := fun c hc Ca e y hy Ya e2 => by
  rw [glo_eq X G q hc e, glo_eq X G q hy e2]
  exact of_decide_eq_true (List.all_eq_true.mp (List.all_eq_true.mp q2 c hc) y hy)
end
end DL
end

/-! text DO0 -/
section
set_option maxRecDepth 100000
set_option maxHeartbeats 4000000
/-! objects: fields, making, methods; an object is frozen behind its __init__ -/
namespace DL
open PySem PySem.Spec PyProof.Rows L2
section
variable {C : Cxt} {W : Wx} {F F' H H' : Hp} {Γ Γb Γ' : List Md} {σ : L2.St} {ρ : EnvD} {L : List Ent} {m ma mb mr me mi : Md} {d : DV} {v : V} {Dn : Ends}
/-! ### a field is read -/
@[reducible] def Md.fld : Md → Bool
  | .fr => true
  | .bo => true
  | .po .fr => true
  | _ => false
theorem Rep.flds {c : Str} {ns : List Str} {ds : List DV} (r : Rep C F H Γ σ ρ ((m, .obj c ns ds, v) :: L)) (q : m.fld = true) :
    ∃ a Ca dx vs, v = .ref a ∧ C.mg c = some (.ref Ca) ∧ H a = some (.ins Ca dx (ns.zip vs)) ∧ ns.length = vs.length ∧ Alls (At C F H m.kid) ds vs [] := by
  obtain ⟨f, h⟩ := r.head
  match m, q, h with
  | .fr, _, h =>
    obtain ⟨a, vs, h1, ⟨Ca, dx, h2, h3, h4⟩, h5⟩ := h.2
    exact ⟨a, Ca, dx, vs, h1, h2, r.fit.fh _ _ h3, h4, h5.at fun d v x => ⟨rfl, x⟩⟩
  | .bo, _, h =>
    obtain ⟨a, vs, h1, ⟨Ca, dx, h2, h3, h4⟩, h5⟩ := h.2
    exact ⟨a, Ca, dx, vs, h1, h2, r.fit.bh _ _ h3, h4, Alls.of_das h5 fun d v x => ⟨rfl, x⟩⟩
  | .po .fr, _, h =>
    unfold At at h
    rw [if_pos (show isObj (.obj c ns ds) = true from rfl)] at h
    obtain ⟨a, vs, h1, h2, h3⟩ := h
    obtain ⟨Ca, dx, g1, g2, g3⟩ := h2
    exact ⟨a, Ca, dx, vs, h1, g1, g2, g3, h3.pt fun d v f x => ⟨rfl, x.2⟩⟩
theorem Alls.lookup {R : DV → V → List Addr → Prop} {f : Str} {d : DV} : ∀ {ns : List Str} {ds : List DV} {vs : List V}, Alls R ds vs [] → (ns.zip ds).lookup f = some d → ∃ v, (ns.zip vs).lookup f = some v ∧ R d v []
  | [], _, _, _, e => by simp at e
  | n :: ns, [], _, _, e => by simp at e
  | n :: ns, d1 :: ds, _, ⟨v, r, f1, f2, h1, h2, h3, h4⟩, e => by
    subst h1
    have e1 : f1 = [] := (List.append_eq_nil_iff.mp h2.symm).1
    have e2 : f2 = [] := (List.append_eq_nil_iff.mp h2.symm).2
    subst e1
    subst e2
    rw [List.zip_cons_cons, List.lookup_cons] at e ⊢
    cases z : f == n with
    | true =>
      rw [z] at e
      cases e
      exact ⟨v, rfl, h3⟩
    | false =>
      rw [z] at e
      exact Alls.lookup h4 e
def gFld (c f : Str) (g : GE) : GE := fun ρ => (g ρ).bind fun d => match d with
  | .obj c' ns ds => if c' = c then ofO ((ns.zip ds).lookup f) else .stuck
  | _ => .stuck
theorem se_fld {c f : Str} {Ca : Addr} {t : TE} {g : GE} (h : SE C W Γ t g m) (hm : C.mg c = some (.ref Ca)) (hc : Cls C.K Ca) (hn : NoAttr C.K Ca f) (q : m.fld = true := by rfl) : SE C W Γ (tFld C.K t f) (gFld c f g) m.kid := by
  intro F H σ ρ L Q hL r k
  show t σ H fun x H1 => ∃ a C' dx fs v, x = .ref a ∧ H1 a = some (.ins C' dx fs) ∧ Cls C.K C' ∧ NoAttr C.K C' f ∧ fs.lookup f = some v ∧ Q v H1
  refine se_then h hL r k fun d F1 H1 x s1 s2 r1 k1 => ?_
  cases d with
  | obj c' ns ds =>
    replace k1 : PE' C W Γ F1 H1 σ ρ L m.kid Q (if c' = c then ofO ((ns.zip ds).lookup f) else .stuck) := k1
    split at k1
    · rename_i hz
      subst hz
      obtain ⟨a, Cb, dx, vs, e1, e2, e3, e4, e5⟩ := r1.flds q
      rw [hm] at e2
      cases e2
      cases e : (ns.zip ds).lookup f with
      | none => rw [e] at k1; exact k1.elim
      | some d =>
        rw [e] at k1
        obtain ⟨v, l1, l2⟩ := e5.lookup e
        exact ⟨a, Ca, dx, _, v, e1, e3, hc, hn, l1, PE'.give r1.tail k1 l2⟩
    · exact k1.elim
  | _ => exact k1.elim
/-! ### self.f = e, in __init__ -/
theorem putF_new {f : Str} {y : V} : ∀ {ns : List Str} {vs : List V}, f ∉ ns → ns.length = vs.length → putF f y (ns.zip vs) = (ns ++ [f]).zip (vs ++ [y])
  | [], [], _, _ => rfl
  | n :: ns, w :: vs, h, e => by
    have h1 : n ≠ f := fun z => h (z ▸ List.mem_cons_self)
    rw [List.zip_cons_cons, List.cons_append, List.cons_append, List.zip_cons_cons]
    unfold putF
    rw [if_neg h1, putF_new (fun z => h (List.mem_cons_of_mem _ z)) (by simpa using e)]
  | [], _ :: _, _, e => by cases e
  | _ :: _, [], _, e => by cases e
theorem Rep.putF {c f : Str} {ns : List Str} {ds : List DV} {dy : DV} {y : V} (r : Rep C F H Γ σ ρ ((.fr, dy, y) :: (.ob .fr, .obj c ns ds, v) :: L)) (hΓ : Γ.all Md.stor = true) (hf : f ∉ ns) (hs : storL L) :
    ∃ p Ca dx vs, v = .ref p ∧ C.mg c = some (.ref Ca) ∧ H p = some (.ins Ca dx (ns.zip vs)) ∧ ns.length = vs.length ∧ Rep C F (L2.upd H p (.ins Ca dx (L2.putF f y (ns.zip vs)))) Γ σ ρ ((.ob .fr, .obj c (ns ++ [f]) (ds ++ [dy]), v) :: L) := by
  obtain ⟨f1, f2, nd, a, g1, g2, h1, h2, g3, g4, h3, h4, h5⟩ := r.own
  unfold At at h4
  rw [if_pos (show isObj (.obj c ns ds) = true from rfl)] at h4
  obtain ⟨p, vs, o, fc, e1, e2, e3, e4, e5, e6, e7⟩ := h4
  obtain ⟨Ca, dx, u1, u2, u3⟩ := e5
  subst u2
  subst e1
  subst e6
  subst h3
  subst h1
  obtain ⟨hg1, hda⟩ := h2
  subst hg1
  refine ⟨p, Ca, dx, vs, rfl, u1, e4, u3, ?_⟩
  rw [putF_new hf u3]
  generalize hN : (HO.ins Ca dx ((ns ++ [f]).zip (vs ++ [y])) : HO) = N
  have tN : tupO N = false := by rw [← hN]; rfl
  have np := List.nodup_append.mp nd
  rw [List.nil_append] at np
  have np3 := List.nodup_append.mp np.2.1
  have np4 := List.nodup_cons.mp np3.1
  have n1 : ∀ x ∈ f1, x ≠ p := fun x hx e => np.2.2 x hx p (List.mem_append_left _ List.mem_cons_self) e
  have n3 : ∀ x ∈ fc, x ≠ p := fun x hx e => np4.1 (e ▸ hx)
  have n4 : ∀ x ∈ g4, x ≠ p := fun x hx e => np3.2.2 p List.mem_cons_self x hx e.symm
  have o1 := a.owned
  have o4 := h5.owned
  have nm : ∀ x u, L2.upd H p N x = some u → tupO u = true → H x = some u := fun x u e t => by
    by_cases z : x = p
    · subst z; rw [upd_same] at e; cases e; rw [tN] at t; cases t
    · rw [upd_ne z] at e; exact e
  have lq : ∀ x u, x ≠ p → H x = some u → L2.upd H p N x = some u := fun x u z e => by rw [upd_ne z]; exact e
  have fit : Fit C F (L2.upd H p N) := ⟨r.fit.ff, fun x u e => lq x u (fun z => by rw [z, e2] at e; cases e) (r.fit.fh _ _ e), fun x u e => lq x u (fun z => by rw [z, e3] at e; cases e) (r.fit.bh _ _ e), r.fit.f0, fun x u e t => r.fit.tp x u (nm x u e t) t⟩
  have e8 : Alls (At C F (L2.upd H p N) .fr) ds vs fc := e7.imp fun d v f hf x => x
  refine ⟨fit, r.io, f1, (p :: (fc ++ [])) ++ g4, ?_, a.mono (Same.refl _) (fun x hx => (o1 x hx).1) (fun x hx => upd_ne (n1 x hx)) (.inl hΓ), p :: (fc ++ []), g4, rfl, ?_, h5.safe (Safe.of hs) (fun x hx => (o4 x hx).1) n4⟩
  · simpa using nd
  · unfold At
    rw [if_pos (show isObj (.obj c (ns ++ [f]) (ds ++ [dy])) = true from rfl)]
    refine ⟨p, vs ++ [y], N, fc ++ [], rfl, e2, e3, upd_same, ⟨Ca, dx, u1, hN.symm, ?_⟩, rfl, e8.append (Alls.one ⟨rfl, hda⟩)⟩
    rw [List.length_append, List.length_append, u3]
    rfl
def gSetF (i : Nat) (c f : Str) (g : GX) : GS := fun ρ => match g ρ with
  | .ok (y, ρ') => (match lk ρ' i with
    | .ok (.obj c' ns ds) => if c' = c ∧ (f ∉ ns ∧ ns.length < 1000) then .nx (ρ'.set i (some (.obj c' (ns ++ [f]) (ds ++ [y])))) else .stuck
    | _ => .stuck)
  | .ex c d => .ex c d
  | .stuck => .stuck
theorem ss_setF {i : Nat} {c f : Str} {Ca : Addr} {t : TE} {g : GX} (hi : Γ[i]? = some (.ob .fr)) (h : SX C W Γ t g .fr) (hm : C.mg c = some (.ref Ca)) (hc : Cls C.K Ca) (hn : NoAttr C.K Ca f) (hΓ : Γ.all Md.stor = true := by rfl) : SS C W mr Γb Γ (sFld C.K (tVar i) t f) (gSetF i c f g) Γ := by
  intro F H σ ρ L Dn hs r k
  show t σ H fun y H1 => ∃ x, σ[i]? = some (some x) ∧ ∃ a C' dx fs, x = .ref a ∧ H1 a = some (.ins C' dx fs) ∧ Cls C.K C' ∧ NoAttr C.K C' f ∧ fs.length < 1000 ∧ Dn.nx σ (L2.upd H1 a (.ins C' dx (L2.putF f y fs)))
  refine h F H σ ρ L _ hs r ?_
  unfold gSetF at k
  revert k
  cases g ρ with
  | ex c d => exact fun k => k
  | stuck => exact fun k => k
  | ok p =>
    obtain ⟨dy, ρ'⟩ := p
    intro k F1 H1 y s1 r1
    replace k : PS' C W mr Γb Γ F H L Dn (match lk ρ' i with | .ok (.obj c' ns ds) => if c' = c ∧ (f ∉ ns ∧ ns.length < 1000) then .nx (ρ'.set i (some (.obj c' (ns ++ [f]) (ds ++ [dy])))) else .stuck | _ => .stuck) := k
    rcases lk_cases ρ' i with ⟨d, g2, g3⟩ | g3
    · rw [g3] at k
      cases d with
      | obj c' ns ds =>
        replace k : PS' C W mr Γb Γ F H L Dn (if c' = c ∧ (f ∉ ns ∧ ns.length < 1000) then .nx (ρ'.set i (some (.obj c' (ns ++ [f]) (ds ++ [dy])))) else .stuck) := k
        split at k
        · rename_i hz
          obtain ⟨hz1, hz2, hz3⟩ := hz
          subst hz1
          obtain ⟨v, h2, r2⟩ := r1.take hi g2
          obtain ⟨p, Cb, dx, vs, z1, z2, z3, z4, r3⟩ := r2.swap.putF hΓ hz2 hs
          rw [hm] at z2
          cases z2
          refine ⟨v, h2, p, Ca, dx, _, z1, z3, hc, hn, ?_, ?_⟩
          · rw [List.length_zip, z4, Nat.min_self, ← z4]; exact hz3
          · have r4 := r3.back h2 (.inl hi)
            rw [set_set', set_id hi] at r4
            exact k F1 _ σ s1 r4
        · exact k.elim
      | _ => exact k.elim
    · rw [g3] at k
      exact k.elim
/-! ### __init__ -/
def hole (x : Addr) (H : Hp) : Hp := fun a => if a = x then none else H a
theorem hole_same {x : Addr} : Same (hole x H) H := fun a o e => by
  unfold hole at e
  split at e
  · cases e
  · exact e
abbrev CN (K : PySem.W.Frag) (mg : Str → Option Value) (x : Addr) (H F : Hp) : Cxt := ⟨K, mg, hole x H, F, [(0, .ref x, .ob .fr)]⟩
def PN (C : Cxt) (XW : Wx) (F : Hp) (x : Addr) (Q : VK) : Rs DV → Prop
  | .ok d => ∀ F' H', Same F F' → Fit C F' H' → DA C.K C.mg F' d (.ref x) → Q .non H'
  | .ex c d => ∀ F' H', Same F F' → Fit C F' H' → XW c d H'
  | .stuck => False
/-- an __init__'s promise by its mirror -/
def spN (K : PySem.W.Frag) (mg : Str → Option Value) (XW : XK → Wx) (c : Str) (pm : List Md) (f : List DV → Rs DV) : Sp := fun vs H Q E =>
  ∃ x Ca dx ws F ds, vs = .ref x :: ws ∧ mg c = some (.ref Ca) ∧ H x = some (.ins Ca dx []) ∧ F x = none ∧ Fit (CN K mg x H F) F H ∧ ArgsAt (CN K mg x H F) F H pm ds ws ∧ PN (CN K mg x H F) (XW E) F x Q (f ds)
def startN (c : Str) (n : Nat) (ds : List DV) : EnvD := some (.obj c [] []) :: startD n ds
def finN : Out → Rs DV
  | .nx (some d :: _) => if isObj d = true then .ok d else .stuck
  | .ex c d => .ex c d
  | _ => .stuck
/-- an __init__'s mirror by its body's, over n + 1 slots -/
def runN (c : Str) (g : GS) (n : Nat) (ds : List DV) : Rs DV := finN (g (startN c n ds))
theorem fnN {P : Program} {w : World} {CX : CXT} {XW : XK → Wx} {K : PySem.W.Frag} {mg : Str → Option Value} {base : Heap} {k : Nat} {x qual c : Str} {st : Stmt} {f : Addr} {fd : FuncData} {N ps : List Str} {pm Γl : List Md} {g : GS}
    (Fn : FunD K x qual (defArgs st) (defBody st) (defScope st) [] [] f fd) (S : FnScope N ps (defScope st)) (hp : pm.length + 1 = ps.length) (hN : pm.length + Γl.length + 1 = N.length)
    (hb : ∀ (cdv : Value) (A : Around) (outer : List PySem.Env) (s : Shared) (H : Hp) (E : XK), Room k (A.deeper (envOfC qual (defScope st) s.heap.objs.size f cdv)) →
      ∃ t, PSs (cxOf CX P w K mg base N qual (defScope st) f cdv A outer s H E) (defBody st) t ∧ ∀ (Bp F0 : Hp) (a : Addr), ∃ Γ', SS ⟨K, mg, Bp, F0, [(0, .ref a, .ob .fr)]⟩ (XW E) .fr [] (.ob .fr :: (pm ++ Γl)) t g Γ') :
    FnOk P w K mg base CX (k + 1) f fd ps (spN K mg XW c pm (runN c g (pm.length + Γl.length))) := by
  refine Fn.ok S (fun vs H Q E h => ?_) fun cdv A outer s H vs Q E hr h => ?_
  · obtain ⟨x, Ca, dx, ws, F, ds, e1, _, _, _, _, h2, _⟩ := h
    rw [e1, List.length_cons, h2.len.2, hp]
  · obtain ⟨x, Ca, dx, ws, F, ds, e1, hm, hx, hF, h1, h2, h3⟩ := h
    subst e1
    obtain ⟨t, ht, hs⟩ := hb cdv A outer s H E hr
    obtain ⟨l1, l2⟩ := h2.len
    obtain ⟨Γ', hs⟩ := hs (hole x H) F x
    refine ⟨t, ht, hs F H (start N (.ref x :: ws)) (startN c (pm.length + Γl.length) ds) [] _ rfl ?_ ?_⟩
    · have hst : start N (.ref x :: ws) = some (.ref x) :: (ws.map some ++ List.replicate Γl.length none) := by
        unfold L2.start
        rw [List.length_cons, l2, show N.length - (pm.length + 1) = Γl.length by omega]
        rfl
      refine ⟨h1, fun p hp => ?_, [x], [], (List.nodup_cons.mpr ⟨by simp, List.nodup_nil⟩), ?_, rfl⟩
      · rw [List.mem_singleton.mp hp, hst]
        exact ⟨rfl, rfl⟩
      · rw [hst]
        unfold startN startD
        rw [l1, show pm.length + Γl.length - pm.length = Γl.length by omega]
        refine ⟨[x], [], rfl, ⟨.ref x, rfl, ?_⟩, slots_start Γl h2⟩
        unfold At
        rw [if_pos (show isObj (.obj c [] []) = true from rfl)]
        exact ⟨x, [], _, [], rfl, hF, if_pos rfl, hx, ⟨Ca, dx, hm, rfl, rfl⟩, rfl, rfl, rfl⟩
    · unfold runN at h3
      revert h3
      cases g (startN c (pm.length + Γl.length) ds) with
      | nx ρ' =>
        intro h3 F1 H1 σ1 s1 r1
        cases ρ' with
        | nil => exact h3.elim
        | cons o ρ' =>
          cases o with
          | none => exact h3.elim
          | some d =>
            have h3 : PN (CN K mg x H F) (XW E) F x _ (if isObj d = true then .ok d else .stuck) := h3
            split at h3
            · rename_i hz
              have hio := r1.io (0, .ref x, .ob .fr) List.mem_cons_self
              obtain ⟨v, e1, r2⟩ := r1.take (i := 0) hio.2 rfl
              rw [hio.1] at e1
              cases e1
              obtain ⟨F2, s2, r3⟩ := r2.freeze rfl
              exact h3 F2 H1 (s1.trans s2) r3.fit r3.fr
            · exact h3.elim
      | rt d ρ' => exact fun h => h.elim
      | bk ρ' => exact fun h => h.elim
      | ct ρ' => exact fun h => h.elim
      | ex c d => exact fun h3 F1 H1 s1 f1 => h3 F1 H1 s1 f1
      | stuck => exact fun h => h
/-! ### C(..) -/
theorem ArgsAt.to {C C' : Cxt} {F H H' : Hp} (hK : C'.K = C.K) (hm : C'.mg = C.mg) (hB : Same C.Bp C'.Bp) : ∀ {ms pm : List Md} {ds : List DV} {vs : List V}, fitsL ms pm = true → ArgsAt C F H pm ds vs → ArgsAt C' F H' pm ds vs
  | [], [], [], [], _, _ => trivial
  | m :: ms, p :: pm, d :: ds, v :: vs, q, ⟨h1, h2⟩ => by
    obtain ⟨q1, q2⟩ := (Bool.and_eq_true _ _).mp (show (Md.fits m p && fitsL ms pm) = true from q)
    refine ⟨?_, ArgsAt.to hK hm hB q2 h2⟩
    cases p with
    | bo => exact ⟨rfl, by rw [hK, hm]; exact DA.mono hB _ _ h1.2⟩
    | fr => exact ⟨rfl, by rw [hK, hm]; exact h1.2⟩
    | sc => obtain ⟨_, a, ns, e1, e2, e3⟩ := h1; exact ⟨rfl, a, ns, e1, e2, by rw [hK]; exact e3⟩
    | yg => cases m <;> cases q1
    | pk m => cases m <;> cases q1
    | own m => cases m <;> cases q1
    | tu m => cases m <;> cases q1
    | ob m => cases m <;> cases q1
    | po m => cases m <;> cases q1
  | [], _ :: _, _, _, q, _ => by cases q
  | _ :: _, [], _, _, q, _ => by cases q
  | [], [], _ :: _, _, _, h => by cases ‹List V› <;> exact h.elim
  | [], [], [], _ :: _, _, h => h.elim
  | _ :: _, _ :: _, [], _, _, h => by cases ‹List V› <;> exact h.elim
  | _ :: _, _ :: _, _ :: _, [], _, h => h.elim
theorem se_make {XW : XK → Wx} {E : XK} {c : Str} {Ca : Addr} {pm ms : List Md} {f : List DV → Rs DV} {t : TA} {g : GA} (h : SA C W Γ t g ms) (hm : C.mg c = some (.ref Ca)) (hx : ∀ c d H', W c d H' → XW E c d H') (hf : fitsL ms pm = true := by rfl) :
    SE C W Γ (tMake Ca (spN C.K C.mg XW c pm f) [] E t) (gCB f g) .fr := by
  intro F H σ ρ L Q hL r k
  show t σ H fun vs H1 => ∀ x dx, H1 x = none → H1 dx = none → dx ≠ x → spN C.K C.mg XW c pm f (.ref x :: (vs ++ [])) (upd (upd H1 dx (.own x)) x (.ins Ca dx [])) (fun v H2 => v = .non ∧ Q (.ref x) H2) E
  refine sa_then h hL r k fun ds F1 H1 vs s1 s2 e1 e2 r1 k1 x dx nx nd ne => ?_
  rw [List.append_nil]
  obtain ⟨a1, r2⟩ := r1.args hf e1 e2
  generalize hN : upd (upd H1 dx (.own x)) x (.ins Ca dx []) = N
  have N1 : Same H1 N := fun a o e => by
    rw [← hN, upd_ne (ne_of_none e nx), upd_ne (ne_of_none e nd)]
    exact e
  have N2 : Same H1 (hole x N) := fun a o e => by
    unfold hole
    rw [if_neg (ne_of_none e nx)]
    exact N1 _ _ e
  have N3 : ∀ a o, N a = some o → tupO o = true → H1 a = some o := fun a o e q => by
    rw [← hN] at e
    by_cases z : a = x
    · subst z; rw [upd_same] at e; cases e; cases q
    · rw [upd_ne z] at e
      by_cases z2 : a = dx
      · subst z2; rw [upd_same] at e; cases e; cases q
      · rw [upd_ne z2] at e; exact e
  have N4 : N x = some (.ins Ca dx []) := by rw [← hN, upd_same]
  have fx : F1 x = none := Same.free r2.fit.fh nx
  have ft : Fit (CN C.K C.mg x N F1) F1 N := ⟨Same.refl _, r2.fit.fh.trans N1, hole_same, fun a h => .inl h, fun a o e q => r2.fit.tp a o (N3 a o e q) q⟩
  refine ⟨x, Ca, dx, vs, F1, ds, rfl, hm, N4, fx, ft, ArgsAt.to (C := C0 C.K C.mg H1 F1) (C' := CN C.K C.mg x N F1) rfl rfl N2 hf a1, ?_⟩
  have cf : ∀ {F2 H2 : Hp}, Fit (CN C.K C.mg x N F1) F2 H2 → Fit (C0 C.K C.mg H1 F1) F2 H2 := fun {F2 H2} f2 => ⟨f2.ff, f2.fh, N2.trans f2.bh, fun a ha => by
    rcases f2.f0 a ha with z | z | ⟨o, z1, z2⟩
    · exact .inl z
    · exact .inr (.inl (Same.free N2 z))
    · exact .inr (.inr ⟨o, N3 a o (hole_same _ _ z1) z2, z2⟩), f2.tp⟩
  revert k1
  cases f ds with
  | ok d => exact fun k1 F2 H2 s3 f2 h2 => ⟨rfl, k1 F2 H2 (.ref x) s3 (cf f2).bh (r2.call (m := .fr) rfl (cf f2) ⟨rfl, h2⟩ List.nodup_nil)⟩
  | ex c d => exact fun k1 F2 H2 s3 f2 => hx c d H2 (k1 F2 H2 s3 (cf f2).bh (r2.fit.lift (cf f2)))
  | stuck => exact fun k1 => k1
/-! ### o.m(..) -/
def gMeth (c m : Str) (f : List DV → Rs DV) (g : GE) (ga : GA) : GE := fun ρ => (g ρ).bind fun x => match x with
  | .obj c' ns ds => if c' = c ∧ m ∉ ns then (ga ρ).bind fun es => f (.obj c' ns ds :: es) else .stuck
  | _ => .stuck
theorem lookup_none {f : Str} : ∀ {ns : List Str} {vs : List V}, f ∉ ns → (ns.zip vs).lookup f = none
  | [], _, _ => rfl
  | _ :: _, [], _ => rfl
  | n :: ns, v :: vs, h => by
    have h1 : (f == n) = false := by
      cases z : f == n with
      | false => rfl
      | true => exact absurd (beq_iff_eq.mp z) fun e => h (e ▸ List.mem_cons_self)
    rw [List.zip_cons_cons, List.lookup_cons, h1]
    exact lookup_none fun z => h (List.mem_cons_of_mem _ z)
theorem se_meth {XW : XK → Wx} {E : XK} {c mn : Str} {Ca : Addr} {p : Md} {pm ms : List Md} {f : List DV → Rs DV} {te : TE} {g : GE} {t : TA} {ga : GA} (he : SE C W Γ te g m) (h : SA C W Γ t ga ms) (hm : C.mg c = some (.ref Ca)) (hx : ∀ c d H', W c d H' → XW E c d H')
    (qf : m.fld = true := by rfl) (hp : Md.fits m p = true := by rfl) (hf : fitsL ms pm = true := by rfl) (q : mr.fz = true := by rfl) : SE C W Γ (tMeth Ca mn (spD C.K C.mg XW (p :: pm) mr f) [] E te t) (gMeth c mn f g ga) mr := by
  intro F H σ ρ L Q hL r k
  show te σ H fun x H1 => ∃ a dx fs, x = .ref a ∧ H1 a = some (.ins Ca dx fs) ∧ fs.lookup mn = none ∧ t σ H1 fun vs H2 => spD C.K C.mg XW (p :: pm) mr f (x :: (vs ++ [])) H2 Q E
  refine se_then he hL r k fun d F1 H1 x s1 s2 r1 k1 => ?_
  cases d with
  | obj c' ns dd =>
    replace k1 : PE' C W Γ F1 H1 σ ρ L mr Q (if c' = c ∧ mn ∉ ns then (ga ρ).bind fun es => f (.obj c' ns dd :: es) else .stuck) := k1
    split at k1
    · rename_i hz
      obtain ⟨hz1, hz2⟩ := hz
      subst hz1
      obtain ⟨a, Cb, dx, vs, u1, u2, u3, u4, u5⟩ := r1.flds qf
      rw [hm] at u2
      cases u2
      refine ⟨a, dx, _, u1, u3, lookup_none hz2, ?_⟩
      have hok : (m.stor || m.free) = true := by
        match m, qf with
        | .fr, _ => rfl
        | .bo, _ => rfl
        | .po .fr, _ => rfl
      refine sa_then h (okL_cons hok hL) r1 k1 fun ds F2 H2 ws s3 s4 e1 e2 r2 k2 => ?_
      rw [List.append_nil]
      obtain ⟨a1, r3⟩ := r2.args hf e1 e2
      have a0 : ArgsAt (C0 C.K C.mg H2 F2) F2 H2 [p] [.obj c' ns dd] [x] := (Rep.args (ms := [m]) (pm := [p]) (ds := [.obj c' ns dd]) (vs := [x]) r3 (by show (Md.fits m p && true) = true; rw [hp]; rfl) rfl rfl).1
      refine ⟨F2, .obj c' ns dd :: ds, ⟨Same.refl _, r3.fit.fh, Same.refl _, fun a h => .inl h, r3.fit.tp⟩, ⟨a0.1, a1⟩, ?_⟩
      revert k2
      cases f (.obj c' ns dd :: ds) with
      | ok d => exact fun k2 F3 H3 v fp s5 f3 h3 nd => k2 F3 H3 v s5 f3.bh (r3.tail.call q f3 h3 nd)
      | ex c d => exact fun k2 F3 H3 s5 f3 => hx c d H3 (k2 F3 H3 s5 f3.bh (r3.tail.fit.lift f3))
      | stuck => exact fun k2 => k2
    · exact k1.elim
  | _ => exact k1.elim
end
end DL
end

/-! text DO1 -/
section
set_option maxRecDepth 100000
set_option maxHeartbeats 4000000
/-! zip of two lists; is False -/
namespace DL
open PySem PySem.Spec PyProof.Rows L2
section
variable {C : Cxt} {W : Wx} {F F' H H' : Hp} {Γ : List Md} {σ : L2.St} {ρ : EnvD} {L : List Ent} {m ma mb mr : Md} {d : DV} {v : V} {st : Bool}
def zipD (xs ys : List DV) : List DV := (xs.zip ys).map fun p => .tup [p.1, p.2]
def dZip : List DV → Rs (List DV)
  | [.lst xs, .lst ys] => .ok (zipD xs ys)
  | _ => .stuck
def gZip (g : GA) : GI := fun ρ => (g ρ).bind dZip
theorem zipD_len {xs ys : List DV} : (zipD xs ys).length = min xs.length ys.length := by
  unfold zipD
  rw [List.length_map, List.length_zip]
theorem zipD_get {xs ys : List DV} {i : Nat} {d : DV} (h : (zipD xs ys)[i]? = some d) : ∃ x y, xs[i]? = some x ∧ ys[i]? = some y ∧ d = .tup [x, y] := by
  unfold zipD at h
  rw [List.getElem?_map] at h
  cases e : (xs.zip ys)[i]? with
  | none => rw [e] at h; cases h
  | some p =>
    rw [e] at h
    cases h
    obtain ⟨h1, h2⟩ := List.getElem?_zip_eq_some.mp e
    exact ⟨p.1, p.2, h1, h2, rfl⟩
theorem si_zip {t : TA} {g : GA} (h : SA C W Γ t g [ma, mb]) (qa : ma.ixok = true := by rfl) (qb : mb.ixok = true := by rfl) (ka : ma.kid = .fr := by rfl) (kb : mb.kid = .fr := by rfl) (sa : ma.stor = true := by rfl) (sb : mb.stor = true := by rfl) : SI C W Γ (iZip C.K t) (gZip g) .fr st := by
  intro F H σ ρ L R hL r k
  show t σ H fun vs H1 => ∃ a b xs ys, vs = [.ref a, .ref b] ∧ SqL C.K H1 a xs ∧ SqL C.K H1 b ys ∧ R (Itz C.K a b) H1
  refine h F H σ ρ L _ hL r ?_
  unfold gZip at k
  revert k
  cases g ρ with
  | ex c d => exact fun k => k
  | stuck => exact fun k => k
  | ok ds =>
    intro k F1 H1 vs s1 s2 e1 e2 r1
    match vs, ds, e1, e2, r1, k with
    | [x, y], [dx, dy], _, _, r1, k =>
      have r1 : Rep C F1 H1 Γ σ ρ ((mb, dy, y) :: (ma, dx, x) :: L) := r1
      cases dx with
      | lst xs =>
        cases dy with
        | lst ys =>
          have k : PI' C W Γ F H σ ρ L .fr st R (.ok (zipD xs ys)) := k
          obtain ⟨a, vs, h1, h2, h3⟩ := r1.tail.items qa
          obtain ⟨b, ws, g1, g2, g3⟩ := r1.items qb
          refine ⟨a, b, vs, ws, by rw [h1, g1], h2.1, g2.1, ?_⟩
          refine k F1 H1 (Itz C.K a b) [(mb, .lst ys, y), (ma, .lst xs, x)] s1 s2 (fun _ => storL_cons sb (storL_cons sa rfl)) (fun e he => ?_) r1 ?_
          · rcases List.mem_cons.mp he with z | z
            · subst z; exact ⟨ixok_free qb, r1.free (ixok_free qb)⟩
            · obtain rfl := List.mem_singleton.mp z
              exact ⟨ixok_free qa, r1.tail.free (ixok_free qa)⟩
          · intro i F2 H2 Γ2 σ2 ρ2 L2 r2
            have r2 : Rep C F2 H2 Γ2 σ2 ρ2 ((mb, .lst ys, y) :: (ma, .lst xs, x) :: L2) := r2
            obtain ⟨a2, vs2, i1, i2, i3⟩ := r2.tail.items qa
            obtain ⟨b2, ws2, j1, j2, j3⟩ := r2.items qb
            have ea : a2 = a := by rw [h1] at i1; cases i1; rfl
            have eb : b2 = b := by rw [g1] at j1; cases j1; rfl
            subst ea
            subst eb
            refine ⟨fun hl => ⟨vs2, ws2, i2.1, j2.1, ?_⟩, fun d hd => ?_⟩
            · rw [zipD_len] at hl
              rw [← i3.length, ← j3.length]
              omega
            · obtain ⟨dx, dy, e1, e2, rfl⟩ := zipD_get hd
              obtain ⟨w1, u1, u2⟩ := i3.nil_get e1
              obtain ⟨w2, u3, u4⟩ := j3.nil_get e2
              refine ⟨⟨vs2, ws2, w1, w2, i2.1, j2.1, u1, u3⟩, fun z H' hy => ?_⟩
              obtain ⟨T, p, q, rfl, hT, rfl, y1, y2⟩ := hy
              have ep : p = w1 := Option.some.inj ((y1 vs2 i2.1).symm.trans u1)
              have eq : q = w2 := Option.some.inj ((y2 ws2 j2.1).symm.trans u3)
              subst ep
              subst eq
              rw [ka] at u2
              rw [kb] at u4
              have r3 : Rep C F2 H2 Γ2 σ2 ρ2 (entsA [.fr, .fr] [dx, dy] [p, q] ((mb, .lst ys, y) :: (ma, .lst xs, x) :: L2)) := (r2.cons0 u2).cons0 u4
              obtain ⟨sf, r4⟩ := r3.tuple (m := .fr) (by decide) rfl rfl hT
              obtain ⟨F3, s3, r5⟩ := r4.freeze rfl
              exact ⟨F3, sf.trans s3, same_upd hT, r5⟩
        | _ => exact k.elim
      | _ => cases dy <;> exact k.elim
/-! ### x is False -/
def dIsB : OpD := fun x y => match x, y with
  | .bl a, .bl b => .ok (.bl (decide (a = b)))
  | _, _ => .stuck
def dNotB : OpD := fun x y => match x, y with
  | .bl a, .bl b => .ok (.bl (!decide (a = b)))
  | _, _ => .stuck
abbrev rIsB : R2 := fun x y H Q => ∃ a b, x = .bl a ∧ y = .bl b ∧ Q (.bl (decide (a = b))) H
abbrev rNotB : R2 := fun x y H Q => ∃ a b, x = .bl a ∧ y = .bl b ∧ Q (.bl (!decide (a = b))) H
theorem op_isB {X : Cx} : OpR X (compareOp .Is) rIsB := by
  intro pins s σ H x y v u Q I rx ry h
  obtain ⟨a, b, rfl, rfl, q⟩ := h
  cases rx
  cases ry
  refine PyProof.Rows.is_bool (fin_bl I q ?_)
  cases a <;> cases b <;> rfl
theorem op_notB {X : Cx} : OpR X (compareOp .IsNot) rNotB := by
  intro pins s σ H x y v u Q I rx ry h
  obtain ⟨a, b, rfl, rfl, q⟩ := h
  cases rx
  cases ry
  refine PyProof.Rows.isnot_bool (fin_bl I q ?_)
  cases a <;> cases b <;> rfl
theorem os_isB (ra : ma.rd = true := by rfl) (rb : mb.rd = true := by rfl) : OpS C W rIsB dIsB ma mb .fr := by
  intro Γ F H σ ρ L x y dx dy Q r k
  obtain ⟨h1, h2⟩ := r.da2 ra rb
  cases dx with
  | bl a =>
    cases dy with
    | bl b => exact ⟨a, b, h1, h2, k.flat r.tail.tail rfl rfl⟩
    | _ => exact k.elim
  | _ => cases dy <;> exact k.elim
theorem os_notB (ra : ma.rd = true := by rfl) (rb : mb.rd = true := by rfl) : OpS C W rNotB dNotB ma mb .fr := by
  intro Γ F H σ ρ L x y dx dy Q r k
  obtain ⟨h1, h2⟩ := r.da2 ra rb
  cases dx with
  | bl a =>
    cases dy with
    | bl b => exact ⟨a, b, h1, h2, k.flat r.tail.tail rfl rfl⟩
    | _ => exact k.elim
  | _ => cases dy <;> exact k.elim
theorem nioL1 {is : List Nat} {v : V} {m : Md} (h : ∀ i ∈ is, (0 : Nat) ≠ i) : ∀ p ∈ [((0 : Nat), v, m)], ∀ i ∈ is, p.1 ≠ i := fun p hp i hi => by
  rw [List.mem_singleton.mp hp]
  exact h i hi
theorem nio21 {k i j : Nat} {v : V} {m : Md} (h1 : k ≠ i) (h2 : k ≠ j) : ∀ p ∈ [(k, v, m)], p.1 ≠ i ∧ p.1 ≠ j := fun p hp => by
  rw [List.mem_singleton.mp hp]
  exact ⟨h1, h2⟩
/-- an __init__ that lets nothing out -/
theorem fnN0 {P : Program} {w : World} {K : PySem.W.Frag} {mg : Str → Option Value} {base : Heap} {k : Nat} {x qual c : Str} {st : Stmt} {f : Addr} {fd : FuncData} {N ps : List Str} {pm Γl : List Md} {g : GS}
    (Fn : FunD K x qual (defArgs st) (defBody st) (defScope st) [] [] f fd) (S : FnScope N ps (defScope st)) (hp : pm.length + 1 = ps.length) (hN : pm.length + Γl.length + 1 = N.length)
    (hb : ∀ (cdv : Value) (A : Around) (outer : List PySem.Env) (s : Shared) (H : Hp) (E : XK), Room k (A.deeper (envOfC qual (defScope st) s.heap.objs.size f cdv)) →
      ∃ t, PSs (cxOf CX0 P w K mg base N qual (defScope st) f cdv A outer s H E).nox (defBody st) t ∧ ∀ (Bp F0 : Hp) (a : Addr), ∃ Γ', SS ⟨K, mg, Bp, F0, [(0, .ref a, .ob .fr)]⟩ W0 .fr [] (.ob .fr :: (pm ++ Γl)) t g Γ') :
    FnOk P w K mg base CX0 (k + 1) f fd ps (spN K mg X0 c pm (runN c g (pm.length + Γl.length))) := fnN Fn S hp hN fun cdv A outer s H E hr => by
  obtain ⟨t, ht, hs⟩ := hb cdv A outer s H E hr
  exact ⟨t, ht.nox, hs⟩
end
end DL
end

/-! text DG0 -/
section
set_option maxRecDepth 100000
set_option maxHeartbeats 4000000
/-! the law's own def, called by the caller itself: nothing is being shown there, so repr tells the text -/
namespace DL
open PySem PySem.Spec PyProof.Rows L2
/-- a def's promise to the caller alone -/
def FnTop (P : Program) (w : World) (K : PySem.W.Frag) (mg : Str → Option Value) (base : Heap) (CX : CXT) (f : Addr) (fd : FuncData) (ps : List Str) (sp : Sp) : Prop :=
  ∀ (s : Shared) (H : Hp) (args : Args) (us : List Value) (vs : List V) (Q : VK) (E : XK), Env0 P w K mg base callerA [] s H → BindsTo s fd args (ps.zip us) → Vals vs us → vs.length = ps.length → sp vs H Q E → codeAny (model P w) callerA (.call (.ref f) args) (CR CX [] P w H s Q E) s
theorem fn_top {CX : CXT} {P : Program} {w : World} {K : PySem.W.Frag} {mg : Str → Option Value} {base : Heap} {k : Nat} {x qual : Str} {params : Arguments} {body : List Stmt} {scope : Scope} {f : Addr} {fd : FuncData} {N ps : List Str} {sp : Sp}
    (Fn : FunD K x qual params body scope [] [] f fd) (S : FnScope N ps scope) (hr : Room (k + 1) callerA)
    (bd : ∀ (cdv : Value) (s : Shared) (H : Hp) (vs : List V) (Q : VK) (E : XK), Room k (callerA.deeper (envOfC qual scope s.heap.objs.size f cdv)) → sp vs H Q E →
      ∃ t, PSs (cxOf CX P w K mg base N qual scope f cdv callerA [] s H E) body t ∧ t { nx := fun _ H' => Q .non H', rt := Q } (start N vs) H) : FnTop P w K mg base CX f fd ps sp := by
  obtain ⟨oc, od, dV, kV, doc, pm, an, cdv, ct, osl, rfl, lk, hcd, _, _⟩ := Fn.ex
  intro s H args us vs Q E e0 bnd rv ln hsp
  have inn : K.In s.heap := e0.mod.kin.keeps fun b o q => (e0.bs b o q).1
  have nolim : s.heap.NoLimit := e0.mod.nolimit.keeps fun b o q => (e0.bs b o q).1
  have kd : ∀ y ∈ ps.zip us, scope.names.lookup y.1 = some .local ∨ (scope.names.lookup y.1 = some .cell ∧ ((cellsFrom (s.heap.objs.size + 1) scope.names []).lookup y.1).isSome = true) := fun y my => by
    obtain ⟨n, v⟩ := y
    exact (S.par n (List.of_mem_zip my).1).elim .inl fun z => .inr ⟨z, PySem.W.cellsFrom_some _ _ _ (.inl z)⟩
  refine codeAny_call_function hr.depth (inn _ _ lk) rfl S.co S.gen rfl (PySem.W.codeRec_of inn hcd) (bnd _ _ _ _ (wpAny_newFunctionEnv_cells S.kind kd fun env he s1 xc => ?_))
  cases he
  refine ⟨nolim.keeps xc.toInCall.keep, codeAny_func ?_⟩
  obtain ⟨t, ht, hq⟩ := bd cdv s H vs Q E (hr.deeper _) hsp
  have I0 : Inv (cxOf CX P w K mg base N qual scope f cdv callerA [] s H E) [] (start N vs) H s1 := inv_start S hr.hd e0 ln rv xc
  refine wpAny_mono (ht.run [] s1 (start N vs) H _ I0 hq) (fun fl s2 z => ?_) fun _ _ z => z
  cases fl with
  | ret u => obtain ⟨v, σ', H', J, r, q⟩ := z; exact ⟨v, H', J.os, J.bare, J.base, J.hok, r, q⟩
  | next => obtain ⟨σ', H', J, q⟩ := z; exact ⟨.non, H', J.os, J.bare, J.base, J.hok, (rfl : RelV V.non Value.none), q⟩
  | brk => obtain ⟨_, _, _, q⟩ := z; exact q.elim
  | cont => obtain ⟨_, _, _, q⟩ := z; exact q.elim
/-- the call of the law, from a heap of which only the script may be tracked -/
theorem top_from {P : Program} {w : World} {K : PySem.W.Frag} {mg mb : Str → Option Value} {CX : CXT} {fa a : Addr} {fd : FuncData} {x : Str} {sp : Sp} {s : Shared} {vs : List Value} {H : Hp}
    (kin : K.In s.heap) (nsg : s.heap.Ns mainGlobals mg) (nsb : s.heap.Ns builtinsNs mb) (boot : ∀ x : Str, x ≠ "__name__" → mb x = bootBuiltins x) (nl : s.heap.NoLimit) (gs : s.gens = #[])
    (sc : s.heap.get? a = some { cls := .type "list", data := .seq vs.toArray })
    (Fn : ∀ base : Heap, K.In base → base.Ns mainGlobals mg → FnTop P w K mg base CX fa fd [x] sp) (bnd : ∀ (s : Shared) (u : Value), BindsTo s fd ⟨[u], []⟩ [(x, u)])
    (pr : sp [.ref a] H (fun v _ => v = .bl true) fun _ _ _ => False) (no : ∀ H e s', CX [] H s (fun _ _ _ => False) e s' → False)
    (only : Only H) (hok : HOk P w H s.heap) (one : ∀ b, H b ≠ none → b = a) (apart : H a ≠ none → K.lookup a = none) :
    codeAny (model P w) callerA (.call (.ref fa) ⟨[.ref a], []⟩) (fun r s' => r = .ok (.ret (.bool true)) ∧ OldK s.heap s'.heap ∧ s'.os = s.os ∧ AllBare s'.gens) s := by
  have hid : ∀ {b : Addr} {o : Obj}, s.heap.get? b = some o → H b = none → (hidT s.heap H).get? b = some o := fun g n => hidT_get g n
  have dic : ∀ {b : Addr} {o : Obj} {es : Array DictEntry} {ep : Nat}, s.heap.get? b = some o → o.data = .dict es ep → H b = none := fun {b o es ep} g dt => by
    refine Classical.byContradiction fun z => ?_
    rw [one b z] at g
    cases sc.symm.trans g
    exact absurd dt fun z => by cases z
  have spc : ∀ {b : Addr} {m : Str → Option Value}, s.heap.Ns b m → (hidT s.heap H).Ns b m := fun {b m} ⟨o, es, ep, g, dt, r⟩ => ⟨o, es, ep, hid g (dic g dt), dt, r⟩
  have kin2 : K.In (hidT s.heap H) := fun b o g => hid (kin b o g) (Classical.byContradiction fun z => by
    have eb := one b z
    rw [eb] at z g
    rw [apart z] at g
    cases g)
  have md : Mod K mg (hidT s.heap H) := by
    obtain ⟨mc, l1, l2⟩ := nl
    exact ⟨kin2, spc nsg, ⟨mb, spc nsb, boot⟩, ⟨mc, spc l1, l2⟩⟩
  have env : Env0 P w K mg (hidT s.heap H) callerA [] s H := ⟨rfl, md, fun b o g => of_hidT g, Nat.le_of_eq (hidT_size _ _), trivial, fun b z => absurd (show b ∈ ([] : List Addr) from z) (by simp), hok, .of_eq gs⟩
  refine codeAny_mono (Fn _ kin2 (spc nsg) s H ⟨[.ref a], []⟩ [.ref a] [.ref a] _ _ env (bnd s (.ref a)) (.cons rfl .nil) rfl pr) fun r s2 z => ?_
  match r, z with
  | .error e, z => exact (no H e s2 z).elim
  | .ok (.ret u), ⟨v, H2, os, bare, un, hok2, rv, (q : v = .bl true)⟩ =>
    subst q
    have eu : u = Value.bool true := rv
    subst eu
    refine ⟨rfl, OldK.of_keep fun b o g => ?_, os, bare⟩
    cases hb : H b with
    | none => exact un.keep b o g hb (fun z => absurd (show b ∈ ([] : List Addr) from z) (by simp)) (by simp)
    | some u =>
      rcases only b with z | ⟨ob, xs, z⟩
      · rw [hb] at z; cases z
      · have g1 := (hok b _ z).1
        have g2 := (hok2 b _ (un.frzs b ob _ z)).1
        cases g.symm.trans g1
        exact g2
/-- the script's heap -/
def scH (a : Addr) (vs : List Value) (ns : List Int) : Hp := fun b => if b = a then some (.frz { cls := .type "list", data := .seq vs.toArray } (.lst (ns.map V.int))) else none
theorem top_call {P : Program} {w : World} {K : PySem.W.Frag} {mg mb : Str → Option Value} {CX : CXT} {fa a : Addr} {fd : FuncData} {x : Str} {sp : Sp} {s : Shared} {vs : List Value} {ns : List Int}
    (kin : K.In s.heap) (nsg : s.heap.Ns mainGlobals mg) (nsb : s.heap.Ns builtinsNs mb) (boot : ∀ x : Str, x ≠ "__name__" → mb x = bootBuiltins x) (nl : s.heap.NoLimit) (gs : s.gens = #[])
    (sc : s.heap.get? a = some { cls := .type "list", data := .seq vs.toArray }) (itz : IntsAre vs ns) (ln : ns.length ≤ sizeLine)
    (Fn : ∀ base : Heap, K.In base → base.Ns mainGlobals mg → FnTop P w K mg base CX fa fd [x] sp) (bnd : ∀ (s : Shared) (u : Value), BindsTo s fd ⟨[u], []⟩ [(x, u)])
    (pr : ∀ H : Hp, Only H → SqL K H a (ns.map V.int) → sp [.ref a] H (fun v _ => v = .bl true) fun _ _ _ => False) (no : ∀ H e s', CX [] H s (fun _ _ _ => False) e s' → False) :
    codeAny (model P w) callerA (.call (.ref fa) ⟨[.ref a], []⟩) (fun r s' => r = .ok (.ret (.bool true)) ∧ OldK s.heap s'.heap ∧ s'.os = s.os ∧ AllBare s'.gens) s := by
  have rv := vals_ints itz
  have le := itz.length
  cases lk : K.lookup a with
  | some o =>
    have g := kin a o lk
    cases sc.symm.trans g
    have on0 : Only (fun _ => none) := fun _ => .inl rfl
    have sq0 : SqL K (fun _ => none) a (ns.map V.int) := .inr ⟨_, vs.toArray, _, lk, rfl, rfl, rfl, by rw [List.size_toArray, le]; exact ln, by simpa using rv⟩
    exact top_from kin nsg nsb boot nl gs sc Fn bnd (pr _ on0 sq0) no on0 (fun b u z => by cases (show (none : Option HO) = some u from z)) (fun b z => absurd rfl z) fun z => absurd rfl z
  | none =>
    have at1 : scH a vs ns a = some (.frz { cls := .type "list", data := .seq vs.toArray } (.lst (ns.map V.int))) := if_pos rfl
    have at0 : ∀ b, b ≠ a → scH a vs ns b = none := fun b z => if_neg z
    have on1 : Only (scH a vs ns) := fun b => by
      by_cases z : b = a
      · subst z; exact .inr ⟨_, _, at1⟩
      · exact .inl (at0 b z)
    refine top_from kin nsg nsb boot nl gs sc Fn bnd (pr _ on1 (.inl (.inr ⟨_, at1⟩))) no on1 (fun b u z => ?_) (fun b z => Classical.byContradiction fun q => z (at0 b q)) fun _ => lk
    by_cases q : b = a
    · subst q
      cases at1.symm.trans z
      exact ⟨sc, by rw [List.length_map]; exact ln, vs, _, rv, sc⟩
    · rw [at0 b q] at z
      cases z
theorem walk_top {l : PySem.W.OpenLaw} {n : Nat} {q : Program} {loose : List Str} {XP : (Str → Option Value) → Heap → Prop} {YP : World → Heap → Prop} {d : DefRec} {CX : CXT} {x : Str}
    (most : l.most = some n) (fits : n ≤ sizeLine) (nodf : d.params.defaults = [])
    (F : ∀ (w : World) (mg : Str → Option Value) (fa : Addr) (h : Heap), YP w h → h.Ns mainGlobals mg → mg d.name = some (.ref fa) →
      ∃ (K : PySem.W.Frag) (fd : FuncData) (sp : Sp), K.In h ∧ (∀ (s : Shared) (u : Value), BindsTo s fd ⟨[u], []⟩ [(x, u)]) ∧
        (∀ (H : Hp) (a : Addr) (ns : List Int), ns.length ≤ n → Only H → SqL K H a (ns.map V.int) → sp [.ref a] H (fun v _ => v = .bl true) fun _ _ _ => False) ∧ ∀ base : Heap, K.In base → base.Ns mainGlobals mg → FnTop l.prog w K mg base CX fa fd [x] sp)
    (no : ∀ (H : Hp) (s : Shared) (e : Value) (s' : Shared), CX [] H s (fun _ _ _ => False) e s' → False) :
    PySem.W.WalkO q loose XP YP l.row.toRowW d [] (fun f vs => PySem.call f vs) := by
  refine Att.attach_call most nodf fun w s₀ s₁ mg mb fa o pm cd doc a vs ns G Y ho hd hcd gm sc itz len gs => ?_
  obtain ⟨K, fd, sp, kin, bnd, prm, Fn⟩ := F w mg fa _ Y G.T.g gm
  exact top_call kin G.T.g G.T.b G.T.builtins G.T.nolimit gs sc itz (Nat.le_trans len fits) Fn bnd (fun H a1 a2 => prm H a ns len a1 a2) fun H e s' => no H s₁ e s'
/-- THE RULE of the law's def, walked with the caller's eyes -/
theorem fnTop {P : Program} {w : World} {K : PySem.W.Frag} {mg : Str → Option Value} {base : Heap} {k : Nat} {x qual : Str} {st : Stmt} {f : Addr} {fd : FuncData} {N ps : List Str} {pm Γl : List Md} {mr : Md} {g : GS}
    (Fn : FunD K x qual (defArgs st) (defBody st) (defScope st) [] [] f fd) (S : FnScope N ps (defScope st)) (hr : Room (k + 1) callerA) (hN : pm.length + Γl.length = N.length) (qr : mr.rd = true)
    (hb : ∀ (cdv : Value) (A : Around) (outer : List PySem.Env) (s : Shared) (H : Hp) (E : XK), A.guards = some [] → Room k (A.deeper (envOfC qual (defScope st) s.heap.objs.size f cdv)) →
      ∃ t, PSs (cxOf CX0 P w K mg base N qual (defScope st) f cdv A outer s H E).nox (defBody st) t ∧ ∀ (Bp F0 : Hp), ∃ Γ', SS ⟨K, mg, Bp, F0, []⟩ W0 mr [] (pm ++ Γl) t g Γ') :
    FnTop P w K mg base CX0 f fd ps (spD K mg X0 pm mr (runB g N.length)) := by
  refine fn_top Fn S hr fun cdv s H vs Q E hr2 h => ?_
  obtain ⟨F, ds, h1, h2, h3⟩ := h
  obtain ⟨t, ht, hs⟩ := hb cdv callerA [] s H E rfl hr2
  obtain ⟨l1, l2⟩ := h2.len
  obtain ⟨Γ', hs⟩ := hs H F
  refine ⟨t, ht.nox, hs F H (start N vs) (startD N.length ds) [] _ rfl ?_ ?_⟩
  · refine ⟨h1, fun p hp => (by cases hp), [], [], List.nodup_nil, ?_, rfl⟩
    unfold L2.start startD
    rw [l1, l2, show N.length - pm.length = Γl.length by omega]
    exact slots_start Γl h2
  · unfold runB at h3
    revert h3
    cases g (startD N.length ds) with
    | nx ρ' => exact fun h3 F1 H1 σ1 s1 r1 => h3 F1 H1 .non [] s1 r1.fit (At.flat qr rfl) List.nodup_nil
    | rt d ρ' =>
      intro h3 F1 H1 Γr σ1 L1 v s1 r1
      obtain ⟨f1, f2, nd, a, g1, g2, e1, e2, e3⟩ := r1.own
      subst e1
      exact h3 F1 H1 v g1 s1 r1.fit e2 (nd.sublist (List.Sublist.trans (List.sublist_append_left _ _) (List.sublist_append_right _ _)))
    | bk ρ' => exact fun h => h.elim
    | ct ρ' => exact fun h => h.elim
    | ex c d => exact fun h3 F1 H1 s1 f1 => h3 F1 H1 s1 f1
    | stuck => exact fun h => h
/-! ### repr -/
def rRepr (K : PySem.W.Frag) : RA := fun xs H Q => ∃ (a : Addr) (d : PyData), xs = [.ref a] ∧ Dp K H (.ref a) d ∧ d.showable = true ∧ d.hasDict = false ∧ d.depth ≤ 20 ∧ d.shown.length ≤ sizeLine ∧ Q (.str d.shown) H
theorem cr_repr {X : Cx} (hg : X.A.guards = some []) (hu : X.A.units + 65 < cLine) : CallR X (.builtin "repr") (rRepr X.K) := by
  intro pins s σ H xs us Q I r h
  obtain ⟨a, d, rfl, hd, h1, h2, h3, h4, q⟩ := h
  obtain ⟨u, rfl, ru⟩ := vals1 r
  obtain ⟨as, rd⟩ := Dp.reads I d _ u hd ru
  obtain rfl : u = Value.ref a := ru
  exact repr_of_reads' rd h1 (PyData.noDict_hsm h2) hg (by omega) (fun _ _ e => e) (fun h' t tk hk => ⟨.str d.shown, H, I.kept (t' := tk) hk, ⟨_, rfl⟩, q⟩) h4
theorem kx_repr {X : Cx} {K : PySem.W.Frag} (h : X.K = K) (hg : X.A.guards = some []) (hu : X.A.units + 65 < cLine) : CallR X (.builtin "repr") (rRepr K) := by subst h; exact cr_repr hg hu
def isSq : DV → Bool
  | .tup _ => true
  | .lst _ => true
  | _ => false
def dRepr : OpA
  | [d] => if ((isSq d && eqok d 20) && ((py d).showable && decide ((py d).shown.length ≤ sizeLine))) = true then .ok (.str (py d).shown) else .stuck
  | _ => .stuck
theorem cs_repr {C : Cxt} {W : Wx} {m : Md} (q : m.rd = true := by rfl) : CallS C W (rRepr C.K) dRepr [m] .fr := call1 fun Γ F H σ ρ L x dx Q r k => by
  have k : PE' C W Γ F H σ ρ L .fr Q (if ((isSq dx && eqok dx 20) && ((py dx).showable && decide ((py dx).shown.length ≤ sizeLine))) = true then .ok (.str (py dx).shown) else .stuck) := k
  split at k
  · rename_i hz
    simp only [Bool.and_eq_true] at hz
    obtain ⟨⟨z1, z2⟩, z3, z4⟩ := hz
    have da := r.da q
    obtain ⟨e1, e2⟩ := eqok_ok dx 20 z2
    have dp := da_dp dx 20 x z2 da
    have hx : ∃ a, x = .ref a := by
      cases dx with
      | tup ds => obtain ⟨a, vs, h1, _⟩ := da; exact ⟨a, h1⟩
      | lst ds => obtain ⟨a, vs, h1, _⟩ := da; exact ⟨a, h1⟩
      | _ => cases z1
    obtain ⟨a, rfl⟩ := hx
    exact ⟨a, py dx, rfl, dp, z3, PyData.hasDict_of_canLay _ e1, e2, of_decide_eq_true z4, k.flat r.tail rfl rfl⟩
  · exact k.elim
end DL
end

/-! text DO2 -/
section
set_option maxRecDepth 100000
set_option maxHeartbeats 4000000
/-! an owned pair unpacked; append to a list that nobody names -/
namespace DL
open PySem PySem.Spec PyProof.Rows L2
section
variable {C : Cxt} {W : Wx} {F F' H H' : Hp} {Γ Γb Γ' : List Md} {σ : L2.St} {ρ : EnvD} {L : List Ent} {m ma mb mr : Md} {d : DV} {v : V} {Dn : Ends}
theorem Rep.untup2 {x y : DV} (r : Rep C F H Γ σ ρ ((.tu m, .tup [x, y], v) :: L)) : ∃ a vx vy, v = .ref a ∧ SqT C.K H a [vx, vy] ∧ Rep C F H Γ σ ρ ((m, y, vy) :: (m, x, vx) :: L) := by
  obtain ⟨f1, f2, nd, a, g1, g2, h1, h2, h3⟩ := r.own
  unfold At at h2
  rw [if_pos (show isTup (.tup [x, y]) = true from rfl)] at h2
  obtain ⟨p, vs, e1, e2, e3⟩ := h2
  obtain ⟨vx, r1, fx, fr, k1, k2, k3, k4⟩ := e3
  obtain ⟨vy, r2, fy, fe, j1, j2, j3, j4⟩ := k4
  obtain ⟨i1, i2⟩ := j4
  subst i1
  subst i2
  subst j1
  subst k1
  subst j2
  subst k2
  subst h1
  refine ⟨p, vx, vy, e1, same_sqt r.fit.fh e2, r.fit, r.io, f1, fy ++ (fx ++ g2), ?_, a, fy, fx ++ g2, rfl, j3, fx, g2, rfl, k3, h3⟩
  refine List.Perm.nodup (List.perm_iff_count.mpr fun b => ?_) nd
  simp only [List.count_append, List.append_nil]
  omega
def gtUp (i j : Nat) : GG := fun d ρ => match d with
  | .tup [x, y] => if (DL.flat x).isSome = true then .ok ((ρ.set i (some x)).set j (some y)) else .stuck
  | _ => .stuck
theorem nx_up {i j : Nat} : ∀ d ρ c e, gtUp i j d ρ ≠ .ex c e := fun d ρ c e h => by
  unfold gtUp at h
  split at h
  · split at h <;> cases h
  · cases h
theorem sn_up {i j : Nat} (hi : Γ[i]? = some .fr) (hj : Γ[j]? = some m) (hio : ∀ p ∈ C.io, ∀ k ∈ [i, j], p.1 ≠ k) (q : m.rd = true := by rfl) : SN C Γ (L2.gTup C.K 2 (L2.gCons (L2.gName i) (L2.gCons (L2.gName j) L2.gNil))) (gtUp i j) (.tu m) [i, j] := by
  intro F H σ ρ L d v ρ' Q r h k
  unfold gtUp at h
  split at h
  · rename_i x y
    split at h
    · rename_i hz
      cases h
      obtain ⟨w, hw⟩ := Option.isSome_iff_exists.mp hz
      obtain ⟨a, vx, vy, e1, e2, r1⟩ := r.untup2
      have r2 : Rep C F H Γ σ ρ ((.fr, x, vx) :: (m, y, vy) :: L) := r1.swap.turn fun f hf => ⟨[], List.nil_sublist _, by
        have e := da_flat hw (r1.swap.da q)
        subst e
        exact At.flat rfl hw⟩
      have li : i < Γ.length := (List.getElem?_eq_some_iff.mp hi).1
      have lj : j < Γ.length := (List.getElem?_eq_some_iff.mp hj).1
      have r3 := r2.put li fun p hp => hio p hp i List.mem_cons_self
      rw [set_id hi] at r3
      have r4 := r3.put lj fun p hp => hio p hp j (List.mem_cons_of_mem _ List.mem_cons_self)
      rw [set_id hj] at r4
      refine ⟨a, [vx, vy], e1, e2, rfl, vx, [vy], rfl, vy, [], rfl, rfl, k _ (fun us hu => ?_) r4⟩
      rw [wipe_set _ j _ us (hu j (List.mem_cons_of_mem _ List.mem_cons_self)), wipe_set _ i _ us (hu i List.mem_cons_self)]
    · cases h
  · cases h
/-! ### e.append(x), e a new list -/
def gAppT (ge gx : GE) : GX := fun ρ => (ge ρ).bind fun d => match d with
  | .lst ds => (gx ρ).bind fun _ => if ds.length < sizeLine then .ok (.non, ρ) else .stuck
  | _ => .stuck
theorem sx_appT {te tx : TE} {ge gx : GE} (he : SE C W Γ te ge (.own m)) (hx : SE C W Γ tx gx m) (hΓ : Γ.all Md.stor = true) (qm : m.stor = true := by rfl) : SX C W Γ (tBM C.K "list" rAppend te (tCons tx tNil)) (gAppT ge gx) .fr := by
  intro F H σ ρ L Q hs r k
  show te σ H fun v H1 => tyV C.K "list" v H1 ∧ tx σ H1 fun y H2 => rAppend v [y] H2 Q
  refine he F H σ ρ L _ hs.ok r ?_
  unfold gAppT at k
  revert k
  cases ge ρ with
  | ex c d => exact fun k F1 H1 s1 s2 f => k F1 H1 s1 f
  | stuck => exact fun k => k
  | ok d =>
    cases d with
    | lst ds =>
      intro k F1 H1 v s1 s2 r1
      have k : PX' C W Γ F H σ L .fr Q ((gx ρ).bind fun _ => if ds.length < sizeLine then .ok (.non, ρ) else .stuck) := k
      obtain ⟨f, hf⟩ := r1.head
      unfold At at hf
      rw [if_pos (show isLD (.lst ds) = true from rfl)] at hf
      obtain ⟨a, ws, o, fc, rfl, _, _, hH, hN, _, _⟩ := hf
      obtain rfl : o = .lst ws := hN
      refine ⟨.inl ⟨rfl, ws, .inl (.inl hH)⟩, ?_⟩
      refine hx F1 H1 σ ρ _ _ (storL_cons qm hs).ok r1 ?_
      revert k
      cases gx ρ with
      | ex c d => exact fun k F2 H2 s3 s4 f => k F2 H2 (s1.trans s3) f
      | stuck => exact fun k => k
      | ok dx =>
        intro k F2 H2 y s3 s4 r2
        have k : PX' C W Γ F H σ L .fr Q (if ds.length < sizeLine then .ok (.non, ρ) else .stuck) := k
        split at k
        · rename_i hz
          obtain ⟨p, vs, z1, z2, z3, z4, z5, z6⟩ := r2.push hΓ qm
          cases z1
          refine ⟨a, vs, y, rfl, rfl, z2, by rw [← z3]; exact hz, ?_⟩
          exact k F2 _ .non (s1.trans s3) ((z6 (Safe.of hs)).tail.cons0 ⟨rfl, rfl⟩)
        · exact k.elim
    | _ => exact fun k => k.elim
theorem kx_fld {X : Cx} {K : PySem.W.Frag} {e : Expr} {f : Str} {pos : Pos} {ta : TE} (h : X.K = K) (he : PE X e ta) (hb : attributeBase e f X.env (eval e X.env) = eval e X.env) : PE X (.Attribute e f pos) (tFld K ta f) := by
  subst h
  exact pe_fld he hb
end
end DL
end

/-! text DM0 -/
section
set_option maxRecDepth 100000
set_option maxHeartbeats 4000000
/-! changes in place below a name: at a path of constants, and through the name of a loop -/
namespace DL
open PySem PySem.Spec PyProof.Rows L2
section
variable {C : Cxt} {W : Wx} {F F' H H' : Hp} {Γ Γb Γ' : List Md} {σ : L2.St} {ρ : EnvD} {L : List Ent} {m ma mb mr M : Md} {d : DV} {v : V} {Dn : Ends} {i j : Nat} {t tb : TS} {f : DV → Rs DV}
abbrev SV := V → Hp → (Hp → Prop) → Prop
/-- a change in place of the value v, at one list node that it owns -/
def MutV (C : Cxt) (M : Md) (f : DV → Rs DV) (s : SV) : Prop :=
  ∀ F H d v fp d' Q, Fit C F H → At C F H M d v fp → fp.Nodup → f d = .ok d' →
    (∀ p ws fp', p ∈ fp → fp'.Sublist fp → At C F (L2.upd H p (.lst ws)) M d' v fp' → Q (L2.upd H p (.lst ws))) → s v H Q
theorem Alls.focus {R : DV → V → List Addr → Prop} {x : DV} : ∀ {ds : List DV} {vs : List V} {fp : List Addr} {j : Nat}, Alls R ds vs fp → ds[j]? = some x →
    ∃ w f1 fj f2, vs[j]? = some w ∧ fp = f1 ++ (fj ++ f2) ∧ R x w fj ∧ ∀ (R' : DV → V → List Addr → Prop) y g, (∀ d v f, (∀ a ∈ f, a ∈ f1 ++ f2) → R d v f → R' d v f) → R' y w g → Alls R' (ds.set j y) vs (f1 ++ (g ++ f2))
  | [], _, _, j, _, e => by simp at e
  | d :: ds, _, _, 0, ⟨w, r, f1, f2, h1, h2, h3, h4⟩, e => by
    subst h1
    simp at e
    subst e
    refine ⟨w, [], f1, f2, rfl, h2, h3, fun R' y g k hy => ⟨w, r, g, f2, rfl, rfl, hy, h4.imp fun d v f hf x => k d v f (fun a ha => ?_) x⟩⟩
    exact hf a ha
  | d :: ds, _, _, j + 1, ⟨w, r, f1, f2, h1, h2, h3, h4⟩, e => by
    subst h1
    obtain ⟨u, g1, gj, g2, e1, e2, e3, e4⟩ := Alls.focus h4 (j := j) (by simpa using e)
    refine ⟨u, f1 ++ g1, gj, g2, by simpa using e1, by rw [h2, e2, List.append_assoc], e3, fun R' y g k hy => ⟨w, r, f1, g1 ++ (g ++ g2), rfl, by rw [List.append_assoc], k d w f1 (fun a ha => ?_) h3, e4 R' y g (fun d v f hf x => k d v f (fun a ha => ?_) x) hy⟩⟩
    · rw [List.append_assoc]; exact List.mem_append_left _ ha
    · rw [List.append_assoc]; exact List.mem_append_right _ (hf a ha)
theorem At.upd {p : Addr} {o : HO} {f : List Addr} (q : m.stor = true) (h : At C F H m d v f) (k : ∀ a ∈ f, a ≠ p) : At C F (L2.upd H p o) m d v f := h.mono (Same.refl _) (fun z hz => (h.owned z hz).1) (fun z hz => upd_ne (k z hz)) (.inl q)
/-! ### at the node itself -/
def sApp (K : PySem.W.Frag) (w : V) : SV := fun v H Q => tyV K "list" v H ∧ rAppend v [w] H fun _ H' => Q H'
def fApp (c : DV) (d : DV) : Rs DV := match d with
  | .lst ds => if ds.length < sizeLine then .ok (.lst (ds ++ [c])) else .stuck
  | _ => .stuck
theorem mut_app {c : DV} {w : V} (hc : flat c = some w) (qm : m.stor = true := by rfl) (qr : m.rd = true := by rfl) : MutV C (.own m) (fApp c) (sApp C.K w) := by
  intro F H d v fp d' Q fit h nd e k
  cases d with
  | lst ds =>
    have e : (if ds.length < sizeLine then (Rs.ok (DV.lst (ds ++ [c])) : Rs DV) else .stuck) = .ok d' := e
    split at e
    · rename_i hz
      cases e
      unfold At at h
      rw [if_pos (show isLD (.lst ds) = true from rfl)] at h
      obtain ⟨a, vs, o, fc, rfl, h2, h3, h4, h5, rfl, h7⟩ := h
      obtain rfl : o = .lst vs := h5
      refine ⟨.inl ⟨rfl, vs, .inl (.inl h4)⟩, a, vs, w, rfl, rfl, h4, by rw [← h7.length]; exact hz, ?_⟩
      have np := List.nodup_cons.mp nd
      refine k a (vs ++ [w]) (a :: fc) List.mem_cons_self (List.Sublist.refl _) ?_
      unfold At
      rw [if_pos (show isLD (.lst (ds ++ [c])) = true from rfl)]
      refine ⟨a, vs ++ [w], _, fc, rfl, h2, h3, upd_same, rfl, rfl, ?_⟩
      have e8 := (h7.imp (R' := At C F (L2.upd H a (.lst (vs ++ [w]))) m) fun d v f hf x => x.upd qm fun z hz e => np.1 (e ▸ hf z hz)).append (Alls.one (At.flat (F := F) (H := L2.upd H a (.lst (vs ++ [w]))) (C := C) qr hc))
      rw [List.append_nil] at e8
      exact e8
    · cases e
  | _ => cases e
def sSet (k : Int) (w : V) : SV := fun v H Q => rSetL v (.int k) w H Q
theorem mut_set {k : Int} {c : DV} {w : V} (hc : flat c = some w) (qm : m.stor = true := by rfl) (qr : m.rd = true := by rfl) : MutV C (.own m) (fun d => setD d (.int k) c) (sSet k w) := by
  intro F H d v fp d' Q fit h nd e kk
  cases d with
  | lst ds =>
    have e : (match ixN ds.length k with | some j => (Rs.ok (DV.lst (ds.set j c)) : Rs DV) | none => .stuck) = .ok d' := e
    cases ej : ixN ds.length k with
    | none => rw [ej] at e; cases e
    | some j =>
      rw [ej] at e
      cases e
      unfold At at h
      rw [if_pos (show isLD (.lst ds) = true from rfl)] at h
      obtain ⟨a, vs, o, fc, rfl, h2, h3, h4, h5, rfl, h7⟩ := h
      obtain rfl : o = .lst vs := h5
      refine ⟨a, vs, k, j, rfl, rfl, h4, by rw [← h7.length]; exact ej, ?_⟩
      have np := List.nodup_cons.mp nd
      have e8 := h7.imp (R' := At C F (L2.upd H a (.lst (vs.set j w))) m) fun d v f hf x => x.upd qm fun z hz e => np.1 (e ▸ hf z hz)
      obtain ⟨x, y, z, i1, i2⟩ := Alls.put (At.flat (F := F) (H := L2.upd H a (.lst (vs.set j w))) (C := C) qr hc) e8 (ixN_lt ej)
      refine kk a (vs.set j w) (a :: (x ++ ([] ++ z))) List.mem_cons_self ?_ ?_
      · rw [i1]
        exact List.Sublist.cons₂ a (List.Sublist.append (List.Sublist.refl _) (List.Sublist.append (List.nil_sublist _) (List.Sublist.refl _)))
      · unfold At
        rw [if_pos (show isLD (.lst (ds.set j c)) = true from rfl)]
        exact ⟨a, vs.set j w, _, _, rfl, h2, h3, upd_same, rfl, rfl, i2⟩
  | _ => cases e
/-! ### below -/
def sIx (K : PySem.W.Frag) (k : Int) (s : SV) : SV := fun v H Q => rIxX K v (.int k) H fun w H1 => s w H1 Q
def fLst (k : Int) (f : DV → Rs DV) (d : DV) : Rs DV := match d with
  | .lst ds => (match ixN ds.length k with
    | some j => (match ds[j]? with
      | some x => (f x).bind fun y => .ok (.lst (ds.set j y))
      | none => .stuck)
    | none => .stuck)
  | _ => .stuck
def fTup (k : Int) (f : DV → Rs DV) (d : DV) : Rs DV := match d with
  | .tup ds => (match ixN ds.length k with
    | some j => (match ds[j]? with
      | some x => (f x).bind fun y => .ok (.tup (ds.set j y))
      | none => .stuck)
    | none => .stuck)
  | _ => .stuck
theorem fLst_ok {k : Int} {ds : List DV} {d' : DV} (h : fLst k f (DV.lst ds) = .ok d') : ∃ j x y, ixN ds.length k = some j ∧ ds[j]? = some x ∧ f x = .ok y ∧ d' = DV.lst (ds.set j y) := by
  have h : (match ixN ds.length k with | some j => (match ds[j]? with | some x => (f x).bind fun y => (Rs.ok (DV.lst (ds.set j y)) : Rs DV) | none => .stuck) | none => .stuck) = .ok d' := h
  cases ej : ixN ds.length k with
  | none => rw [ej] at h; cases h
  | some j =>
    rw [ej] at h
    have h : (match ds[j]? with | some x => (f x).bind fun y => (Rs.ok (DV.lst (ds.set j y)) : Rs DV) | none => .stuck) = .ok d' := h
    cases ex : ds[j]? with
    | none => rw [ex] at h; cases h
    | some x =>
      rw [ex] at h
      obtain ⟨y, e1, e2⟩ := bind_ok h
      cases e2
      exact ⟨j, x, y, rfl, ex, e1, rfl⟩
theorem fTup_ok {k : Int} {ds : List DV} {d' : DV} (h : fTup k f (DV.tup ds) = .ok d') : ∃ j x y, ixN ds.length k = some j ∧ ds[j]? = some x ∧ f x = .ok y ∧ d' = DV.tup (ds.set j y) := by
  have h : (match ixN ds.length k with | some j => (match ds[j]? with | some x => (f x).bind fun y => (Rs.ok (DV.tup (ds.set j y)) : Rs DV) | none => .stuck) | none => .stuck) = .ok d' := h
  cases ej : ixN ds.length k with
  | none => rw [ej] at h; cases h
  | some j =>
    rw [ej] at h
    have h : (match ds[j]? with | some x => (f x).bind fun y => (Rs.ok (DV.tup (ds.set j y)) : Rs DV) | none => .stuck) = .ok d' := h
    cases ex : ds[j]? with
    | none => rw [ex] at h; cases h
    | some x =>
      rw [ex] at h
      obtain ⟨y, e1, e2⟩ := bind_ok h
      cases e2
      exact ⟨j, x, y, rfl, ex, e1, rfl⟩
theorem atI_of {α : Type} {xs : List α} {k : Int} {j n : Nat} {x : α} (h : ixN n k = some j) (hn : xs.length = n) (e : xs[j]? = some x) : L2.atI xs k = some x := by
  subst hn
  unfold L2.atI
  rw [h]
  exact e
theorem mutK {s : SV} {fc : List Addr} {ds : List DV} {vs : List V} {n : Nat} {x y : DV} {w : V} {Q : Hp → Prop} (h : MutV C m f s) (qm : m.stor = true) (fit : Fit C F H) (ha : Alls (At C F H m) ds vs fc) (nd : fc.Nodup) (ex : ds[n]? = some x) (ey : f x = .ok y) (ew : vs[n]? = some w)
    (k : ∀ p ws fp', p ∈ fc → fp'.Sublist fc → Alls (At C F (L2.upd H p (.lst ws)) m) (ds.set n y) vs fp' → Q (L2.upd H p (.lst ws))) : s w H Q := by
  obtain ⟨u, f1, fj, f2, e1, e2, e3, e4⟩ := Alls.focus ha ex
  rw [ew] at e1
  cases e1
  subst e2
  have np := List.nodup_append.mp nd
  have np2 := List.nodup_append.mp np.2.1
  refine h F H x w fj y Q fit e3 np2.1 ey fun p ws fp' hp hs hA => ?_
  refine k p ws (f1 ++ (fp' ++ f2)) (List.mem_append_right _ (List.mem_append_left _ hp)) (List.Sublist.append (List.Sublist.refl _) (List.Sublist.append hs (List.Sublist.refl _))) (e4 _ y fp' (fun d v f hf x => x.upd qm fun z hz e => ?_) hA)
  subst e
  rcases List.mem_append.mp (hf z hz) with q | q
  · exact np.2.2 z q z (List.mem_append_left _ hp) rfl
  · exact np2.2.2 z hp z q rfl
theorem mut_tu {k : Int} {s : SV} (h : MutV C m f s) (q : m.stor = true := by rfl) : MutV C (.tu m) (fTup k f) (sIx C.K k s) := by
  intro F H d v fp d' Q fit hA nd e kk
  cases d with
  | tup ds =>
    obtain ⟨j, x, y, e1, e2, e3, rfl⟩ := fTup_ok e
    unfold At at hA
    rw [if_pos (show isTup (.tup ds) = true from rfl)] at hA
    obtain ⟨a, vs, rfl, h2, h3⟩ := hA
    obtain ⟨w, _, _, _, ew, _, _, _⟩ := Alls.focus h3 e2
    refine .inr ⟨a, vs, k, w, rfl, rfl, same_sqt fit.fh h2, atI_of e1 h3.length.symm ew, ?_⟩
    refine mutK h q fit h3 nd e2 e3 ew fun p ws fp' hp hs hB => kk p ws fp' hp hs ?_
    unfold At
    rw [if_pos (show isTup (.tup (ds.set j y)) = true from rfl)]
    exact ⟨a, vs, rfl, h2, hB⟩
  | _ => cases e
theorem mut_own {k : Int} {s : SV} (h : MutV C m f s) (q : m.stor = true := by rfl) : MutV C (.own m) (fLst k f) (sIx C.K k s) := by
  intro F H d v fp d' Q fit hA nd e kk
  cases d with
  | lst ds =>
    obtain ⟨j, x, y, e1, e2, e3, rfl⟩ := fLst_ok e
    unfold At at hA
    rw [if_pos (show isLD (.lst ds) = true from rfl)] at hA
    obtain ⟨a, vs, o, fc, rfl, h2, h3, h4, h5, rfl, h7⟩ := hA
    obtain rfl : o = .lst vs := h5
    obtain ⟨w, _, _, _, ew, _, _, _⟩ := Alls.focus h7 e2
    have np := List.nodup_cons.mp nd
    refine .inl ⟨a, vs, k, w, rfl, rfl, .inl (.inl h4), atI_of e1 h7.length.symm ew, ?_⟩
    refine mutK h q fit h7 np.2 e2 e3 ew fun p ws fp' hp hs hB => kk p ws (a :: fp') (List.mem_cons_of_mem _ hp) (List.Sublist.cons₂ a hs) ?_
    unfold At
    rw [if_pos (show isLD (.lst (ds.set j y)) = true from rfl)]
    have hpa : a ≠ p := fun z => np.1 (z ▸ hp)
    exact ⟨a, vs, _, fp', rfl, h2, h3, by rw [upd_ne hpa]; exact h4, rfl, rfl, hB⟩
  | _ => cases e
/-! ### the environment behind it -/
theorem Rep.change (r : Rep C F H Γ σ ρ ((M, d, v) :: L)) (hΓ : Γ.all Md.stor = true) (hs : storL L) : ∃ fp, fp.Nodup ∧ At C F H M d v fp ∧ ∀ p ws d' fp', p ∈ fp → fp'.Sublist fp → At C F (L2.upd H p (.lst ws)) M d' v fp' → Rep C F (L2.upd H p (.lst ws)) Γ σ ρ ((M, d', v) :: L) := by
  obtain ⟨f1, f2, nd, a, g1, g2, h1, h2, h3⟩ := r.own
  subst h1
  have np := List.nodup_append.mp nd
  have np2 := List.nodup_append.mp np.2.1
  refine ⟨g1, np2.1, h2, fun p ws d' fp' hp hq hA => ?_⟩
  have op := h2.owned p hp
  have nm : ∀ x u, L2.upd H p (.lst ws) x = some u → tupO u = true → H x = some u := fun x u e t => by
    by_cases z : x = p
    · subst z; rw [upd_same] at e; cases e; cases t
    · rw [upd_ne z] at e; exact e
  have lq : ∀ x u, x ≠ p → H x = some u → L2.upd H p (.lst ws) x = some u := fun x u z e => by rw [upd_ne z]; exact e
  have fit : Fit C F (L2.upd H p (.lst ws)) := ⟨r.fit.ff, fun x u e => lq x u (fun z => by rw [z, op.1] at e; cases e) (r.fit.fh _ _ e), fun x u e => lq x u (fun z => by rw [z, op.2.1] at e; cases e) (r.fit.bh _ _ e), r.fit.f0, fun x u e t => r.fit.tp x u (nm x u e t) t⟩
  have o1 := a.owned
  have o4 := h3.owned
  have n1 : ∀ x ∈ f1, x ≠ p := fun x hx e => np.2.2 x hx p (List.mem_append_left _ hp) e
  have n4 : ∀ x ∈ g2, x ≠ p := fun x hx e => np2.2.2 p hp x hx e.symm
  refine ⟨fit, r.io, f1, fp' ++ g2, ?_, a.mono (Same.refl _) (fun x hx => (o1 x hx).1) (fun x hx => upd_ne (n1 x hx)) (.inl hΓ), fp', g2, rfl, hA, h3.safe (Safe.of hs) (fun x hx => (o4 x hx).1) n4⟩
  exact nd.sublist (List.Sublist.append (List.Sublist.refl _) (List.Sublist.append hq (List.Sublist.refl _)))
def gMut (i : Nat) (f : DV → Rs DV) : GS := fun ρ => match lk ρ i with
  | .ok d => (match f d with
    | .ok d' => .nx (ρ.set i (some d'))
    | _ => .stuck)
  | _ => .stuck
theorem ss_mut {s : SV} (hi : Γ[i]? = some M) (h : MutV C M f s) (ht : ∀ (Dn : Ends) σ H v, σ[i]? = some (some v) → s v H (fun H' => Dn.nx σ H') → t Dn σ H) (hΓ : Γ.all Md.stor = true := by rfl) : SS C W mr Γb Γ t (gMut i f) Γ := by
  intro F H σ ρ L Dn hs r k
  unfold gMut at k
  rcases lk_cases ρ i with ⟨d, g2, g3⟩ | g3
  · rw [g3] at k
    have k : PS' C W mr Γb Γ F H L Dn (match f d with | .ok d' => .nx (ρ.set i (some d')) | _ => .stuck) := k
    cases e : f d with
    | ok d' =>
      rw [e] at k
      have k : PS' C W mr Γb Γ F H L Dn (.nx (ρ.set i (some d'))) := k
      obtain ⟨v, h1, r1⟩ := r.take hi g2
      obtain ⟨fp, nd, hA, ch⟩ := r1.change hΓ hs
      refine ht Dn σ H v h1 (h F H d v fp d' _ r.fit hA nd e fun p ws fp' hp hq hB => ?_)
      have r3 := (ch p ws d' fp' hp hq hB).back h1 (.inl hi)
      rw [set_set', set_id hi] at r3
      exact k F _ σ (Same.refl _) r3
    | ex c x => rw [e] at k; exact k.elim
    | stuck => rw [e] at k; exact k.elim
  · rw [g3] at k
    exact k.elim
theorem Rep.name {i : Nat} (r : Rep C F H Γ σ ρ L) (s : Option V) (hio : ∀ p ∈ C.io, p.1 ≠ i) : Rep C F H Γ (σ.set i s) (ρ.set i none) L := by
  obtain ⟨f1, f2, nd, a, b⟩ := r.own
  obtain ⟨x, y, z, h1, h2⟩ := a.drop (i := i) s
  subst h1
  refine ⟨r.fit, fun p hp => ⟨by rw [List.getElem?_set_ne (Ne.symm (hio p hp))]; exact (r.io p hp).1, (r.io p hp).2⟩, x ++ z, f2, ?_, h2, b⟩
  refine nd.sublist (List.Sublist.append (List.Sublist.append (List.Sublist.refl _) (List.sublist_append_right _ _)) (List.Sublist.refl _))
/-! ### for y in xs: y changed in place -/
def mapR (f : DV → Rs DV) : List DV → Rs (List DV)
  | [] => .ok []
  | d :: ds => (f d).bind fun x => (mapR f ds).bind fun r => .ok (x :: r)
def gForM (i j : Nat) (f : DV → Rs DV) : GS := fun ρ => match lk ρ i with
  | .ok (.lst ds) => (match mapR f ds with
    | .ok es => .nx ((ρ.set j none).set i (some (.lst es)))
    | _ => .stuck)
  | _ => .stuck
theorem mapR_get : ∀ {ds es : List DV} {n : Nat} {d : DV}, mapR f ds = .ok es → ds[n]? = some d → ∃ y, f d = .ok y ∧ es[n]? = some y
  | [], _, n, _, _, e => by simp at e
  | d :: ds, es, n, x, h, e => by
    unfold mapR at h
    obtain ⟨y, e1, h⟩ := bind_ok h
    obtain ⟨r, e2, h⟩ := bind_ok h
    cases h
    cases n with
    | zero => simp at e; subst e; exact ⟨y, e1, rfl⟩
    | succ n =>
      obtain ⟨z, e3, e4⟩ := mapR_get e2 (n := n) (by simpa using e)
      exact ⟨z, e3, by simpa using e4⟩
theorem mapR_len : ∀ {ds es : List DV}, mapR f ds = .ok es → es.length = ds.length
  | [], es, h => by cases h; rfl
  | d :: ds, es, h => by
    unfold mapR at h
    obtain ⟨y, e1, h⟩ := bind_ok h
    obtain ⟨r, e2, h⟩ := bind_ok h
    cases h
    rw [List.length_cons, List.length_cons, mapR_len e2]
theorem step_tk {ds es : List DV} {n : Nat} {y : DV} (hl : es.length = ds.length) (e : es[n]? = some y) : (es.take n ++ ds.drop n).set n y = es.take (n + 1) ++ ds.drop (n + 1) := by
  have hn := (List.getElem?_eq_some_iff.mp e).1
  refine List.ext_getElem? fun k => ?_
  rw [List.getElem?_set]
  split
  · rename_i h
    subst h
    rw [if_pos (by rw [List.length_append, List.length_take, List.length_drop]; omega), List.getElem?_append_left (by rw [List.length_take]; omega), List.getElem?_take, if_pos (by omega), e]
  · rename_i h
    by_cases hk : k < n
    · rw [List.getElem?_append_left (by rw [List.length_take]; omega), List.getElem?_append_left (by rw [List.length_take]; omega), List.getElem?_take, List.getElem?_take, if_pos hk, if_pos (by omega)]
    · rw [List.getElem?_append_right (by rw [List.length_take]; omega), List.getElem?_append_right (by rw [List.length_take]; omega), List.getElem?_drop, List.getElem?_drop, List.length_take, List.length_take]
      congr 1
      omega
theorem ss_forM {s : SV} (hi : Γ[i]? = some (.own m)) (hij : i ≠ j) (hjo : ∀ p ∈ C.io, p.1 ≠ j) (h : MutV C m f s) (hb : ∀ (Dn : Ends) σ H v, σ[j]? = some (some v) → s v H (fun H' => Dn.nx σ H') → tb Dn σ H) (hj : j < Γ.length) (qm : m.stor = true := by rfl) (hΓ : Γ.all Md.stor = true := by rfl) :
    SS C W mr Γb Γ (tFor (iSeq C.K (tVar i)) (L2.gName j) tb) (gForM i j f) Γ := by
  intro F H σ ρ L Dn hs r k
  unfold gForM at k
  rcases lk_cases ρ i with ⟨d, g2, g3⟩ | g3
  case inr => rw [g3] at k; exact k.elim
  rw [g3] at k
  cases d with
  | lst ds =>
    have k : PS' C W mr Γb Γ F H L Dn (match mapR f ds with | .ok es => .nx ((ρ.set j none).set i (some (.lst es))) | _ => .stuck) := k
    cases e : mapR f ds with
    | ex c x => rw [e] at k; exact k.elim
    | stuck => rw [e] at k; exact k.elim
    | ok es =>
      rw [e] at k
      have k : PS' C W mr Γb Γ F H L Dn (.nx ((ρ.set j none).set i (some (.lst es)))) := k
      have el := mapR_len e
      obtain ⟨v, h1, r1⟩ := r.take hi g2
      obtain ⟨fp, hA⟩ := r1.head
      unfold At at hA
      rw [if_pos (show isLD (.lst ds) = true from rfl)] at hA
      obtain ⟨a, vs, o, fc, rfl, h2, h3, h4, h5, h6, h7⟩ := hA
      obtain rfl : o = .lst vs := h5
      have lv : ds.length = vs.length := h7.length
      refine .inl ⟨.ref a, h1, a, rfl, ⟨vs, .inl (.inl h4)⟩, ?_⟩
      refine for_list (xs := vs) (fun n σ' H' => H' a = some (.lst vs) ∧ σ'[i]? = some (some (.ref a)) ∧ Rep C F H' Γ σ' ((ρ.set i none).set j none) ((.own m, .lst (es.take n ++ ds.drop n), .ref a) :: L)) ⟨h4, h1, ?_⟩ (fun n σ' H' _ p => .inl (.inl p.1)) (fun n x σ' H' hx p => ?_) (fun σ' H' p => ?_)
      · have sj : σ.set j (σ[j]?.getD none) = σ := by
          by_cases hl : j < σ.length
          · refine set_id ?_
            rw [List.getElem?_eq_getElem hl]
            rfl
          · exact List.set_eq_of_length_le (by omega)
        have r2 := r1.name (i := j) (σ[j]?.getD none) hjo
        rw [sj] at r2
        exact r2
      · obtain ⟨p1, p2, r3⟩ := p
        have hn : n < ds.length := by rw [lv]; exact (List.getElem?_eq_some_iff.mp hx).1
        obtain ⟨y, ey, ez⟩ := mapR_get e (List.getElem?_eq_getElem hn)
        have r4 := r3.name (i := j) (some x) hjo
        rw [set_set'] at r4
        have hsj : (σ'.set j (some x))[j]? = some (some x) := by
          have : j < σ'.length := by
            obtain ⟨q1, q2, _, qa, _⟩ := r3.own
            rw [qa.len.1]
            exact hj
          rw [List.getElem?_set_self this]
        refine hb _ _ _ x hsj ?_
        obtain ⟨fp, nd, hA, ch⟩ := r4.change hΓ hs
        have hA2 := hA
        unfold At at hA
        rw [if_pos (show isLD (.lst (es.take n ++ ds.drop n)) = true from rfl)] at hA
        obtain ⟨a2, vs2, o, fc, q1, q2, q3, q4, q5, q6, q7⟩ := hA
        cases q1
        obtain rfl : o = .lst vs2 := q5
        rw [p1] at q4
        cases q4
        subst q6
        have np := List.nodup_cons.mp nd
        have ex : (es.take n ++ ds.drop n)[n]? = some ds[n] := by
          rw [List.getElem?_append_right (by rw [List.length_take]; omega), List.getElem?_drop, List.length_take]
          rw [show n + (n - min n es.length) = n by omega]
          exact List.getElem?_eq_getElem hn
        refine mutK h qm r4.fit q7 np.2 ex ey hx fun p ws fp' hp hq hB => ?_
        have hpa : a ≠ p := fun z => np.1 (z ▸ hp)
        refine ⟨by rw [upd_ne hpa]; exact p1, ?_, ?_⟩
        · rw [List.getElem?_set_ne (Ne.symm hij)]
          exact p2
        · rw [← step_tk el ez]
          refine ch p ws _ (a :: fp') (List.mem_cons_of_mem _ hp) (List.Sublist.cons₂ a hq) ?_
          unfold At
          rw [if_pos (show isLD (.lst ((es.take n ++ ds.drop n).set n y)) = true from rfl)]
          exact ⟨a, vs, _, fp', rfl, q2, q3, by rw [upd_ne hpa]; exact p1, rfl, rfl, hB⟩
      · obtain ⟨p1, p2, r3⟩ := p
        rw [← lv, List.drop_length, List.append_nil, ← el, List.take_length] at r3
        have r4 := r3.back p2 (.inl hi)
        rw [set_id hi] at r4
        have e9 : ((ρ.set i none).set j none).set i (some (.lst es)) = (ρ.set j none).set i (some (.lst es)) := by
          rw [List.set_comm _ _ (by omega), set_set', List.set_comm _ _ (by omega)]
        rw [e9] at r4
        exact k F H' σ' (Same.refl _) r4
  | _ => exact k.elim
/-! ### frozen behind a statement -/
theorem Rep.late {i : Nat} {F' : Hp} (r : Rep C F H Γ σ ρ L) (e1 : Γ[i]? = some m) (q : m.fz = true) (hio : ∀ p ∈ C.io, p.1 ≠ i) : ∃ F', Same F F' ∧ Rep C F' H (Γ.set i .fr) σ ρ L := by
  rcases lk_cases ρ i with ⟨d, g2, _⟩ | g3
  · obtain ⟨v, F', h1, h2, h3⟩ := r.share e1 g2 q hio
    exact ⟨F', h2, h3.tail⟩
  · refine ⟨F, Same.refl _, r.fit, fun p hp => ⟨(r.io p hp).1, by rw [List.getElem?_set_ne (Ne.symm (hio p hp))]; exact (r.io p hp).2⟩, ?_⟩
    obtain ⟨f1, f2, nd, a, b⟩ := r.own
    refine ⟨f1, f2, nd, ?_, b⟩
    have key : ∀ {Γ : List Md} {σ : L2.St} {ρ : EnvD} {fp : List Addr} {i : Nat}, Slots C F H Γ σ ρ fp → lk ρ i = .stuck → Slots C F H (Γ.set i .fr) σ ρ fp := by
      intro Γ
      induction Γ with
      | nil => intro σ ρ fp i h _; exact h
      | cons m1 Γ ih =>
        intro σ ρ fp i h z
        cases σ with
        | nil => cases h
        | cons s1 σ =>
          cases ρ with
          | nil => cases h
          | cons r1 ρ =>
            obtain ⟨f1, f2, h1, h2, h3⟩ := h
            cases i with
            | zero =>
              cases r1 with
              | none => exact ⟨f1, f2, h1, h2, h3⟩
              | some d => cases z
            | succ i => exact ⟨f1, f2, h1, h2, ih h3 z⟩
    exact key a g3
theorem ss_frz {g : GS} (h : SS C W mr Γb Γ t g Γ') (hi : Γ'[i]? = some m) (hio : ∀ p ∈ C.io, p.1 ≠ i) (q : m.fz = true := by rfl) : SS C W mr Γb Γ t g (Γ'.set i .fr) := by
  intro F H σ ρ L Dn hs r k
  refine h F H σ ρ L Dn hs r ?_
  revert k
  cases g ρ with
  | nx ρ' =>
    intro k F1 H1 σ1 s1 r1
    obtain ⟨F2, s2, r2⟩ := r1.late (F' := F1) hi q hio
    exact k F2 H1 σ1 (s1.trans s2) r2
  | _ => exact fun k => k
/-! ### a list of flat data, read in any mode -/
def gFlatK (g : GE) : GE := fun ρ => (g ρ).bind fun d => match d with
  | .lst ds => if (flats ds).isSome = true then .ok (.lst ds) else .stuck
  | d => if (DL.flat d).isSome = true then .ok d else .stuck
theorem flats_alls : ∀ {ds : List DV} {vs ws : List V}, flats ds = some ws → DAs C.K C.mg H ds vs → m.rd = true → Alls (At C F H m) ds vs []
  | [], _, _, _, h, _ => ⟨h, rfl⟩
  | d :: ds, _, ws, e, ⟨w, r, h1, h2, h3⟩, q => by
    unfold flats at e
    cases e1 : DL.flat d with
    | none => rw [e1] at e; simp at e
    | some u =>
      cases e2 : flats ds with
      | none => rw [e1, e2] at e; simp at e
      | some us =>
        have z := da_flat e1 h2
        subst z
        exact ⟨_, r, [], [], h1, rfl, At.flat q e1, flats_alls e2 h3 q⟩
theorem se_flatK {t : TE} {g : GE} (h : SE C W Γ t g ma) (q : ma.rd = true := by rfl) (qm : m.rd = true := by rfl) : SE C W Γ t (gFlatK g) (.pk m) := by
  intro F H σ ρ L Q hL r k
  unfold gFlatK at k
  refine se_then h hL r k fun d F1 H1 x s1 s2 r1 k1 => ?_
  have fl : ∀ d, (∀ ds, d ≠ .lst ds) → PE' C W Γ F1 H1 σ ρ L (.pk m) Q (if (DL.flat d).isSome = true then .ok d else .stuck) → Rep C F1 H1 Γ σ ρ ((ma, d, x) :: L) → Q x H1 := by
    intro d _ k1 r1
    split at k1
    · rename_i hz
      obtain ⟨w, hw⟩ := Option.isSome_iff_exists.mp hz
      have e := da_flat hw (r1.da q)
      subst e
      exact k1.flat r1.tail qm hw
    · exact k1.elim
  cases d with
  | lst ds =>
    have k1 : PE' C W Γ F1 H1 σ ρ L (.pk m) Q (if (flats ds).isSome = true then .ok (.lst ds) else .stuck) := k1
    split at k1
    · rename_i hz
      obtain ⟨ws, hw⟩ := Option.isSome_iff_exists.mp hz
      obtain ⟨a, vs, rfl, h2, h3⟩ := r1.da q
      refine k1.give r1.tail ?_
      unfold At
      rw [if_pos (show isLD (.lst ds) = true from rfl)]
      exact ⟨a, vs, rfl, h2, flats_alls hw h3 qm⟩
    · exact k1.elim
  | non => exact fl _ (fun _ => by rintro ⟨⟩) k1 r1
  | bl b => exact fl _ (fun _ => by rintro ⟨⟩) k1 r1
  | int b => exact fl _ (fun _ => by rintro ⟨⟩) k1 r1
  | str b => exact fl _ (fun _ => by rintro ⟨⟩) k1 r1
  | tup b => exact fl _ (fun _ => by rintro ⟨⟩) k1 r1
  | dct b c => exact fl _ (fun _ => by rintro ⟨⟩) k1 r1
  | obj b c e => exact fl _ (fun _ => by rintro ⟨⟩) k1 r1
end
end DL
end

/-! text DM1 -/
section
set_option maxRecDepth 100000
set_option maxHeartbeats 4000000
/-! xs.extend(ys), xs a name's own list of frozen data, ys frozen -/
namespace DL
open PySem PySem.Spec PyProof.Rows L2
def rExtendR : V → List V → Hp → VK → Prop := fun x vs H Q => ∃ l b xs zs, x = .ref l ∧ vs = [.ref b] ∧ H l = some (.lst xs) ∧ Rd H b (.lst zs) ∧ xs.length + zs.length ≤ sizeLine ∧ Q .non (L2.upd H l (.lst (xs ++ zs)))
theorem mt_extendR {X : Cx} : MtM X "list.extend" rExtendR := by
  intro pins s σ H x vs v us Q I rx rv h
  obtain ⟨l, b, xs, zs, rfl, rfl, hH, hB, hz, q⟩ := h
  cases rx
  obtain ⟨u, rfl, ru⟩ := rv.one
  cases ru
  obtain ⟨z, its, n, r, hl, e⟩ := I.lstM hH
  obtain ⟨z2, its2, n2, r2, e2⟩ := hB.ok I.hok
  have hl2 := r2.length
  have hsz : its.toArray.size + its2.toArray.size ≤ sizeLine := by rw [List.size_toArray, List.size_toArray]; omega
  have hlong : ¬ (!its.toArray.isEmpty && Builtin.List.listTooLong (its.toArray.size + its2.toArray.size)) = true := by
    rw [notLongL hsz, Bool.and_false]
    exact Bool.false_ne_true
  refine call_meets F.slot_list_extend ⟨_, e, rfl⟩ F.entry_list_extend (F.args_list_extend_2 _ _)
    (AutoSeq1.list_extend_list_list_0 l its.toArray n b its2.toArray n2 hlong (by rw [List.size_toArray]; omega) (by omega)) ⟨e, e2, ?_⟩
  refine ⟨.non, _, I.lset (its' := its ++ its2) hH e (by simp) (r.append r2) ?_, rfl, q⟩
  rw [List.length_append]
  omega
section
variable {C : Cxt} {W : Wx} {F F' H H' : Hp} {Γ Γb Γ' : List Md} {σ : L2.St} {ρ : EnvD} {L : List Ent} {m ma mb mr M : Md} {d : DV} {v : V} {Dn : Ends}
def extD (x : Rs DV) (y : DV) (ρ : EnvD) (i : Nat) : Rs (DV × EnvD) := match x, y with
  | .ok (.lst ds), .lst es => if ds.length + es.length ≤ sizeLine then .ok (.non, ρ.set i (some (.lst (ds ++ es)))) else .stuck
  | _, _ => .stuck
def gExt (i : Nat) (g : GX) : GX := fun ρ => match lk ρ i with
  | .ok (.lst _) => (g ρ).bind fun p => extD (lk p.2 i) p.1 p.2 i
  | _ => .stuck
theorem sx_ext {i : Nat} {t : TE} {g : GX} (hi : Γ[i]? = some (.own .fr)) (h : SX C W Γ t g .fr) (hΓ : Γ.all Md.stor = true := by rfl) : SX C W Γ (tBM C.K "list" rExtendR (tVar i) (tCons t tNil)) (gExt i g) .fr := by
  intro F H σ ρ L Q hs r k
  show tVar i σ H fun v H1 => tyV C.K "list" v H1 ∧ t σ H1 fun y H2 => rExtendR v [y] H2 Q
  unfold gExt at k
  rcases lk_cases ρ i with ⟨d, e2, e3⟩ | e3
  · rw [e3] at k
    cases d with
    | lst ds0 =>
      have k : PX' C W Γ F H σ L .fr Q ((g ρ).bind fun p => extD (lk p.2 i) p.1 p.2 i) := k
      obtain ⟨v, f, h1, hf⟩ := r.get hi e2
      unfold At at hf
      rw [if_pos (show isLD (.lst ds0) = true from rfl)] at hf
      obtain ⟨a, ws, o, fc, rfl, _, _, hH, hN, _, _⟩ := hf
      obtain rfl : o = .lst ws := hN
      refine ⟨.ref a, h1, .inl ⟨rfl, ws, .inl (.inl hH)⟩, ?_⟩
      refine h F H σ ρ L _ hs r ?_
      revert k
      cases g ρ with
      | ex c d => exact fun k => k
      | stuck => exact fun k => k
      | ok p =>
        obtain ⟨dy, ρ'⟩ := p
        intro k F1 H1 y s1 r1
        have k : PX' C W Γ F H σ L .fr Q (extD (lk ρ' i) dy ρ' i) := k
        rcases lk_cases ρ' i with ⟨d, g2, g3⟩ | g3
        · rw [g3] at k
          cases d with
          | lst ds =>
            cases dy with
            | lst es =>
              have k : PX' C W Γ F H σ L .fr Q (if ds.length + es.length ≤ sizeLine then .ok (.non, ρ'.set i (some (.lst (ds ++ es)))) else .stuck) := k
              split at k
              · rename_i hz
                obtain ⟨v, h2, r2⟩ := r1.take hi g2
                rw [h1] at h2
                cases h2
                obtain ⟨b, zs, rfl, z1, z2⟩ := r2.tail.fr
                obtain ⟨fp, nd, hA, ch⟩ := r2.change hΓ (storL_cons rfl hs)
                unfold At at hA
                rw [if_pos (show isLD (.lst ds) = true from rfl)] at hA
                obtain ⟨a2, vs, o, fc, q1, q2, q3, q4, q5, q6, q7⟩ := hA
                cases q1
                obtain rfl : o = .lst vs := q5
                subst q6
                have fc0 : fc = [] := q7.nil_fp fun d v f h => h.1
                subst fc0
                refine ⟨a, b, vs, zs, rfl, rfl, q4, same_rd r2.fit.fh z1, by rw [← q7.length, ← z2.length]; exact hz, ?_⟩
                have r3 := ch a (vs ++ zs) (.lst (ds ++ es)) [a] List.mem_cons_self (List.Sublist.refl _) (by
                  unfold At
                  rw [if_pos (show isLD (.lst (ds ++ es)) = true from rfl)]
                  refine ⟨a, vs ++ zs, _, [], rfl, q2, q3, upd_same, rfl, rfl, ?_⟩
                  exact (q7.imp (R' := At C F1 (L2.upd H1 a (.lst (vs ++ zs))) .fr) fun d v f _ x => x).append (Alls.of_das z2 fun d v h => ⟨rfl, h⟩))
                have r4 := r3.back h1 (.inl hi)
                rw [set_set', set_id hi] at r4
                exact k F1 _ .non s1 (r4.tail.cons0 ⟨rfl, rfl⟩)
              · exact k.elim
            | _ => exact k.elim
          | _ => exact k.elim
        · rw [g3] at k
          exact k.elim
    | _ => exact k.elim
  · rw [e3] at k
    exact k.elim
/-! ### a name in a display that later parts still read: it is moved when all is evaluated -/
theorem entsA_perm : ∀ {ms : List Md} {ds : List DV} {vs : List V} {L L' : List Ent}, L.Perm L' → (entsA ms ds vs L).Perm (entsA ms ds vs L')
  | [], _, _, _, _, p => by unfold entsA; exact p
  | m :: ms, [], _, _, _, p => by unfold entsA; exact p
  | m :: ms, d :: ds, [], _, _, p => by unfold entsA; exact p
  | m :: ms, d :: ds, v :: vs, _, _, p => by
    unfold entsA
    exact entsA_perm (p.cons _)
theorem entsA_out {e : Ent} : ∀ {ms : List Md} {ds : List DV} {vs : List V} {L : List Ent}, (entsA ms ds vs (e :: L)).Perm (e :: entsA ms ds vs L)
  | [], _, _, _ => by unfold entsA; exact List.Perm.refl _
  | m :: ms, [], _, _ => by unfold entsA; exact List.Perm.refl _
  | m :: ms, d :: ds, [], _ => by unfold entsA; exact List.Perm.refl _
  | m :: ms, d :: ds, v :: vs, L => by
    have h := entsA_out (e := e) (ms := ms) (ds := ds) (vs := vs) (L := (m, d, v) :: L)
    have h2 : (entsA ms ds vs ((m, d, v) :: e :: L)).Perm (entsA ms ds vs (e :: (m, d, v) :: L)) := entsA_perm (List.Perm.swap _ _ _)
    unfold entsA
    exact h2.trans h
def xLate (i : Nat) (gr : GAX) : GAX := fun ρ => match lk ρ i with
  | .ok _ => (gr ρ).bind fun q => (lk q.2 i).bind fun d => .ok (d :: q.1, q.2.set i none)
  | _ => .stuck
theorem sxa_late {i : Nat} {tr : TA} {gr : GAX} {ms : List Md} (hi : Γ[i]? = some m) (hr : SXA C W Γ tr gr ms) : SXA C W Γ (tCons (tVar i) tr) (xLate i gr) (m :: ms) := by
  intro F H σ ρ L Q hs r k
  show ∃ v, σ[i]? = some (some v) ∧ tr σ H fun xs H2 => Q (v :: xs) H2
  unfold xLate at k
  rcases lk_cases ρ i with ⟨d0, e2, e3⟩ | e3
  · rw [e3] at k
    have k : PAX' C W Γ F H σ L (m :: ms) Q ((gr ρ).bind fun q => (lk q.2 i).bind fun d => .ok (d :: q.1, q.2.set i none)) := k
    obtain ⟨v, f, h1, _⟩ := r.get hi e2
    refine ⟨v, h1, hr F H σ ρ L _ hs r ?_⟩
    revert k
    cases gr ρ with
    | ex c d => exact fun k => k
    | stuck => exact fun k => k
    | ok q =>
      obtain ⟨ds, ρ2⟩ := q
      intro k F2 H2 vs s2 e1 e2 r2
      have k : PAX' C W Γ F H σ L (m :: ms) Q ((lk ρ2 i).bind fun d => .ok (d :: ds, ρ2.set i none)) := k
      rcases lk_cases ρ2 i with ⟨d, g2, g3⟩ | g3
      · rw [g3] at k
        obtain ⟨w, h2, r3⟩ := r2.take hi g2
        rw [h1] at h2
        cases h2
        exact k F2 H2 (v :: vs) s2 (by rw [List.length_cons, List.length_cons, e1]) (by rw [List.length_cons, List.length_cons, e2]) (by
          show Rep C F2 H2 Γ σ (ρ2.set i none) (entsA ms ds vs ((m, d, v) :: L))
          exact r3.permL (entsA_out.symm))
      · rw [g3] at k
        exact k.elim
  · rw [e3] at k
    exact k.elim
/-! ### list(range(a, b)) -/
def gLRg (ga gb : GE) : GE := fun ρ => (ga ρ).bind fun x => (gb ρ).bind fun y => (dRng2 [x, y]).bind fun ds => if ds.length ≤ sizeLine then .ok (.lst ds) else .stuck
theorem alls_rg {a : Int} : ∀ ks : List Nat, Alls (At C F H .fr) (ks.map fun k : Nat => DV.int (a + (k : Int))) (ks.map fun k : Nat => V.int (a + (k : Int))) []
  | [] => ⟨rfl, rfl⟩
  | k :: ks => ⟨_, _, [], [], rfl, rfl, At.flat rfl rfl, alls_rg ks⟩
theorem se_lrg {ta tb : TE} {ga gb : GE} (ha : SE C W Γ ta ga ma) (hb : SE C W Γ tb gb mb) (qo : (ma.stor || ma.free) = true := by rfl) (qa : ma.rd = true := by rfl) (qb : mb.rd = true := by rfl) : SE C W Γ (tLstRg (tRg2 ta tb)) (gLRg ga gb) (.own .fr) := by
  intro F H σ ρ L Q hL r k
  show ta σ H fun x H1 => tb σ H1 fun y H2 => ∃ i j, x = .int i ∧ y = .int j ∧ (RgOk i j ∧ ∀ q, H2 q = none → Q (.ref q) (L2.upd H2 q (.lst (rgV i j))))
  unfold gLRg at k
  refine se_then ha hL r k fun dx F1 H1 x s1 s2 r1 k1 => ?_
  refine se_then hb (okL_cons qo hL) r1 k1 fun dy F2 H2 y s3 s4 r2 k2 => ?_
  have hx := r2.tail.da qa
  have hy := r2.da qb
  obtain ⟨ds, e1, e2⟩ : ∃ ds, dRng2 [dx, dy] = .ok ds ∧ PE' C W Γ F2 H2 σ ρ L (.own .fr) Q (if ds.length ≤ sizeLine then .ok (.lst ds) else .stuck) := by
    revert k2
    cases e : dRng2 [dx, dy] with
    | ok ds => exact fun k2 => ⟨ds, rfl, k2⟩
    | ex c d =>
      unfold dRng2 at e
      split at e
      · split at e <;> cases e
      · cases e
    | stuck => exact fun k2 => k2.elim
  unfold dRng2 at e1
  split at e1
  · rename_i i j he
    cases he
    split at e1
    · rename_i hz
      cases e1
      split at e2
      · rename_i hl
        obtain ⟨z1, z2⟩ := (Bool.and_eq_true _ _).mp hz
        have b1 := rngOk_ok z1
        have b2 := rngOk_ok z2
        have hn : (rngD i (j - i).toNat).length = (j - i).toNat := by unfold rngD; rw [List.length_map, List.length_range]
        refine ⟨i, j, hx, hy, ⟨b1.1, b1.2, b2.1, b2.2, ?_⟩, fun q np => ?_⟩
        · rw [hn, sizeLine_eq] at hl
          omega
        · exact e2 F2 _ _ (Same.refl _) (same_upd np) (r2.tail.tail.newl np (alls_rg _))
      · exact e2.elim
    · cases e1
  · cases e1
end
end DL
end

/-! text DM2 -/
section
set_option maxRecDepth 100000
set_option maxHeartbeats 4000000
/-! len(set(xs)) of whole numbers, twice met or not; xs[::-1] -/
namespace DL
open PySem PySem.Spec PyProof.Rows L2
def setLen (ns : List Int) : Nat := (PyProof.Rows.firstMet (fun i => ns.getD i 0) ns.length).length
def tLenS (K : PySem.W.Frag) (ta : TE) : TE := fun σ H Q => ta σ H fun x H1 => ∃ (l : Addr) (ns : List Int), x = .ref l ∧ SqL K H1 l (ns.map V.int) ∧ ns.length ≤ 4000 ∧ Q (.int (setLen ns : Nat)) H1
theorem setLen_le (ns : List Int) : setLen ns ≤ ns.length := PyProof.Rows.firstMet_length_le _ _
theorem pe_lenS {X : Cx} {a : Expr} {ta : TE} {p p2 q pos : Pos} (hg : Gl X "len") (hm : X.mg "len" = none) (hg2 : Gl X "set") (hm2 : X.mg "set" = none) (ha : PE X a ta) (hc : X.calm = true := by rfl)
    (na : starEach [a] X.env = (false, eval a X.env) :: starEach [] X.env := by rfl) : PE X (.Call (.Name "len" p) [.Call (.Name "set" p2) [a] [] q] [] pos) (tLenS X.K ta) := by
  refine ⟨fun pins s σ H Q I h => ?_⟩
  refine Call_ (ld_blt I hg hm boot_len ?_)
  refine PyProof.Rows.callWith_builtin1 (PyProof.Rows.args_cons ?_ rfl) rfl rfl
  refine Call_ (ld_blt I hg2 hm2 boot_set ?_)
  refine PyProof.Rows.callWith_type1 (PyProof.Rows.args_cons (thn (ha.run pins s σ H _ I h) fun v s1 ⟨x, H1, I1, r1, q1⟩ => PyProof.Rows.args_nil ?_) na) na rfl
  obtain ⟨l, ns, rfl, hq, hl, q1⟩ := q1
  cases r1
  obtain ⟨its, r, pl, hz⟩ := I1.list hq
  have hlen : its.toArray.size = ns.length := by rw [List.size_toArray, ← r.length, List.length_map]
  have sl := setLen_le ns
  refine call_set_list (I1.ok.hd hc) pl.isList (by simpa using RZ.intsAre_vals r) (by rw [hlen]; unfold scanBound; omega) fun h' tk hS hk => ?_
  refine PyProof.Rows.args_nil ?_
  rw [hlen] at hS
  obtain ⟨o, es, ep, t, ho, hex, hd, _, _, _, hf, hn⟩ := hS
  have hn : _ = setLen ns := hn
  have I2 : Inv X pins σ H1 { s1 with heap := h', toks := tk } := I1.kept fun b o e => hk b o (Heap.lt_size e) e
  exact call_len_set ho hex hd hf (by rw [hn] <;> omega) ⟨.int (setLen ns : Nat), H1, I2.tok _, ⟨_, by rw [hn]⟩, q1⟩
section
variable {C : Cxt} {W : Wx} {F F' H H' : Hp} {Γ Γb Γ' : List Md} {σ : L2.St} {ρ : EnvD} {L : List Ent} {m ma mb mr M : Md} {d : DV} {v : V} {Dn : Ends}
def dLenS : OpA
  | [.lst ds] => match iLst ds with
    | some ns => if ns.length ≤ 4000 then .ok (.int (setLen ns : Nat)) else .stuck
    | none => .stuck
  | _ => .stuck
def gLenS (g : GE) : GE := fun ρ => (g ρ).bind fun d => dLenS [d]
theorem se_lenS {t : TE} {g : GE} (ha : SE C W Γ t g ma) (q : ma.ixok = true := by rfl) : SE C W Γ (tLenS C.K t) (gLenS g) .fr := by
  intro F H σ ρ L Q hL r k
  show t σ H fun x H1 => ∃ (l : Addr) (ns : List Int), x = .ref l ∧ SqL C.K H1 l (ns.map V.int) ∧ ns.length ≤ 4000 ∧ Q (.int (setLen ns : Nat)) H1
  refine se_then ha hL r k fun dx F1 H1 x s1 s2 r1 k1 => ?_
  cases dx with
  | lst ds =>
    obtain ⟨a, vs, h1, h2, h3⟩ := r1.items q
    subst h1
    revert k1
    show PE' C W Γ F1 H1 σ ρ L .fr Q (match iLst ds with | some ns => if ns.length ≤ 4000 then .ok (.int (setLen ns : Nat)) else .stuck | none => .stuck) → _
    cases e : iLst ds with
    | none => exact fun k => k.elim
    | some ns =>
      intro k
      dsimp only at k
      split at k
      · rename_i hz
        have e2 := ints_ok e
        subst e2
        have e3 := h3.iLst
        subst e3
        exact ⟨a, ns, rfl, h2.1, hz, k.flat r1.tail rfl rfl⟩
      · exact k.elim
  | _ => exact k1.elim
theorem Alls.rev {R : DV → V → List Addr → Prop} : ∀ {ds : List DV} {vs : List V}, Alls R ds vs [] → Alls R ds.reverse vs.reverse [] := by
  intro ds
  induction ds with
  | nil =>
    intro vs h
    obtain ⟨rfl, _⟩ := h
    exact ⟨rfl, rfl⟩
  | cons d ds ih =>
    intro vs h
    obtain ⟨w, r, f1, f2, e1, e2, h1, h2⟩ := h
    obtain ⟨rfl, rfl⟩ := List.append_eq_nil_iff.mp e2.symm
    subst e1
    rw [List.reverse_cons, List.reverse_cons]
    exact (ih h2).append ⟨w, [], [], [], rfl, rfl, h1, rfl, rfl⟩
def dRev : DV → Rs DV
  | .lst ds => .ok (.lst ds.reverse)
  | _ => .stuck
def gRev (g : GE) : GE := fun ρ => (g ρ).bind dRev
theorem se_rev {t : TE} {g : GE} (ha : SE C W Γ t g ma) (q : ma.ixok = true := by rfl) (qk : ma.kid = .fr := by rfl) : SE C W Γ (tRevL C.K t) (gRev g) (.own .fr) := by
  intro F H σ ρ L Q hL r k
  show t σ H fun x H1 => ∃ a xs, x = .ref a ∧ SqL C.K H1 a xs ∧ ∀ p, H1 p = none → Q (.ref p) (upd H1 p (.lst xs.reverse))
  refine se_then ha hL r k fun dx F1 H1 x s1 s2 r1 k1 => ?_
  cases dx with
  | lst ds =>
    obtain ⟨a, vs, h1, h2, h3⟩ := r1.items q
    rw [qk] at h3
    exact ⟨a, vs, h1, h2.1, fun p np => k1 F1 _ _ (Same.refl _) (same_upd np) (r1.tail.newl np h3.rev)⟩
  | _ => exact k1.elim
end
/-! the count of a set -/
theorem ded_le : ∀ (xs acc : List Int), (xs.foldl PyProof.Rows.step_dedup acc).length ≤ acc.length + xs.length
  | [], acc => by simp
  | x :: xs, acc => by
    have := ded_le xs (PyProof.Rows.step_dedup acc x)
    have e := PyProof.Rows.step_length acc x
    rw [List.foldl_cons, List.length_cons]
    split at e <;> omega
theorem ded_eq : ∀ (xs acc : List Int), (xs.foldl PyProof.Rows.step_dedup acc).length = acc.length + xs.length → (∀ x ∈ xs, x ∉ acc) ∧ xs.Nodup
  | [], acc, _ => ⟨fun x h => (by cases h), List.nodup_nil⟩
  | x :: xs, acc, h => by
    rw [List.foldl_cons, List.length_cons] at h
    have l := ded_le xs (PyProof.Rows.step_dedup acc x)
    have e := PyProof.Rows.step_length acc x
    split at e
    · omega
    · rename_i hn
      obtain ⟨h1, h2⟩ := ded_eq xs (PyProof.Rows.step_dedup acc x) (by omega)
      have nx : x ∉ acc := fun z => hn (List.any_eq_true.mpr ⟨x, z, beq_self_eq_true x⟩)
      have st : ∀ k, k ∈ acc ∨ k = x → k ∈ PyProof.Rows.step_dedup acc x := fun k hk => by
        have a := PyProof.Rows.step_any acc x k
        have b : (PyProof.Rows.step_dedup acc x).any (· == k) = true := by
          rw [a]
          rcases hk with hk | hk
          · have e3 : (acc.any fun x => x == k) = true := List.any_eq_true.mpr ⟨k, hk, beq_self_eq_true k⟩
            rw [e3]
            rfl
          · rw [decide_eq_true hk, Bool.or_true]
        obtain ⟨y, hy, ey⟩ := List.any_eq_true.mp b
        rw [← eq_of_beq ey]
        exact hy
      refine ⟨fun y hy => ?_, List.nodup_cons.mpr ⟨fun z => h1 x z (st x (.inr rfl)), h2⟩⟩
      rcases List.mem_cons.mp hy with rfl | hy
      · exact nx
      · exact fun z => h1 y hy (st y (.inl z))
theorem setLen_iff {ns : List Int} : setLen ns = ns.length ↔ ns.Nodup := by
  constructor
  · intro h
    unfold setLen PyProof.Rows.firstMet at h
    have e : (List.range ns.length).map (fun i => ns.getD i 0) = ns := by
      refine List.ext_getElem (by simp) fun i h1 h2 => ?_
      rw [List.getElem_map, List.getElem_range, List.getD_eq_getElem?_getD, List.getElem?_eq_getElem h2]
      rfl
    rw [e] at h
    exact (ded_eq ns [] (by simpa using h)).2
  · intro h
    unfold setLen
    rw [RZ.firstMet_nodup h ns.length (Nat.le_refl _), List.take_length]
end DL
end

/-! text DM3 -/
section
set_option maxRecDepth 100000
set_option maxHeartbeats 4000000
/-! order of data that are alike: lists, tuples, mixed ones -/
namespace DL
open PySem PySem.Spec PyProof.Rows L2
def rOrdD (f : PyData → PyData → Bool) (K : PySem.W.Frag) : R2 := fun x y H Q => ∃ d e, Dp K H x d ∧ Dp K H y e ∧ PySem.W.alike d e = true ∧ d ≠ .none ∧ d.depth ≤ 20 ∧ Q (.bl (f d e)) H
abbrev cLt : PyData → PyData → Bool := fun d e => PySem.W.dataLt d e
abbrev cGe : PyData → PyData → Bool := fun d e => !PySem.W.dataLt d e
abbrev cGt : PyData → PyData → Bool := fun d e => PySem.W.dataLt e d
abbrev cLe : PyData → PyData → Bool := fun d e => !PySem.W.dataLt e d
section
variable {X : Cx}
theorem op_ordD {op : CmpOp} {f : PyData → PyData → Bool} (h : ∀ {A : Around} {E Q : Value → Shared → Prop} {s : Shared} {a b : Value} {d e : PyData} {as bs : List Addr}, Reads s.heap a d as → Reads s.heap b e bs → PySem.W.alike d e = true → d ≠ .none → A.units + min d.depth e.depth < cLine → Q (.bool (f d e)) s → wpAny (model X.prog X.w) A (compareOp op a b) Q E s) (hu : X.A.units + 65 < cLine) : OpR X (compareOp op) (rOrdD f X.K) := by
  intro pins s σ H x y v u Q I rx ry k
  obtain ⟨d, e, hd, he, al, nn, dp, q⟩ := k
  obtain ⟨as, r1⟩ := Dp.reads I d x v hd rx
  obtain ⟨bs, r2⟩ := Dp.reads I e y u he ry
  exact h r1 r2 al nn (by have := Nat.min_le_left d.depth e.depth; omega) ⟨.bl _, H, I, rfl, q⟩
theorem op_ltD (hu : X.A.units + 65 < cLine) : OpR X (compareOp .Lt) (rOrdD cLt X.K) := op_ordD (fun r1 r2 al nn u q => PySem.W.lt_data r1 r2 al nn u q) hu
theorem op_geD (hu : X.A.units + 65 < cLine) : OpR X (compareOp .GtE) (rOrdD cGe X.K) := op_ordD (fun r1 r2 al nn u q => PySem.W.ge_data r1 r2 al nn u q) hu
theorem op_gtD (hu : X.A.units + 65 < cLine) : OpR X (compareOp .Gt) (rOrdD cGt X.K) := op_ordD (fun r1 r2 al nn u q => PySem.W.gt_data r1 r2 al nn u q) hu
theorem op_leD (hu : X.A.units + 65 < cLine) : OpR X (compareOp .LtE) (rOrdD cLe X.K) := op_ordD (fun r1 r2 al nn u q => PySem.W.le_data r1 r2 al nn u q) hu
theorem kx_ltD {K : PySem.W.Frag} (hk : X.K = K) (hu : X.A.units + 65 < cLine) : OpR X (compareOp .Lt) (rOrdD cLt K) := by subst hk; exact op_ltD hu
theorem kx_geD {K : PySem.W.Frag} (hk : X.K = K) (hu : X.A.units + 65 < cLine) : OpR X (compareOp .GtE) (rOrdD cGe K) := by subst hk; exact op_geD hu
theorem kx_gtD {K : PySem.W.Frag} (hk : X.K = K) (hu : X.A.units + 65 < cLine) : OpR X (compareOp .Gt) (rOrdD cGt K) := by subst hk; exact op_gtD hu
theorem kx_leD {K : PySem.W.Frag} (hk : X.K = K) (hu : X.A.units + 65 < cLine) : OpR X (compareOp .LtE) (rOrdD cLe K) := by subst hk; exact op_leD hu
end
section
variable {C : Cxt} {W : Wx} {F F' H H' : Hp} {Γ Γb Γ' : List Md} {σ : L2.St} {ρ : EnvD} {L : List Ent} {m ma mb mr M : Md} {d : DV} {v : V} {Dn : Ends}
def nonP : PyData → Bool
  | .none => true
  | _ => false
def ordOk (x y : DV) : Bool := eqok x 20 && (eqok y 20 && (PySem.W.alike (py x) (py y) && !nonP (py x)))
def dOrdD (f : PyData → PyData → Bool) : OpD := fun x y => if ordOk x y = true then .ok (.bl (f (py x) (py y))) else .stuck
abbrev dLtD : OpD := dOrdD cLt
abbrev dGeD : OpD := dOrdD cGe
abbrev dGtD : OpD := dOrdD cGt
abbrev dLeD : OpD := dOrdD cLe
theorem os_ordD {f : PyData → PyData → Bool} (ra : ma.rd = true := by rfl) (rb : mb.rd = true := by rfl) : OpS C W (rOrdD f C.K) (dOrdD f) ma mb .fr := by
  intro Γ F H σ ρ L x y dx dy Q r k
  obtain ⟨h1, h2⟩ := r.da2 ra rb
  unfold dOrdD at k
  split at k
  · rename_i q
    unfold ordOk at q
    obtain ⟨q1, q⟩ := (Bool.and_eq_true _ _).mp q
    obtain ⟨q2, q⟩ := (Bool.and_eq_true _ _).mp q
    obtain ⟨q3, q4⟩ := (Bool.and_eq_true _ _).mp q
    exact ⟨py dx, py dy, da_dp dx 20 x q1 h1, da_dp dy 20 y q2 h2, q3, (fun z => by rw [z] at q4; cases q4), (eqok_ok dx 20 q1).2, k.flat r.tail.tail rfl rfl⟩
  · exact k.elim
end
end DL
end

/-! text DM4 -/
section
set_option maxRecDepth 100000
set_option maxHeartbeats 4000000
/-! zip of three lists of one length -/
namespace DL
open PySem PySem.Spec PyProof.Rows L2
theorem SBk {a b : Nat} {h h' : Heap} {o : Obj} (q : Heap.SameBut a h h') (ne : b ≠ a) (e : h.get? b = some o) : h'.get? b = some o := q.extBut _ _ ne e
theorem EBk {a b : Nat} {h h' : Heap} {o : Obj} (q : Heap.ExtBut a h h') (ne : b ≠ a) (e : h.get? b = some o) : h'.get? b = some o := q _ _ ne e
theorem LBk {a b : Nat} {h h' : Heap} {xs : Array Value} (q : Heap.SameBut a h h') (ne : b ≠ a) (e : h.IsList b xs) : h'.IsList b xs := by
  obtain ⟨o, g, r⟩ := e
  exact ⟨o, SBk q ne g, r⟩
abbrev IsTrip (h : Heap) (T : Nat) (a b c : Value) : Prop := h.get? T = some { cls := .type "tuple", data := .seq #[a, b, c] }
/-- three iterators at n, n + 1, n + 2, their tuple, the tuple that is handed out again, the zip -/
structure Z3 (h : Heap) (n l1 l2 l3 : Nat) (k : Nat) (f a b c : Value) : Prop where
  z : IsZip h (n + 5) (n + 3) (n + 4) f
  ti : IsTrip h (n + 3) (.ref n) (.ref (n + 1)) (.ref (n + 2))
  to : IsTrip h (n + 4) a b c
  i1 : h.IsListIter n l1 k
  i2 : h.IsListIter (n + 1) l2 k
  i3 : h.IsListIter (n + 2) l3 k
section
variable {prog : Program} {w : World} {A : Around} {E : Value → Shared → Prop} {s : Shared} {n l1 l2 l3 : Nat} {k : Nat} {a b c x y v : Value} {xs ys vs : Array Value}
theorem upd3 {T : Nat} {j : Nat} {u : Value} {Q : Unit → Shared → Prop} (hT : IsTrip s.heap T a b c) (h : ∀ h', h'.get? T = some { cls := .type "tuple", data := .seq ((#[a, b, c] : Array Value).setIfInBounds j u) } → Heap.SameBut T s.heap h' → Q () { s with heap := h' }) : wpAny (model prog w) A (updateSeq T (·.setIfInBounds j u)) Q E s :=
  wpAny_updateSeq hT rfl (h _ (by rw [Heap.get?_update_self _ hT rfl]; simp [Obj.mapSeq]) (Heap.SameBut.update ..))
theorem next3_item {Q : Value → Shared → Prop} (Z : Z3 s.heap n l1 l2 l3 k .none a b c) (b1 : l1 < n) (b2 : l2 < n) (b3 : l3 < n) (e1 : s.heap.IsList l1 xs) (e2 : s.heap.IsList l2 ys) (e3 : s.heap.IsList l3 vs) (hx : xs[k]? = some x) (hy : ys[k]? = some y) (hv : vs[k]? = some v)
    (hQ : ∀ h', Z3 h' n l1 l2 l3 (k + 1) (rawInt s.heap.objs.size) x y v → IsTrip h' s.heap.objs.size x y v → h'.objs.size = s.heap.objs.size + 1 → (∀ (d : Nat) (o : Obj), (d < n ∨ n + 5 < d) → s.heap.get? d = some o → h'.get? d = some o) → Q (.ref s.heap.objs.size) { s with heap := h' }) :
    wpAny (model prog w) A (Builtin.«zip.__next__» ⟨[.ref (n + 5)], []⟩) (fun r t => ∃ u, r = .done (.ret u) ∧ Q u t) E s := by
  obtain ⟨hz, hi, ho, i1, i2, i3⟩ := Z
  show wpAny _ _ (field (.ref (n + 5)) 2 >>= _) _ _ _
  refine wpAny_bind (wpAny_field hz rfl (x := .bool false) rfl ?_)
  show wpAny _ _ (field (.ref (n + 5)) 3 >>= _) _ _ _
  refine wpAny_bind (wpAny_field hz rfl (x := .ref (n + 3)) rfl (wpAny_bind (wpAny_seqItems hi rfl ?_)))
  show wpAny _ _ (Builtin.SmallTypes.ownedTupleIsFree (.ref (n + 5)) >>= _) _ _ _
  unfold Builtin.SmallTypes.ownedTupleIsFree
  refine wpAny_bind (wpAny_bind (wpAny_field hz rfl (x := .none) rfl (wpAny_pure ?_)))
  simp only [if_true]
  refine wpAny_bind (wpAny_rule (wpAny_bind (wpAny_field hz rfl (x := .ref (n + 4)) rfl (wpAny_bind (wpAny_setField_rec hz (by simp) fun h1 z1 s1 => wpAny_bind ?_)))))
  simp only [List.zipIdx_cons, List.zipIdx_nil, List.forIn_cons, List.forIn_nil]
  -- the first
  refine wpAny_bind (wpAny_bind (wpAny_onRaise ?_))
  show wpAny _ _ (Builtin.SmallTypes.nextOf (.ref n) >>= _) _ _ _
  refine wpAny_bind (wpAny_nextOf_list_item (i1.at fun o e => SBk s1 (by omega) e) (LBk s1 (by omega) e1) hx fun h2 j1 s2 => wpAny_pure ?_)
  have o2 : IsTrip h2 (n + 4) a b c := SBk s2 (by omega) (SBk s1 (by omega) ho)
  refine wpAny_bind (wpAny_seqItems o2 rfl (wpAny_bind (upd3 o2 fun h3 o3 s3 => wpAny_bind (wpAny_letGo (wpAny_pure ?_)))))
  have o3 : IsTrip h3 (n + 4) x b c := o3
  -- the second
  refine wpAny_bind (wpAny_bind (wpAny_onRaise ?_))
  show wpAny _ _ (Builtin.SmallTypes.nextOf (.ref (n + 1)) >>= _) _ _ _
  have f3 : ∀ {d : Nat} {o : Obj}, d ≠ n + 5 → d ≠ n → d ≠ n + 4 → s.heap.get? d = some o → h3.get? d = some o := fun q5 q0 q4 e => SBk s3 q4 (SBk s2 q0 (SBk s1 q5 e))
  refine wpAny_bind (wpAny_nextOf_list_item (i2.at fun o e => f3 (by omega) (by omega) (by omega) e) (items := ys) (by obtain ⟨o, g, r⟩ := e2; exact ⟨o, f3 (by omega) (by omega) (by omega) g, r⟩) hy fun h4 j2 s4 => wpAny_pure ?_)
  have o4 : IsTrip h4 (n + 4) x b c := SBk s4 (by omega) o3
  refine wpAny_bind (wpAny_seqItems o4 rfl (wpAny_bind (upd3 o4 fun h5 o5 s5 => wpAny_bind (wpAny_letGo (wpAny_pure ?_)))))
  have o5 : IsTrip h5 (n + 4) x y c := o5
  -- the third
  refine wpAny_bind (wpAny_bind (wpAny_onRaise ?_))
  show wpAny _ _ (Builtin.SmallTypes.nextOf (.ref (n + 2)) >>= _) _ _ _
  have f5 : ∀ {d : Nat} {o : Obj}, d ≠ n + 5 → d ≠ n → d ≠ n + 4 → d ≠ n + 1 → s.heap.get? d = some o → h5.get? d = some o := fun q5 q0 q4 q1 e => SBk s5 q4 (SBk s4 q1 (f3 q5 q0 q4 e))
  refine wpAny_bind (wpAny_nextOf_list_item (i3.at fun o e => f5 (by omega) (by omega) (by omega) (by omega) e) (items := vs) (by obtain ⟨o, g, r⟩ := e3; exact ⟨o, f5 (by omega) (by omega) (by omega) (by omega) g, r⟩) hv fun h6 j3 s6 => wpAny_pure ?_)
  have o6 : IsTrip h6 (n + 4) x y c := SBk s6 (by omega) o5
  refine wpAny_bind (wpAny_seqItems o6 rfl (wpAny_bind (upd3 o6 fun h7 o7 s7 => wpAny_bind (wpAny_letGo (wpAny_pure (wpAny_pure ?_))))))
  have o7 : IsTrip h7 (n + 4) x y v := o7
  refine wpAny_bind (wpAny_seqItems o7 rfl (wpAny_bind (wpAny_newTuple ?_)))
  have hs : h7.objs.size = s.heap.objs.size := by rw [s7.1, s6.1, s5.1, s4.1, s3.1, s2.1, s1.1]
  have f7 : ∀ {d : Nat} {o : Obj}, d ≠ n + 5 → d ≠ n → d ≠ n + 4 → d ≠ n + 1 → d ≠ n + 2 → s.heap.get? d = some o → h7.get? d = some o := fun q5 q0 q4 q1 q2 e => SBk s7 q4 (SBk s6 q2 (f5 q5 q0 q4 q1 e))
  have z7 : IsZip h7 (n + 5) (n + 3) (n + 4) .ellipsis := SBk s7 (by omega) (SBk s6 (by omega) (SBk s5 (by omega) (SBk s4 (by omega) (SBk s3 (by omega) (SBk s2 (by omega) z1)))))
  have zl : n + 5 < h7.objs.size := Heap.lt_size z7
  show wpAny _ _ (Builtin.SmallTypes.ownedTupleHandOut (.ref (n + 5)) (.ref h7.objs.size) >>= _) _ _ _
  unfold Builtin.SmallTypes.ownedTupleHandOut
  have z8 : IsZip (h7.push { cls := .type "tuple", data := .seq #[x, y, v] }) (n + 5) (n + 3) (n + 4) .ellipsis := Heap.get?_push_of_some _ z7
  refine wpAny_bind (wpAny_bind (wpAny_setField_rec z8 (by simp) fun h9 z9 s9 => ?_))
  have z9 : IsZip h9 (n + 5) (n + 3) (n + 4) (rawInt h7.objs.size) := z9
  refine wpAny_setField_rec z9 (by simp) fun ha za sa => wpAny_pure ⟨_, rfl, ?_⟩
  have za : IsZip ha (n + 5) (n + 3) (n + 4) (rawInt h7.objs.size) := za
  have ff : ∀ {d : Nat} {o : Obj}, d ≠ n + 5 → h7.get? d = some o → ha.get? d = some o := fun q e => SBk sa q (SBk s9 q (Heap.get?_push_of_some _ e))
  have tT : IsTrip ha h7.objs.size x y v := SBk sa (by omega) (SBk s9 (by omega) (Heap.get?_push_size _ rfl))
  have sz : ha.objs.size = h7.objs.size + 1 := by rw [sa.1, s9.1, Heap.size_push]
  rw [hs] at za tT sz
  show Q (.ref h7.objs.size) _
  rw [hs]
  refine hQ ha ⟨za, ff (by omega) (f7 (by omega) (by omega) (by omega) (by omega) (by omega) hi), ff (by omega) o7, ?_, ?_, ?_⟩ tT sz fun (d : Nat) o q e => ff (by omega) (f7 (by omega) (by omega) (by omega) (by omega) (by omega) e)
  · exact j1.at fun o e => ff (by omega) (SBk s7 (by omega) (SBk s6 (by omega) (SBk s5 (by omega) (SBk s4 (by omega) (SBk s3 (by omega) e)))))
  · exact j2.at fun o e => ff (by omega) (SBk s7 (by omega) (SBk s6 (by omega) (SBk s5 (by omega) e)))
  · exact j3.at fun o e => ff (by omega) (SBk s7 (by omega) e)
theorem next3_end {Q : Fin → Shared → Prop} (hh : A.handled = none) (Z : Z3 s.heap n l1 l2 l3 k .none a b c) (b1 : l1 < n) (e1 : s.heap.IsList l1 xs) (hx : xs[k]? = none)
    (hE : ∀ (h' : Heap) (e : Nat), (∀ (d : Nat) (o : Obj), (d < n ∨ n + 5 < d) → s.heap.get? d = some o → h'.get? d = some o) → (∃ o, h'.get? e = some o ∧ o.cls = .type "StopIteration") → E (.ref e) { s with heap := h' }) :
    wpAny (model prog w) A (Builtin.«zip.__next__» ⟨[.ref (n + 5)], []⟩) Q E s := by
  obtain ⟨hz, hi, ho, i1, i2, i3⟩ := Z
  show wpAny _ _ (field (.ref (n + 5)) 2 >>= _) _ _ _
  refine wpAny_bind (wpAny_field hz rfl (x := .bool false) rfl ?_)
  show wpAny _ _ (field (.ref (n + 5)) 3 >>= _) _ _ _
  refine wpAny_bind (wpAny_field hz rfl (x := .ref (n + 3)) rfl (wpAny_bind (wpAny_seqItems hi rfl ?_)))
  show wpAny _ _ (Builtin.SmallTypes.ownedTupleIsFree (.ref (n + 5)) >>= _) _ _ _
  unfold Builtin.SmallTypes.ownedTupleIsFree
  refine wpAny_bind (wpAny_bind (wpAny_field hz rfl (x := .none) rfl (wpAny_pure ?_)))
  simp only [if_true]
  refine wpAny_bind (wpAny_rule (wpAny_bind (wpAny_field hz rfl (x := .ref (n + 4)) rfl (wpAny_bind (wpAny_setField_rec hz (by simp) fun h1 z1 s1 => wpAny_bind ?_)))))
  simp only [List.zipIdx_cons, List.zipIdx_nil, List.forIn_cons, List.forIn_nil]
  refine wpAny_bind (wpAny_bind (wpAny_onRaise ?_))
  show wpAny _ _ (Builtin.SmallTypes.nextOf (.ref n) >>= _) _ _ _
  refine wpAny_bind (wpAny_nextOf_list_end hh (i1.at fun o e => SBk s1 (by omega) e) (LBk s1 (by omega) e1) hx fun h2 e s2 he => ?_)
  obtain ⟨oe, ge, ce⟩ := he
  have z2 : IsZip h2 (n + 5) (n + 3) (n + 4) .ellipsis := EBk s2 (by omega) z1
  have ne : e ≠ n + 5 := fun q => by
    subst q
    rw [z2] at ge
    cases ge
    simp at ce
  exact wpAny_setField_rec z2 (by simp) fun h3 _ s3 => hE h3 e (fun (d : Nat) o q g => SBk s3 (by omega) (EBk s2 (by omega) (SBk s1 (by omega) g))) ⟨oe, SBk s3 ne ge, ce⟩
end
end DL
end

/-! text DM5 -/
section
set_option maxRecDepth 100000
set_option maxHeartbeats 4000000
/-! zip of three lists of one length: made, walked, read -/
namespace DL
open PySem PySem.Spec PyProof.Rows L2
theorem ty_zip3 (a b c : Value) : checkTypeCall "zip" ⟨[a, b, c], []⟩ = pure () := by kernel_rfl
theorem nw_zip3 (a b c : Value) : checkBuiltinCall "zip.__new__" ⟨[.type "zip", a, b, c], []⟩ = pure () := by kernel_rfl
theorem ar_init4 (a b c d : Value) : argsOk "object.__init__" ⟨[a, b, c, d], []⟩ := by
  unfold argsOk; rw [signature?_of (id := "object.__init__") (n := ['_', '_', 't', 'i', 'n', 'i', '_', '_']) (o := ['t', 'c', 'e', 'j', 'b', 'o']) (by kernel_rfl) PySem.F.owner_object]; kernel_rfl
abbrev itO (l : Nat) : Obj := { cls := .type "list_iterator", data := .fields #[.ref l, .int 0 0] }
abbrev tpO (vs : Array Value) : Obj := { cls := .type "tuple", data := .seq vs }
abbrev H3 (h : Heap) (l1 l2 l3 : Nat) : Heap := ((h.push (itO l1)).push (itO l2)).push (itO l3)
abbrev H4 (h : Heap) (l1 l2 l3 : Nat) : Heap := (H3 h l1 l2 l3).push (tpO #[.ref h.objs.size, .ref (h.push (itO l1)).objs.size, .ref ((h.push (itO l1)).push (itO l2)).objs.size])
abbrev H5 (h : Heap) (l1 l2 l3 : Nat) : Heap := (H4 h l1 l2 l3).push (tpO #[.none, .none, .none])
abbrev H6 (h : Heap) (l1 l2 l3 : Nat) : Heap := (H5 h l1 l2 l3).push { cls := .type "zip", data := .fields #[.none, .bool false, .bool false, .ref (H3 h l1 l2 l3).objs.size, .ref (H4 h l1 l2 l3).objs.size] }
theorem mt_zip3 (l1 l2 l3 : Nat) (xs ys vs : Array Value) :
    Meets (Builtin.«zip.__new__» ⟨[.type "zip", .ref l1, .ref l2, .ref l3], []⟩) (fun _ R s => s.heap.IsList l1 xs ∧ s.heap.IsList l2 ys ∧ s.heap.IsList l3 vs ∧ R (.ok (.ret (.ref (H5 s.heap l1 l2 l3).objs.size))) { s with heap := H6 s.heap l1 l2 l3 }) :=
  .of_wp fun prog w A R s h => by
    obtain ⟨hp, g, d, tk, os⟩ := s
    obtain ⟨e1, e2, e3, h⟩ := h
    have hsub := sub_zip
    have k1 : Heap.IsList (Shared.heap ⟨hp, g, d, tk, os⟩) l1 xs := e1
    have k2 : Heap.IsList (Shared.heap ⟨hp.push (itO l1), g, d, tk, os⟩) l2 ys := Heap.IsList.push e2 _
    have k3 : Heap.IsList (Shared.heap ⟨(hp.push (itO l1)).push (itO l2), g, d, tk, os⟩) l3 vs := Heap.IsList.push (Heap.IsList.push e3 _) _
    wp_walk using wpAny_pyIter_list k1, wpAny_pyIter_list k2, wpAny_pyIter_list k3
    exact ⟨_, rfl, h⟩
section
variable {prog : Program} {w : World} {A : Around} {E : Value → Shared → Prop} {s : Shared} {n l1 l2 l3 : Nat} {k : Nat} {a b c x y v : Value} {xs ys vs : Array Value}
theorem call_zip3 {Q : Value → Shared → Prop} (e1 : s.heap.IsList l1 xs) (e2 : s.heap.IsList l2 ys) (e3 : s.heap.IsList l3 vs) (h : ∀ h', Z3 h' s.heap.objs.size l1 l2 l3 0 .none .none .none .none → h'.objs.size = s.heap.objs.size + 6 → (∀ (d : Nat) (o : Obj), s.heap.get? d = some o → h'.get? d = some o) → Q (.ref (s.heap.objs.size + 5)) { s with heap := h' }) :
    wpAny (model prog w) A (call (.type "zip") [.ref l1, .ref l2, .ref l3]) Q E s := by
  refine callType_new F.called_zip (by decide) (ty_zip3 _ _ _) (nw_zip3 _ _ _) (fun obj => ar_init4 obj _ _ _) F.entry_zip_new (mt_zip3 l1 l2 l3 xs ys vs) ⟨e1, e2, e3, ?_⟩
  have z1 : (s.heap.push (itO l1)).objs.size = s.heap.objs.size + 1 := Heap.size_push ..
  have z2 : ((s.heap.push (itO l1)).push (itO l2)).objs.size = s.heap.objs.size + 2 := by rw [Heap.size_push, z1]
  have z3 : (H3 s.heap l1 l2 l3).objs.size = s.heap.objs.size + 3 := by rw [Heap.size_push, z2]
  have z4 : (H4 s.heap l1 l2 l3).objs.size = s.heap.objs.size + 4 := by rw [Heap.size_push, z3]
  have z5 : (H5 s.heap l1 l2 l3).objs.size = s.heap.objs.size + 5 := by rw [Heap.size_push, z4]
  have z6 : (H6 s.heap l1 l2 l3).objs.size = s.heap.objs.size + 6 := by rw [Heap.size_push, z5]
  have g6 : (H6 s.heap l1 l2 l3).get? (H5 s.heap l1 l2 l3).objs.size = some _ := Heap.get?_push_size _ rfl
  have g5 : (H6 s.heap l1 l2 l3).get? (H4 s.heap l1 l2 l3).objs.size = some _ := Heap.get?_push_of_some _ (Heap.get?_push_size _ rfl)
  have g4 : (H6 s.heap l1 l2 l3).get? (H3 s.heap l1 l2 l3).objs.size = some _ := Heap.get?_push_of_some _ (Heap.get?_push_of_some _ (Heap.get?_push_size _ rfl))
  have p3 : ∀ {d : Nat} {o : Obj}, (H3 s.heap l1 l2 l3).get? d = some o → (H6 s.heap l1 l2 l3).get? d = some o := fun e => Heap.get?_push_of_some _ (Heap.get?_push_of_some _ (Heap.get?_push_of_some _ e))
  have g3 : (H6 s.heap l1 l2 l3).get? ((s.heap.push (itO l1)).push (itO l2)).objs.size = some _ := p3 (Heap.get?_push_size _ rfl)
  have g2 : (H6 s.heap l1 l2 l3).get? (s.heap.push (itO l1)).objs.size = some _ := p3 (Heap.get?_push_of_some _ (Heap.get?_push_size _ rfl))
  have g1 : (H6 s.heap l1 l2 l3).get? s.heap.objs.size = some _ := p3 (Heap.get?_push_of_some _ (Heap.get?_push_of_some _ (Heap.get?_push_size _ rfl)))
  show _ ∧ _
  rw [z3, z4, z5] at g6
  rw [z1, z2, z3] at g4
  rw [z4] at g5
  rw [z2] at g3
  rw [z1] at g2
  rw [z5]
  exact ⟨⟨_, g6, rfl⟩, h _ ⟨g6, g4, g5, ⟨_, g1, rfl, rfl⟩, ⟨_, g2, rfl, rfl⟩, ⟨_, g3, rfl, rfl⟩⟩ z6 fun d o e => p3 (Heap.get?_push_of_some _ (Heap.get?_push_of_some _ (Heap.get?_push_of_some _ e)))⟩
theorem py3_item {Q : Option Value → Shared → Prop} (Z : Z3 s.heap n l1 l2 l3 k .none a b c) (b1 : l1 < n) (b2 : l2 < n) (b3 : l3 < n) (e1 : s.heap.IsList l1 xs) (e2 : s.heap.IsList l2 ys) (e3 : s.heap.IsList l3 vs) (hx : xs[k]? = some x) (hy : ys[k]? = some y) (hv : vs[k]? = some v)
    (hQ : ∀ h', Z3 h' n l1 l2 l3 (k + 1) (rawInt s.heap.objs.size) x y v → IsTrip h' s.heap.objs.size x y v → h'.objs.size = s.heap.objs.size + 1 → (∀ (d : Nat) (o : Obj), (d < n ∨ n + 5 < d) → s.heap.get? d = some o → h'.get? d = some o) → Q (some (.ref s.heap.objs.size)) { s with heap := h' }) :
    wpAny (model prog w) A (pyNext (.ref (n + 5))) Q E s := by
  have hT : s.TypeIs (.ref (n + 5)) "zip" := ⟨_, Z.z, rfl⟩
  unfold pyNext
  refine wpAny_bind (wpAny_attempt (wpAny_callSpecial?_slot (name := Str.ofString "__next__") hT F.slot_zip_next (wpAny_call_entry F.slot_zip_next hT F.entry_zip_next ?_ (F.args_zip_next_1 _))))
  exact next3_item Z b1 b2 b3 e1 e2 e3 hx hy hv fun h' q1 q2 q3 q4 => wpAny_pure (hQ h' q1 q2 q3 q4)
theorem py3_end {Q : Option Value → Shared → Prop} (hh : A.handled = none) (Z : Z3 s.heap n l1 l2 l3 k .none a b c) (b1 : l1 < n) (e1 : s.heap.IsList l1 xs) (hx : xs[k]? = none)
    (hQ : ∀ h', (∀ (d : Nat) (o : Obj), (d < n ∨ n + 5 < d) → s.heap.get? d = some o → h'.get? d = some o) → Q none { s with heap := h' }) : wpAny (model prog w) A (pyNext (.ref (n + 5))) Q E s := by
  have hT : s.TypeIs (.ref (n + 5)) "zip" := ⟨_, Z.z, rfl⟩
  unfold pyNext
  refine wpAny_bind (wpAny_attempt (wpAny_callSpecial?_slot (name := Str.ofString "__next__") hT F.slot_zip_next (wpAny_call_entry F.slot_zip_next hT F.entry_zip_next (next3_end hh Z b1 e1 hx fun h' e q he => ?_) (F.args_zip_next_1 _))))
  obtain ⟨o, ho, hc⟩ := he
  exact wpAny_bind (wpAny_isInstance (T := "StopIteration") (b := true) ⟨o, ho, hc⟩ isSubtype_stop (wpAny_pure (hQ _ q)))
end
/-- the three lists as they stand at each turn, the items in new tuples of three -/
def Itz3 (K : PySem.W.Frag) (l1 l2 l3 : Nat) : It :=
  ⟨fun i H => ∃ (xs ys vs : List V) (x y v : V), SqL K H l1 xs ∧ SqL K H l2 ys ∧ SqL K H l3 vs ∧ xs[i]? = some x ∧ ys[i]? = some y ∧ vs[i]? = some v,
    fun i H u H' => ∃ T x y v, u = .ref T ∧ H T = none ∧ H' = upd H T (.tup [x, y, v]) ∧ (∀ xs, SqL K H l1 xs → xs[i]? = some x) ∧ (∀ ys, SqL K H l2 ys → ys[i]? = some y) ∧ ∀ vs, SqL K H l3 vs → vs[i]? = some v,
    fun i H => ∃ xs : List V, SqL K H l1 xs ∧ xs.length ≤ i⟩
abbrev fp3 (n : Nat) : List Nat := [n, n + 1, n + 2, n + 3, n + 4, n + 5]
theorem fp3_mem {n c : Nat} : c ∈ fp3 n ↔ n ≤ c ∧ c ≤ n + 5 := by
  simp only [fp3, List.mem_cons, List.not_mem_nil, or_false]
  omega
theorem turn_zip3 {P : Program} {w : World} {K : PySem.W.Frag} {elts : List Expr} {kk : Nat} {tpos : Pos} {n l1 l2 l3 : Nat} (b1 : l1 < n) (b2 : l2 < n) (b3 : l3 < n) :
    Turn P w K (.Tuple elts kk tpos) (Itz3 K l1 l2 l3) (fp3 n) (n + 5) (fun i h => ∃ a b c, Z3 h n l1 l2 l3 i .none a b c) where
  mem := fp3_mem.mpr (by omega)
  obj := fun i h st (c : Nat) hc => by
    obtain ⟨a, b, d, Z⟩ := st
    have r := fp3_mem.mp hc
    have cs : c = n ∨ c = n + 1 ∨ c = n + 2 ∨ c = n + 3 ∨ c = n + 4 ∨ c = n + 5 := by omega
    have it : ∀ {j l : Nat}, h.IsListIter j l i → ∃ o, h.get? j = some o ∧ ∀ v, o.data ≠ .cell v := fun ⟨o, g, _, q⟩ => ⟨o, g, fun v z => by rw [q] at z; cases z⟩
    rcases cs with rfl | rfl | rfl | rfl | rfl | rfl
    · exact it Z.i1
    · exact it Z.i2
    · exact it Z.i3
    · exact ⟨_, Z.ti, fun v z => nomatch z⟩
    · exact ⟨_, Z.to, fun v z => nomatch z⟩
    · exact ⟨_, Z.z, fun v z => nomatch z⟩
  keep := fun i h h' st q => by
    obtain ⟨a, b, d, Z⟩ := st
    have m : ∀ j, j ≤ 5 → n + j ∈ fp3 n := fun j hj => fp3_mem.mpr (by omega)
    exact ⟨a, b, d, q _ (m 5 (by omega)) _ Z.z, q _ (m 3 (by omega)) _ Z.ti, q _ (m 4 (by omega)) _ Z.to, Z.i1.at fun o e => q _ (m 0 (by omega)) o e, Z.i2.at fun o e => q _ (m 1 (by omega)) o e, Z.i3.at fun o e => q _ (m 2 (by omega)) o e⟩
  item := by
    intro X hP hw hK hc i pins s σ H E I hf st hg
    subst hP hw hK
    obtain ⟨a, b, d, Z⟩ := st
    obtain ⟨xs, ys, vs, x, y, v, q1, q2, q3, g1, g2, g3⟩ := hg
    obtain ⟨us, r1, p1, _⟩ := I.list q1
    obtain ⟨us2, r2, p2, _⟩ := I.list q2
    obtain ⟨us3, r3, p3, _⟩ := I.list q3
    obtain ⟨u1, m1, t1⟩ := r1.get g1
    obtain ⟨u2, m2, t2⟩ := r2.get g2
    obtain ⟨u3, m3, t3⟩ := r3.get g3
    have zl : n + 5 < s.heap.objs.size := Heap.lt_size Z.z
    refine py3_item Z b1 b2 b3 p1.isList p2.isList p3.isList (x := u1) (y := u2) (v := u3) (by simpa using m1) (by simpa using m2) (by simpa using m3) fun h' Z' T' sz fr => ?_
    refine ⟨_, rfl, wpAny_letOwnedTupleGo_zip (s := { s with heap := h' }) Z'.z fun h2 z2 sb => ?_⟩
    have T2 : h2.get? s.heap.objs.size = some { cls := .type "tuple", data := .seq #[u1, u2, u3] } := SBk sb (by omega) T'
    have new : ObjOk X.prog X.w (upd H s.heap.objs.size (.tup [x, y, v])) h2 s.heap.objs.size (.tup [x, y, v]) := ⟨by show 3 ≤ sizeLine; decide, [u1, u2, u3], .cons t1 (.cons t2 (.cons t3 .nil)), ⟨_, T2, rfl, _, rfl⟩⟩
    have I1 : Inv X pins σ (upd H s.heap.objs.size (.tup [x, y, v])) { s with heap := h2 } := I.turnedNew (t' := s.toks) (ch := fp3 n) (fun (j : Nat) o hb e => by
      have hb : ¬ (n ≤ j ∧ j ≤ n + 5) := fun z => hb (fp3_mem.mpr z)
      exact SBk sb (by omega) (fr j o (by omega) e)) hf (Nat.le_refl _) new
    refine ⟨.ref s.heap.objs.size, _, I1, rfl, ⟨_, x, y, v, rfl, I.hok.fresh (Nat.le_refl _), rfl, fun l hl => by rw [I.list_inj hl q1]; exact g1, fun l hl => by rw [I.list_inj hl q2]; exact g2, fun l hl => by rw [I.list_inj hl q3]; exact g3⟩, ⟨u1, u2, u3, z2, SBk sb (by omega) Z'.ti, SBk sb (by omega) Z'.to, Z'.i1.at fun o e => SBk sb (by omega) e, Z'.i2.at fun o e => SBk sb (by omega) e, Z'.i3.at fun o e => SBk sb (by omega) e⟩, fun (j : Nat) hj => ?_⟩
    have r := fp3_mem.mp hj
    have ne : s.heap.objs.size ≠ j := by omega
    rw [upd_ne ne.symm]
    exact (hf j hj).1
  done := by
    intro X hP hw hK hc i pins s σ H E I hf st hg
    subst hP hw hK
    obtain ⟨a, b, d, Z⟩ := st
    obtain ⟨xs, q1, hl⟩ := hg
    obtain ⟨us, r1, p1, _⟩ := I.list q1
    have l1 := r1.length
    refine py3_end (I.ok.hd hc) Z b1 p1.isList (by simp; omega) fun h' fr => ⟨rfl, I.turnedL (t' := s.toks) (ch := fp3 n) (fun (j : Nat) o hb e => ?_) hf⟩
    have hb : ¬ (n ≤ j ∧ j ≤ n + 5) := fun z => hb (fp3_mem.mpr z)
    exact fr j o (by omega) e
  self := fun A i s Q E st h => by
    obtain ⟨a, b, d, Z⟩ := st
    exact wpAny_pyIter_zip Z.z h
def iZip3 (K : PySem.W.Frag) (ta : TA) : TI := fun σ H R => ta σ H fun us H1 => ∃ l1 l2 l3 xs ys vs, us = [.ref l1, .ref l2, .ref l3] ∧ SqL K H1 l1 xs ∧ SqL K H1 l2 ys ∧ SqL K H1 l3 vs ∧ R (Itz3 K l1 l2 l3) H1
theorem pi_zip3 {X : Cx} {e e2 e3 : Expr} {ta : TA} {p pos tpos : Pos} {elts : List Expr} {kk : Nat} (hg : Gl X "zip") (hm : X.mg "zip" = none) (ha : PA X [e, e2, e3] ta)
    (hs : starEach [e, e2, e3] X.env = (false, eval e X.env) :: starEach [e2, e3] X.env := by rfl) (hpl : (backTo pos (starEach [e2, e3] X.env)).any (·.1) = false := by rfl) :
    PI X (.Tuple elts kk tpos) (.Call (.Name "zip" p) [e, e2, e3] [] pos) (iZip3 X.K ta) := by
  refine ⟨fun pins s σ H R I h => ?_⟩
  refine Call_ (ld_blt I hg hm PyProof.Rows.boot_zip (PyProof.Rows.callWith_type1 (thn (ha.run pos pins s σ H _ I h) fun us s1 ⟨vs, H1, I1, r1, q1⟩ => ?_) hs hpl))
  obtain ⟨l1, l2, l3, xs, ys, vs, ex, q1, q2, q3, q⟩ := q1
  subst ex
  cases r1 with
  | cons a1 r1 => cases r1 with
    | cons a2 r1 => cases r1 with
      | cons a3 r1 =>
        cases r1
        cases a1
        cases a2
        cases a3
        obtain ⟨us, _, p1, _⟩ := I1.list q1
        obtain ⟨us2, _, p2, _⟩ := I1.list q2
        obtain ⟨us3, _, p3, _⟩ := I1.list q3
        refine call_zip3 p1.isList p2.isList p3.isList fun h' Z sz fr => wpAny_pyIter_zip Z.z ?_
        have I2 : Inv X pins σ H1 { s1 with heap := h' } := I1.kept (t' := s1.toks) fr
        refine ⟨s1.heap.objs.size + 5, fp3 s1.heap.objs.size, _, _, H1, rfl, I2, turn_zip3 p1.lt p2.lt p3.lt, ⟨_, _, _, Z⟩, fun (c : Nat) hc => ?_, q⟩
        have r := fp3_mem.mp hc
        exact I1.fpOk r.1 (I1.hok.fresh r.1)
section
variable {C : Cxt} {W : Wx} {F F' H H' : Hp} {Γ : List Md} {σ : L2.St} {ρ : EnvD} {L : List Ent} {m ma mb mc mr : Md} {d : DV} {v : V} {st : Bool}
def zipD3 (xs ys vs : List DV) : List DV := (xs.zip (ys.zip vs)).map fun p => .tup [p.1, p.2.1, p.2.2]
def dZip3 : List DV → Rs (List DV)
  | [.lst xs, .lst ys, .lst vs] => if xs.length = ys.length ∧ xs.length = vs.length then .ok (zipD3 xs ys vs) else .stuck
  | _ => .stuck
def gZip3 (g : GA) : GI := fun ρ => (g ρ).bind dZip3
theorem zipD3_len {xs ys vs : List DV} (h : xs.length = ys.length ∧ xs.length = vs.length) : (zipD3 xs ys vs).length = xs.length := by
  unfold zipD3
  rw [List.length_map, List.length_zip, List.length_zip]
  omega
theorem zipD3_get {xs ys vs : List DV} {i : Nat} {d : DV} (h : (zipD3 xs ys vs)[i]? = some d) : ∃ x y v, xs[i]? = some x ∧ ys[i]? = some y ∧ vs[i]? = some v ∧ d = .tup [x, y, v] := by
  unfold zipD3 at h
  rw [List.getElem?_map] at h
  cases e : (xs.zip (ys.zip vs))[i]? with
  | none => rw [e] at h; cases h
  | some p =>
    rw [e] at h
    cases h
    obtain ⟨h1, h2⟩ := List.getElem?_zip_eq_some.mp e
    obtain ⟨h3, h4⟩ := List.getElem?_zip_eq_some.mp h2
    exact ⟨p.1, p.2.1, p.2.2, h1, h3, h4, rfl⟩
theorem si_zip3 {t : TA} {g : GA} (h : SA C W Γ t g [ma, mb, mc]) (qa : ma.ixok = true := by rfl) (qb : mb.ixok = true := by rfl) (qc : mc.ixok = true := by rfl) (ka : ma.kid = .fr := by rfl) (kb : mb.kid = .fr := by rfl) (kc : mc.kid = .fr := by rfl) (sa : ma.stor = true := by rfl) (sb : mb.stor = true := by rfl) (sc : mc.stor = true := by rfl) : SI C W Γ (iZip3 C.K t) (gZip3 g) .fr st := by
  intro F H σ ρ L R hL r k
  show t σ H fun us H1 => ∃ l1 l2 l3 xs ys vs, us = [.ref l1, .ref l2, .ref l3] ∧ SqL C.K H1 l1 xs ∧ SqL C.K H1 l2 ys ∧ SqL C.K H1 l3 vs ∧ R (Itz3 C.K l1 l2 l3) H1
  refine h F H σ ρ L _ hL r ?_
  unfold gZip3 at k
  revert k
  cases g ρ with
  | ex c d => exact fun k => k
  | stuck => exact fun k => k
  | ok ds =>
    intro k F1 H1 vs s1 s2 e1 e2 r1
    match vs, ds, e1, e2, r1, k with
    | [x, y, z], [dx, dy, dz], _, _, r1, k =>
      cases dx with
      | lst xs =>
        cases dy with
        | lst ys =>
          cases dz with
          | lst ws =>
            have r1 : Rep C F1 H1 Γ σ ρ ((mc, .lst ws, z) :: (mb, .lst ys, y) :: (ma, .lst xs, x) :: L) := r1
            have k : PI' C W Γ F H σ ρ L .fr st R (if xs.length = ys.length ∧ xs.length = ws.length then .ok (zipD3 xs ys ws) else .stuck) := k
            by_cases hl : xs.length = ys.length ∧ xs.length = ws.length
            case neg => rw [if_neg hl] at k; exact k.elim
            rw [if_pos hl] at k
            obtain ⟨l1, v1, h1, h2, h3⟩ := r1.tail.tail.items qa
            obtain ⟨l2, v2, g1, g2, g3⟩ := r1.tail.items qb
            obtain ⟨l3, v3, f1, f2, f3⟩ := r1.items qc
            refine ⟨l1, l2, l3, v1, v2, v3, by rw [h1, g1, f1], h2.1, g2.1, f2.1, ?_⟩
            refine k F1 H1 (Itz3 C.K l1 l2 l3) [(mc, .lst ws, z), (mb, .lst ys, y), (ma, .lst xs, x)] s1 s2 (fun _ => storL_cons sc (storL_cons sb (storL_cons sa rfl))) (fun e he => ?_) r1 ?_
            · rcases List.mem_cons.mp he with q | he
              · subst q; exact ⟨ixok_free qc, r1.free (ixok_free qc)⟩
              · rcases List.mem_cons.mp he with q | q
                · subst q; exact ⟨ixok_free qb, r1.tail.free (ixok_free qb)⟩
                · obtain rfl := List.mem_singleton.mp q
                  exact ⟨ixok_free qa, r1.tail.tail.free (ixok_free qa)⟩
            · intro i F2 H2 Γ2 σ2 ρ2 L2 r2
              have r2 : Rep C F2 H2 Γ2 σ2 ρ2 ((mc, .lst ws, z) :: (mb, .lst ys, y) :: (ma, .lst xs, x) :: L2) := r2
              obtain ⟨m1, w1, i1, i2, i3⟩ := r2.tail.tail.items qa
              obtain ⟨m2, w2, j1, j2, j3⟩ := r2.tail.items qb
              obtain ⟨m3, w3, k1, k2, k3⟩ := r2.items qc
              have ea : m1 = l1 := by rw [h1] at i1; cases i1; rfl
              have eb : m2 = l2 := by rw [g1] at j1; cases j1; rfl
              have ec : m3 = l3 := by rw [f1] at k1; cases k1; rfl
              subst ea
              subst eb
              subst ec
              refine ⟨fun hn => ⟨w1, i2.1, by rw [zipD3_len hl] at hn; rw [← i3.length]; omega⟩, fun d hd => ?_⟩
              obtain ⟨dx, dy, dz, e1, e2, e3, rfl⟩ := zipD3_get hd
              obtain ⟨p1, u1, u2⟩ := i3.nil_get e1
              obtain ⟨p2, u3, u4⟩ := j3.nil_get e2
              obtain ⟨p3, u5, u6⟩ := k3.nil_get e3
              refine ⟨⟨w1, w2, w3, p1, p2, p3, i2.1, j2.1, k2.1, u1, u3, u5⟩, fun q H' hy => ?_⟩
              obtain ⟨T, a, b, c, rfl, hT, rfl, y1, y2, y3⟩ := hy
              have ep : a = p1 := Option.some.inj ((y1 w1 i2.1).symm.trans u1)
              have eq : b = p2 := Option.some.inj ((y2 w2 j2.1).symm.trans u3)
              have er : c = p3 := Option.some.inj ((y3 w3 k2.1).symm.trans u5)
              subst ep
              subst eq
              subst er
              rw [ka] at u2
              rw [kb] at u4
              rw [kc] at u6
              have r3 : Rep C F2 H2 Γ2 σ2 ρ2 (entsA [.fr, .fr, .fr] [dx, dy, dz] [a, b, c] ((mc, .lst ws, z) :: (mb, .lst ys, y) :: (ma, .lst xs, x) :: L2)) := ((r2.cons0 u2).cons0 u4).cons0 u6
              obtain ⟨sf, r4⟩ := r3.tuple (m := .fr) (by decide) rfl rfl hT
              obtain ⟨F3, s3, r5⟩ := r4.freeze rfl
              exact ⟨F3, sf.trans s3, same_upd hT, r5⟩
          | _ => exact k.elim
        | _ => cases dz <;> exact k.elim
      | _ => cases dy <;> cases dz <;> exact k.elim
end
end DL
end

/-! text DM6 -/
section
set_option maxRecDepth 100000
set_option maxHeartbeats 4000000
/-! [*x, y]; dict(pairs), k in d, k not in d, d[k]; isinstance(x, bool) -/
namespace DL
open PySem PySem.Spec PyProof.Rows L2
section
variable {C : Cxt} {W : Wx} {F F' H H' : Hp} {Γ Γb Γ' : List Md} {σ : L2.St} {ρ : EnvD} {L : List Ent} {m ma mb mr M : Md} {d : DV} {v : V} {Dn : Ends}
theorem u1_of {n : Nat} (h : n + 65 < cLine) : n + 1 < cLine := Nat.lt_of_le_of_lt (Nat.add_le_add_left (by decide) n) h
/-! ### [*x, y] -/
def gSnoc (ga gb : GE) : GE := fun ρ => (ga ρ).bind fun x => match x with
  | .lst ds => (gb ρ).bind fun y => if ds.length + 1 ≤ sizeLine then .ok (.lst (ds ++ [y])) else .stuck
  | _ => .stuck
theorem se_snoc {ta tb : TE} {ga gb : GE} (ha : SE C W Γ ta ga ma) (hb : SE C W Γ tb gb .fr) (q : ma.ixok = true := by rfl) (qk : ma.kid = .fr := by rfl) (qo : (ma.stor || ma.free) = true := by rfl) : SE C W Γ (tLst (StX.tStar C.K ta (tCons tb tNil))) (gSnoc ga gb) (.own .fr) := by
  intro F H σ ρ L Q hL r k
  show ta σ H fun x H1 => ∃ p xs, x = V.ref p ∧ (SqT C.K H1 p xs ∨ SqL C.K H1 p xs) ∧ tb σ H1 fun y H2 => (xs ++ [y]).length ≤ sizeLine ∧ ∀ p, H2 p = none → Q (.ref p) (upd H2 p (.lst (xs ++ [y])))
  refine se_then ha hL r k fun dx F1 H1 x s1 s2 r1 k1 => ?_
  cases dx with
  | lst ds =>
    obtain ⟨a, vs, h1, h2, h3⟩ := r1.items q
    rw [qk] at h3
    refine ⟨a, vs, h1, .inr h2.1, ?_⟩
    refine se_then hb (okL_cons qo hL) r1 k1 fun dy F2 H2 y s3 s4 r2 k2 => ?_
    split at k2
    · rename_i hz
      have l := h3.length
      refine ⟨by rw [List.length_append, ← l]; exact hz, fun p np => ?_⟩
      have hy : At C F2 H2 .fr dy y [] := by obtain ⟨f, h⟩ := r2.head; exact ⟨rfl, h.2⟩
      have h4 : Alls (At C F2 H2 .fr) ds vs [] := h3.imp fun d v f hf x => x.mono s3 (fun a ha => absurd (hf a ha) (List.not_mem_nil)) (fun a ha => absurd (hf a ha) (List.not_mem_nil)) (.inl rfl)
      exact k2 F2 _ _ (Same.refl _) (same_upd np) (r2.tail.tail.newl np (h4.append ⟨y, [], [], [], rfl, rfl, hy, rfl, rfl⟩))
    · exact k2.elim
  | _ => exact k1.elim
/-! ### dicts of whole numbers -/
def prs : List DV → Option (List Int × List DV)
  | [] => some ([], [])
  | .tup [.int i, d] :: r => match prs r with
    | some (is, ds) => some (i :: is, d :: ds)
    | none => none
  | _ => none
def dDict : DV → Rs DV
  | .lst ds => match prs ds with
    | some (is, es) => if is.Nodup then .ok (.dct (is.map .inl) es) else .stuck
    | none => .stuck
  | _ => .stuck
def gDict (g : GE) : GE := fun ρ => (g ρ).bind dDict
theorem prs_ok : ∀ {ds : List DV} {vs : List V} {is : List Int} {es : List DV}, prs ds = some (is, es) → DAs C.K C.mg F ds vs →
    ∃ (ps : List Addr) (ws : List V), vs = ps.map V.ref ∧ Paired (fun p kv => SqT C.K F p [kV kv.1, kv.2]) ps ((is.map Sum.inl).zip ws) ∧ DAs C.K C.mg F es ws ∧ (is.map (Sum.inl : Int → Key)).length = ws.length
  | [], vs, is, es, h, k => by
    cases h
    obtain rfl : vs = [] := k
    exact ⟨[], [], rfl, .nil, rfl, rfl⟩
  | d :: ds, vs, is, es, h, k => by
    unfold prs at h
    split at h
    · rename_i e
      cases e
    · rename_i i dd r e
      cases e
      split at h
      · rename_i js fs e2
        cases h
        obtain ⟨v, r2, rfl, h1, h2⟩ := k
        obtain ⟨ps, ws, g1, g2, g3, g4⟩ := prs_ok e2 h2
        obtain ⟨a, us, rfl, hs, u1, u2, rfl, hi, u3, u4, rfl, hd, he⟩ := h1
        obtain rfl : u1 = .int i := hi
        obtain rfl : u4 = [] := he
        exact ⟨a :: ps, u3 :: ws, by rw [g1]; rfl, .cons hs g2, ⟨u3, ws, rfl, hd, g3⟩, by rw [List.map_cons, List.length_cons, List.length_cons, g4]⟩
      · cases h
    · cases h
theorem pairedI {α β : Type} {R S : α → β → Prop} {as : List α} {bs : List β} (h : Paired R as bs) (k : ∀ a b, R a b → S a b) : Paired S as bs := by
  induction h with
  | nil => exact .nil
  | cons a _ ih => exact .cons (k _ _ a) ih
theorem mergeK_nd : ∀ (kvs acc : List (Key × V)), (acc.map (·.1) ++ kvs.map (·.1)).Nodup → mergeK acc kvs = acc ++ kvs
  | [], acc, _ => by rw [List.append_nil]; rfl
  | kv :: kvs, acc, h => by
    have h2 : (acc.map (·.1) ++ kv.1 :: kvs.map (·.1)).Nodup := h
    have n : ∀ x ∈ acc, x.1 ≠ kv.1 := fun x hx e => (List.nodup_append.mp h2).2.2 x.1 (List.mem_map_of_mem hx) kv.1 List.mem_cons_self e
    have e : putK acc kv.1 kv.2 = acc ++ [kv] := by
      unfold putK
      rw [if_neg]
      intro z
      obtain ⟨x, hx, ex⟩ := List.any_eq_true.mp z
      exact n x hx (of_decide_eq_true ex)
    show mergeK (putK acc kv.1 kv.2) kvs = _
    rw [e, mergeK_nd kvs (acc ++ [kv]) (by simpa using h2), List.append_assoc]
    rfl
theorem se_dict {t : TE} {g : GE} {rr : List V → Hp → VK → Prop} (hr : rr = fun xs H Q => ∃ (a : Addr) (ps : List Addr) (kvs : List (Key × V)), xs = [V.ref a] ∧ SqL C.K H a (List.map V.ref ps) ∧ Paired (fun p kv => SqT C.K H p [kV kv.fst, kv.snd]) ps kvs ∧ ∀ (p : Addr), H p = none → Q (V.ref p) (upd H p (HO.dK (mergeK [] kvs)))) (ha : SE C W Γ t g ma) (q : ma.ixok = true := by rfl) (qk : ma.kid = .fr := by rfl) : SE C W Γ (tCB rr (tCons t tNil)) (gDict g) (.own .fr) := by
  subst hr
  intro F H σ ρ L Q hL r k
  show t σ H fun x H1 => ∃ (a : Addr) (ps : List Addr) (kvs : List (Key × V)), [x] = [V.ref a] ∧ SqL C.K H1 a (List.map V.ref ps) ∧ Paired (fun p kv => SqT C.K H1 p [kV kv.fst, kv.snd]) ps kvs ∧ ∀ (p : Addr), H1 p = none → Q (V.ref p) (upd H1 p (HO.dK (mergeK [] kvs)))
  refine se_then ha hL r k fun dx F1 H1 x s1 s2 r1 k1 => ?_
  cases dx with
  | lst ds =>
    obtain ⟨a, vs, h1, h2, h3⟩ := r1.items q
    rw [qk] at h3
    subst h1
    revert k1
    show PE' C W Γ F1 H1 σ ρ L (.own .fr) Q (match prs ds with | some (is, es) => if is.Nodup then .ok (.dct (is.map .inl) es) else .stuck | none => .stuck) → _
    cases e : prs ds with
    | none => exact fun k => k.elim
    | some z =>
      obtain ⟨is, es⟩ := z
      intro k
      dsimp only at k
      split at k
      · rename_i hn
        have h5 : DAs C.K C.mg F1 ds vs := h3.das fun d v f _ x => x.2
        obtain ⟨ps, ws, rfl, g2, g3, g4⟩ := prs_ok e h5
        have fh := r1.fit.fh
        refine ⟨a, ps, _, rfl, h2.1, pairedI g2 fun p kv x => same_sqt fh x, fun p np => ?_⟩
        have em : mergeK [] ((is.map (Sum.inl : Int → Key)).zip ws) = (is.map Sum.inl).zip ws := by
          rw [mergeK_nd _ _ ?_]
          · rfl
          · show (((is.map (Sum.inl : Int → Key)).zip ws).map (·.1)).Nodup
            rw [show (fun x : Key × V => x.1) = Prod.fst from rfl, List.map_fst_zip (by omega)]
            exact List.pairwise_map.mpr (hn.imp fun h e => h (Sum.inl.inj e))
        rw [em]
        have s : Same H1 (upd H1 p (.dK ((is.map Sum.inl).zip ws))) := same_upd np
        refine k F1 _ _ (Same.refl _) s (r1.tail.new s (upd_nt np rfl) (fp := [p]) ?_ (by simp) (fun b hb => by rw [List.mem_singleton.mp hb]; exact np))
        unfold At
        rw [if_pos (show isLD (.dct (is.map Sum.inl) es) = true from rfl)]
        exact ⟨p, ws, _, [], rfl, Same.free fh np, Same.free r1.fit.bh np, upd_same, ⟨rfl, g4⟩, rfl, Alls.of_das g3 fun d v x => ⟨rfl, x⟩⟩
      · exact k.elim
  | _ => exact k1.elim
def lookD (ks : List Key) (ds : List DV) (k : Key) : Option DV := (ks.zip ds).find? (fun z => decide (z.1 = k)) |>.map (·.2)
theorem look_at : ∀ {ks : List Key} {ds : List DV} {vs : List V} {k : Key}, DAs C.K C.mg F ds vs → match lookD ks ds k with
    | none => valV (ks.zip vs) k = none
    | some d => ∃ v, valV (ks.zip vs) k = some v ∧ DA C.K C.mg F d v
  | [], ds, vs, k, h => rfl
  | k' :: ks, [], vs, k, h => by obtain rfl : vs = [] := h; rfl
  | k' :: ks, d :: ds, vs, k, h => by
    obtain ⟨v, r, rfl, h1, h2⟩ := h
    have ih := look_at (ks := ks) (k := k) h2
    unfold lookD valV at ih ⊢
    rw [List.zip_cons_cons, List.zip_cons_cons, List.find?_cons, List.find?_cons]
    by_cases e : k' = k
    · dsimp only
      rw [show decide (k' = k) = true from decide_eq_true e]
      exact ⟨v, rfl, h1⟩
    · dsimp only
      rw [show decide (k' = k) = false from decide_eq_false e]
      exact ih
def dDIn (b : Bool) : OpD := fun x y => match x, y with
  | .int i, .dct ks ds => .ok (.bl (b ^^ (lookD ks ds (.inl i)).isSome))
  | _, _ => .stuck
def dDGet : OpD := fun x y => match x, y with
  | .dct ks ds, .int i => match lookD ks ds (.inl i) with
    | some d => .ok d
    | none => .stuck
  | _, _ => .stuck
theorem Rep.dct {ks : List Key} {ds : List DV} (r : Rep C F H Γ σ ρ ((.fr, .dct ks ds, v) :: L)) : ∃ a vs, v = .ref a ∧ H a = some (.dK (ks.zip vs)) ∧ DAs C.K C.mg F ds vs := by
  obtain ⟨a, vs, h1, h2, h3⟩ := r.fr
  exact ⟨a, vs, h1, r.fit.fh _ _ h2.1, h3⟩
theorem isSome_at {ks : List Key} {ds : List DV} {vs : List V} {k : Key} (h : DAs C.K C.mg F ds vs) : (valV (ks.zip vs) k).isSome = (lookD ks ds k).isSome := by
  have z := look_at (ks := ks) (k := k) h
  revert z
  cases lookD ks ds k with
  | none => intro z; rw [show _ = none from z]; rfl
  | some d => rintro ⟨v, z, _⟩; rw [z]; rfl
theorem se_din {ta tb : TE} {ga gb : GE} (ha : SE C W Γ ta ga ma) (hb : SE C W Γ tb gb .fr) (q : ma.rd = true := by rfl) (qo : (ma.stor || ma.free) = true := by rfl) : SE C W Γ (tDIn ta tb) (gBin (dDIn false) ga gb) .fr := by
  intro F H σ ρ L Q hL r k
  show ta σ H fun y H1 => tb σ H1 fun x H2 => ∃ a o, x = V.ref a ∧ DGet H2 a y o ∧ Q (V.bl o.isSome) H2
  refine se_then ha hL r k fun dx F1 H1 x s1 s2 r1 k1 => ?_
  refine se_then hb (okL_cons qo hL) r1 k1 fun dy F2 H2 y s3 s4 r2 k2 => ?_
  unfold dDIn at k2
  split at k2
  · rename_i i ks ds
    obtain ⟨a, vs, h1, h2, h3⟩ := r2.dct
    have hx : x = .int i := r2.tail.da q
    subst hx
    refine ⟨a, _, h1, DGet.k (k := Sum.inl i) h2, ?_⟩
    rw [isSome_at h3]
    rw [Bool.false_xor] at k2
    exact k2.flat r2.tail.tail rfl rfl
  · exact k2.elim
theorem se_dnotin {ta tb : TE} {ga gb : GE} (ha : SE C W Γ ta ga ma) (hb : SE C W Γ tb gb .fr) (q : ma.rd = true := by rfl) (qo : (ma.stor || ma.free) = true := by rfl) : SE C W Γ (tDNotIn ta tb) (gBin (dDIn true) ga gb) .fr := by
  intro F H σ ρ L Q hL r k
  show ta σ H fun y H1 => tb σ H1 fun x H2 => ∃ a o, x = V.ref a ∧ DGet H2 a y o ∧ Q (V.bl !o.isSome) H2
  refine se_then ha hL r k fun dx F1 H1 x s1 s2 r1 k1 => ?_
  refine se_then hb (okL_cons qo hL) r1 k1 fun dy F2 H2 y s3 s4 r2 k2 => ?_
  unfold dDIn at k2
  split at k2
  · rename_i i ks ds
    obtain ⟨a, vs, h1, h2, h3⟩ := r2.dct
    have hx : x = .int i := r2.tail.da q
    subst hx
    refine ⟨a, _, h1, DGet.k (k := Sum.inl i) h2, ?_⟩
    rw [isSome_at h3]
    rw [Bool.true_xor] at k2
    exact k2.flat r2.tail.tail rfl rfl
  · exact k2.elim
theorem se_dget {ta tb : TE} {ga gb : GE} (ha : SE C W Γ ta ga .fr) (hb : SE C W Γ tb gb mb) (q : mb.rd = true := by rfl) : SE C W Γ (tDGet ta tb) (gBin dDGet ga gb) .fr := by
  intro F H σ ρ L Q hL r k
  show ta σ H fun x H1 => tb σ H1 fun y H2 => ∃ a v, x = V.ref a ∧ DGet H2 a y (some v) ∧ Q v H2
  refine se_then ha hL r k fun dx F1 H1 x s1 s2 r1 k1 => ?_
  refine se_then hb (okL_cons (by rfl) hL) r1 k1 fun dy F2 H2 y s3 s4 r2 k2 => ?_
  unfold dDGet at k2
  split at k2
  · rename_i ks ds i
    obtain ⟨a, vs, h1, h2, h3⟩ := r2.tail.dct
    have hy : y = .int i := r2.da q
    subst hy
    have z := look_at (ks := ks) (k := .inl i) h3
    revert z k2
    cases lookD ks ds (.inl i) with
    | none => exact fun k2 => k2.elim
    | some d =>
      rintro k2 ⟨v, z, hv⟩
      have g := DGet.k (k := Sum.inl i) h2
      rw [z] at g
      exact ⟨a, v, h1, g, k2 F2 H2 v (Same.refl _) (Same.refl _) (r2.tail.tail.cons0 ⟨rfl, hv⟩)⟩
  · exact k2.elim
/-! ### isinstance(x, bool) -/
def dIsBool : DV → Rs DV
  | .bl _ => .ok (.bl true)
  | _ => .stuck
def gIsBool (g : GE) : GE := fun ρ => (g ρ).bind dIsBool
theorem se_isBool {t : TE} {g : GE} (ha : SE C W Γ t g ma) (q : ma.rd = true := by rfl) : SE C W Γ (tCB (rIsi C.K) (tCons t (tCons (tC (.ty "bool")) tNil))) (gIsBool g) .fr := by
  intro F H σ ρ L Q hL r k
  show t σ H fun x H1 => rIsi C.K [x, .ty "bool"] H1 Q
  refine se_then ha hL r k fun dx F1 H1 x s1 s2 r1 k1 => ?_
  cases dx with
  | bl b =>
    have hx : x = .bl b := r1.da q
    subst hx
    exact ⟨_, _, _, _, true, rfl, .ty "bool", .base (.bl b), kit_ty (by decide +kernel), k1.flat r1.tail rfl rfl⟩
  | _ => exact k1.elim
end
end DL
end

/-! text DM7 -/
section
set_option maxRecDepth 100000
set_option maxHeartbeats 4000000
/-! data that are frozen and new: made, read, handed back as owned -/
namespace DL
open PySem PySem.Spec PyProof.Rows L2
section
variable {C : Cxt} {W : Wx} {F F' H H' : Hp} {Γ Γb Γ' : List Md} {σ : L2.St} {ρ : EnvD} {L : List Ent} {m ma mb mr M : Md} {d : DV} {v : V} {Dn : Ends}
@[reducible] def Md.yz : Md → Bool
  | .yg => true
  | .own m => m.yz
  | .tu m => m.yz
  | _ => false
def ydata : DV → Bool
  | .dct _ _ => false
  | .obj _ _ _ => false
  | _ => true
theorem At.yzF (s0 : Same C.F0 F) : ∀ {m : Md} {d : DV} {v : V} {fp : List Addr}, m.yz = true → ydata d = true → At C F H m d v fp → Same F F' → (∀ a ∈ fp, F' a = H a) → (∀ x ∈ fp, F x = none) → (m = .yg ∨ m = .own .yg ∨ m = .tu .yg) → (m = .own .yg → isTup d = false) → (m = .tu .yg → isLD d = false) → DY C.K C.F0 F' d v := by
  intro m d v fp q yd h e k kn hm hn hl
  rcases hm with hm | hm | hm <;> subst hm
  · exact DY.mono e (fun _ h => h) _ _ h.2
  · unfold At at h
    split at h
    · rename_i z
      cases d with
      | lst ds =>
        obtain ⟨a, vs, o, fc, rfl, h2, h3, h4, h5, h6, h7⟩ := h
        obtain rfl : o = .lst vs := h5
        subst h6
        have ka := k a List.mem_cons_self
        rw [h4] at ka
        exact ⟨a, vs, rfl, ⟨ka, Same.free s0 h2⟩, h7.dys fun d v f x => DY.mono e (fun _ h => h) _ _ x.2⟩
      | dct ks ds => cases yd
      | _ => cases z
    · rename_i z
      have := hn rfl
      cases d with
      | tup ds => cases this
      | lst ds => exact absurd rfl z
      | dct ks ds => cases yd
      | obj c ns ds => cases yd
      | _ => exact h.2
  · unfold At at h
    split at h
    · rename_i z
      cases d with
      | tup ds =>
        obtain ⟨a, vs, rfl, h2, h3⟩ := h
        exact ⟨a, vs, rfl, same_sqt e h2, h3.dys fun d v f x => DY.mono e (fun _ h => h) _ _ x.2⟩
      | _ => cases z
    · rename_i z
      have := hl rfl
      cases d with
      | tup ds => exact absurd rfl z
      | lst ds => cases this
      | dct ks ds => cases yd
      | obj c ns ds => cases yd
      | _ => exact h.2
theorem Rep.freezeY (r : Rep C F H Γ σ ρ ((m, d, v) :: L)) (q : m.yz = true) (yd : ydata d = true) (hm : m = .yg ∨ m = .own .yg ∨ m = .tu .yg) (hn : m = .own .yg → isTup d = false) (hl : m = .tu .yg → isLD d = false) : ∃ F', Same F F' ∧ Rep C F' H Γ σ ρ ((.yg, d, v) :: L) := by
  obtain ⟨f1, f2, nd, a, g1, g2, h1, h2, h3⟩ := r.own
  subst h1
  have o2 := h2.owned
  have s1 : Same F (DL.frz g1 F H) := frz_same fun a ha => (o2 a ha).1
  have nd2 := List.nodup_append.mp nd
  have nd3 := List.nodup_append.mp nd2.2.1
  have d1 : ∀ x ∈ f1, x ∉ g1 := fun x hx hy => nd2.2.2 x hx x (List.mem_append_left _ hy) rfl
  have d2 : ∀ x ∈ g2, x ∉ g1 := fun x hx hy => nd3.2.2 x hy x hx rfl
  refine ⟨DL.frz g1 F H, s1, ⟨r.fit.ff.trans s1, frz_le r.fit.fh, r.fit.bh, fun x hx => ?_, fun x o hx q => s1 _ _ (r.fit.tp x o hx q)⟩, r.io, f1, g2, ?_, ?_, [], g2, rfl, ⟨rfl, ?_⟩, ?_⟩
  · by_cases hm : x ∈ g1
    · exact .inr (.inl (o2 x hm).2.1)
    · rw [frz_out hm] at hx
      exact r.fit.f0 x hx
  · exact nd.sublist (List.Sublist.append (List.Sublist.refl _) (List.sublist_append_right _ _))
  · exact a.mono s1 (fun x hx => by rw [frz_out (d1 x hx)]; exact (a.owned x hx).1) (fun _ _ => rfl) (.inr (Same.refl _))
  · exact h2.yzF r.fit.ff q yd s1 (fun x hx => by unfold DL.frz; rw [if_pos hx]) (fun x hx => (o2 x hx).1) hm hn hl
  · exact h3.mono s1 (fun x hx => by rw [frz_out (d2 x hx)]; exact (h3.owned x hx).1) (fun _ _ => rfl) (.inr (Same.refl _))
/-- the value of a display of new data -/
def gYg (g : GE) : GE := fun ρ => (g ρ).bind fun d => match d with
  | .lst ds => .ok (.lst ds)
  | _ => .stuck
theorem se_ygL {t : TE} {g : GE} (h : SE C W Γ t g (.own .yg)) : SE C W Γ t (gYg g) .yg := by
  intro F H σ ρ L Q hL r k
  refine se_then h hL r k fun d F1 H1 x s1 s2 r1 k1 => ?_
  cases d with
  | lst ds =>
    obtain ⟨F2, s3, r2⟩ := r1.freezeY rfl rfl (.inr (.inl rfl)) (fun _ => rfl) (fun z => by cases z)
    exact k1 F2 H1 x s3 (Same.refl _) r2
  | _ => exact k1.elim
def gYgT (g : GE) : GE := fun ρ => (g ρ).bind fun d => match d with
  | .tup ds => .ok (.tup ds)
  | _ => .stuck
theorem se_ygT {t : TE} {g : GE} (h : SE C W Γ t g (.tu .yg)) : SE C W Γ t (gYgT g) .yg := by
  intro F H σ ρ L Q hL r k
  refine se_then h hL r k fun d F1 H1 x s1 s2 r1 k1 => ?_
  cases d with
  | tup ds =>
    obtain ⟨F2, s3, r2⟩ := r1.freezeY rfl rfl (.inr (.inr rfl)) (fun z => by cases z) (fun _ => rfl)
    exact k1 F2 H1 x s3 (Same.refl _) r2
  | _ => exact k1.elim
/-- [*x, y] of new data -/
theorem se_snocY {ta tb : TE} {ga gb : GE} (ha : SE C W Γ ta ga .yg) (hb : SE C W Γ tb gb .yg) : SE C W Γ (tLst (StX.tStar C.K ta (tCons tb tNil))) (gSnoc ga gb) (.own .yg) := by
  intro F H σ ρ L Q hL r k
  show ta σ H fun x H1 => ∃ p xs, x = V.ref p ∧ (SqT C.K H1 p xs ∨ SqL C.K H1 p xs) ∧ tb σ H1 fun y H2 => (xs ++ [y]).length ≤ sizeLine ∧ ∀ p, H2 p = none → Q (.ref p) (upd H2 p (.lst (xs ++ [y])))
  refine se_then ha hL r k fun dx F1 H1 x s1 s2 r1 k1 => ?_
  cases dx with
  | lst ds =>
    obtain ⟨a, vs, h1, h2, h3⟩ := r1.items rfl
    refine ⟨a, vs, h1, .inr h2.1, ?_⟩
    refine se_then hb (okL_cons rfl hL) r1 k1 fun dy F2 H2 y s3 s4 r2 k2 => ?_
    split at k2
    · rename_i hz
      have l := h3.length
      refine ⟨by rw [List.length_append, ← l]; exact hz, fun p np => ?_⟩
      have hy : At C F2 H2 .yg dy y [] := by obtain ⟨f, h⟩ := r2.head; exact ⟨rfl, h.2⟩
      have h4 : Alls (At C F2 H2 .yg) ds vs [] := h3.imp fun d v f hf x => x.mono s3 (fun a ha => absurd (hf a ha) (List.not_mem_nil)) (fun a ha => absurd (hf a ha) (List.not_mem_nil)) (.inl rfl)
      exact k2 F2 _ _ (Same.refl _) (same_upd np) (r2.tail.tail.newl np (h4.append ⟨y, [], [], [], rfl, rfl, hy, rfl, rfl⟩))
    · exact k2.elim
  | _ => exact k1.elim
/-- [e] * n of new data -/
theorem os_repY (rb : mb.rd = true := by rfl) : OpS C W rRep dRep (.own .yg) mb (.own .yg) := by
  intro Γ F H σ ρ L x y dx dy Q r k
  have hy := r.da rb
  obtain ⟨f, hx⟩ := r.tail.head
  unfold dRep at k
  split at k
  · rename_i xs j
    unfold At at hx
    rw [if_pos (show isLD (.lst xs) = true from rfl)] at hx
    obtain ⟨a, vs, o, fc, h1, h2, h3, h4, h5, h6, h7⟩ := hx
    obtain rfl : o = .lst vs := h5
    have h8 : Alls (At C F H .yg) xs vs [] := h7.pt fun d v f x => ⟨rfl, x.2⟩
    split at k
    · rename_i hz
      refine ⟨a, j, vs, h1, hy, h4, hz.2.1, hz.2.2, by rw [← h8.length]; exact hz.1, fun p np => ?_⟩
      exact k F _ _ (Same.refl _) (same_upd np) (r.tail.tail.newl np (h8.flat _))
    · exact k.elim
  · exact k.elim
/-- xs[i] of an own list of new data -/
def dIxY : OpD := fun x y => match x, y with
  | .lst ds, .int i => ofO (L2.atI ds i)
  | _, _ => .stuck
theorem os_ixY (qb : mb.rd = true := by rfl) : OpS C W (rIxX C.K) dIxY (.pk .yg) mb .yg := by
  intro Γ F H σ ρ L x y dx dy Q r k
  unfold dIxY at k
  have hy := r.da qb
  split at k
  · rename_i ds i
    obtain ⟨f, h⟩ := r.tail.head
    unfold At at h
    rw [if_pos (show isLD (DV.lst ds) = true from rfl)] at h
    obtain ⟨a, vs, h1, h2, h3⟩ := h
    have h3 : Alls (At C F H .yg) ds vs [] := h3.pt fun d v f x => ⟨rfl, x.2⟩
    cases e : L2.atI ds i with
    | none => rw [e] at k; exact k.elim
    | some d =>
      rw [e] at k
      obtain ⟨w, e1, e2⟩ := h3.atI e
      exact .inl ⟨a, vs, i, w, h1, hy, .inl h2, e1, k.give r.tail.tail e2⟩
  · exact k.elim
end
/-! ### what a def hands back, thawed -/
def thawD (d : DV) : Rs DV := match d with
  | .lst ds => if (flats ds).isSome = true then .ok d else .stuck
  | _ => if (flat d).isSome = true then .ok d else .stuck
def thawF (f : List DV → Rs DV) : List DV → Rs DV := fun ds => (f ds).bind thawD
theorem dys_flat {K : PySem.W.Frag} {mg : Str → Option Value} {F0 F : Hp} {ds : List DV} {vs ws : List V} (h : flats ds = some ws) (k : DYs K F0 F ds vs) : vs = ws := flats_ok (K := K) (mg := mg) h (DYs.das _ _ k)
theorem alls_flat {C : Cxt} {F H : Hp} {m : Md} (q : m.rd = true) : ∀ {ds : List DV} {ws : List V}, flats ds = some ws → Alls (At C F H m) ds ws []
  | [], ws, h => by cases h; exact ⟨rfl, rfl⟩
  | d :: ds, ws, h => by
    unfold flats at h
    split at h
    · rename_i w us a b
      cases h
      exact ⟨w, us, [], [], rfl, rfl, At.flat q a, alls_flat q b⟩
    · cases h
theorem fn_thaw {P : Program} {w : World} {CX : CXT} {XW : XK → Wx} {K : PySem.W.Frag} {mg : Str → Option Value} {base : Heap} {k : Nat} {f : Addr} {fd : FuncData} {ps : List Str} {pm : List Md} {g : List DV → Rs DV} (h : FnOk P w K mg base CX k f fd ps (spD K mg XW pm .yg g)) : FnOk P w K mg base CX k f fd ps (spD K mg XW pm (.own .fr) (thawF g)) := by
  have key : ∀ vs H Q E, spD K mg XW pm (.own .fr) (thawF g) vs H Q E → spD K mg XW pm .yg g vs H Q E := by
    intro vs H Q E ⟨F, ds, h1, h2, h3⟩
    refine ⟨F, ds, h1, h2, ?_⟩
    unfold thawF at h3
    revert h3
    cases g ds with
    | ex c d => exact fun h3 => h3
    | stuck => exact fun h3 => h3
    | ok d =>
      intro h3 F1 H1 v fp s f1 hA nd
      have h3 : PD (C0 K mg H F) (XW E) F (.own .fr) Q (thawD d) := h3
      classical
      let F2 : Hp := fun a => if F a ≠ none ∨ ∃ o, H1 a = some o ∧ tupO o = true then F1 a else none
      have e2 : ∀ a, (F a ≠ none ∨ ∃ o, H1 a = some o ∧ tupO o = true) → F2 a = F1 a := fun a z => if_pos z
      have n2 : ∀ a, F2 a ≠ none → F2 a = F1 a := fun a z => by
        by_cases c : F a ≠ none ∨ ∃ o, H1 a = some o ∧ tupO o = true
        · exact e2 a c
        · exact absurd (show F2 a = none from if_neg c) z
      have sF : Same F F2 := fun a o e => by
        rw [e2 a (.inl (by rw [e]; exact fun z => by cases z))]
        exact s _ _ e
      have fit : Fit (C0 K mg H F) F2 H1 := by
        refine ⟨sF, fun a o e => ?_, f1.bh, fun a z => ?_, fun a o e q => ?_⟩
        · have := n2 a (by rw [e]; exact fun z => by cases z)
          rw [this] at e
          exact f1.fh _ _ e
        · have := n2 a z
          rw [this] at z
          exact f1.f0 a z
        · rw [e2 a (.inr ⟨o, e, q⟩)]
          exact f1.tp a o e q
      cases d with
      | lst es =>
        unfold thawD at h3
        dsimp only at h3
        split at h3
        · rename_i hz
          obtain ⟨ws, hw⟩ := Option.isSome_iff_exists.mp hz
          obtain ⟨_, a, us, rfl, ⟨ha, h0⟩, hk⟩ := hA
          obtain rfl := dys_flat (mg := mg) hw hk
          have hH : H1 a = some (.lst us) := f1.fh _ _ ha
          have h0 : F a = none := h0
          have a2 : F2 a = none := if_neg (fun z => by
            rcases z with z | ⟨o, z, q⟩
            · exact z h0
            · rw [hH] at z; cases z; cases q)
          have ab : (C0 K mg H F).Bp a = none := by
            rcases f1.f0 a (by rw [ha]; exact fun z => by cases z) with z | z | ⟨o, z, q⟩
            · exact absurd h0 z
            · exact z
            · have := f1.bh _ _ z
              rw [hH] at this
              cases this
              cases q
          refine h3 F2 H1 (.ref a) [a] sF fit ?_ (by simp)
          unfold At
          rw [if_pos (show isLD (.lst es) = true from rfl)]
          exact ⟨a, us, _, [], rfl, a2, ab, hH, rfl, rfl, alls_flat rfl hw⟩
        · exact h3.elim
      | non => exact h3 F2 H1 v [] sF fit (by have z : v = .non := hA.2; subst z; exact At.flat rfl rfl) List.nodup_nil
      | bl b => exact h3 F2 H1 v [] sF fit (by have z : v = .bl b := hA.2; subst z; exact At.flat rfl rfl) List.nodup_nil
      | int b => exact h3 F2 H1 v [] sF fit (by have z : v = .int b := hA.2; subst z; exact At.flat rfl rfl) List.nodup_nil
      | str b => exact h3 F2 H1 v [] sF fit (by have z : v = .str b := hA.2; subst z; exact At.flat rfl rfl) List.nodup_nil
      | tup _ => exact h3.elim
      | dct _ _ => exact h3.elim
      | obj _ _ _ => exact h3.elim
  exact ⟨fun vs H Q E z => h.len vs H Q E (key vs H Q E z), fun A outer s H args us vs Q E a1 a2 a3 a4 z => h.run A outer s H args us vs Q E a1 a2 a3 a4 (key vs H Q E z)⟩
end DL
end

/-! text DLI -/
section
set_option maxRecDepth 100000
set_option maxHeartbeats 4000000
/-! the head of a law without imports whose program has own exceptions: the root's __init__ is looked at, too -/
namespace DL
open PySem PySem.Spec PyProof.Rows L2
abbrev AlY : Type := He.AlD × IniW
def obsYG (n : Nat) (qs : Qs) (fn : List He.DefD) (x : Str) (g : Addr → Option Obj) : AlY := (obsX qs fn (He.frG g (cStatics :: He.asD g n)), iniW (He.frG g (cStatics :: He.asD g n)) x)
def hookY (n : Nat) (qs : Qs) (fn : List He.DefD) (x : Str) (v : IniW) : PySem.W.Hook where
  α := AlY
  obs := fun s => obsYG n qs fn x s.heap.get?
  val := fun _ => (He.valD fn, v)
  says := fun _ h => ∃ K : PySem.W.Frag, K.In h ∧ SaysX qs fn K ∧ iniW K x = v
  of := fun _ _ e => ⟨_, He.frG_in, congrArg Prod.fst e, congrArg Prod.snd e⟩
  keeps := fun _ _ _ ⟨K, hK, c⟩ k => ⟨K, PySem.W.Frag.In.keeps hK k, c⟩
theorem obsYG_eq {n : Nat} {qs : Qs} {fn : List He.DefD} {x : Str} {v : IniW} {g : Addr → Option Obj} {s : Shared} (h : ∀ a, g a = s.heap.get? a) : obsYG n qs fn x g = (hookY n qs fn x v).obs s := by
  have e : g = s.heap.get? := funext h
  rw [e] <;> rfl
end DL
end

/-! text ML -/
section
set_option maxRecDepth 100000
set_option maxHeartbeats 4000000
/-! plain laws, part 0: what the mirrors compute at ints; loops -/
namespace DL
open PySem L2
theorem sz_eq : sizeLine = 16777216 := by decide
theorem dII_ok {p : Int → Int → Bool} {g : Int → Int → DV} {i j : Int} (h : p i j = true) : dII p g (.int i) (.int j) = .ok (g i j) := if_pos h
theorem opOr_l {f g : OpD} {x y d : DV} (h : f x y = .ok d) : opOr f g x y = .ok d := by
  unfold opOr
  rw [h]
section
variable {i j : Int}
theorem dAdd_i : dAdd (.int i) (.int j) = .ok (.int (i + j)) := rfl
theorem dSub_i : dSub (.int i) (.int j) = .ok (.int (i - j)) := rfl
theorem dMul_i (h : mulOk i j = true) : dMul (.int i) (.int j) = .ok (.int (i * j)) := if_pos h
theorem dLt_i : dLt (.int i) (.int j) = .ok (.bl (decide (i < j))) := rfl
theorem dLe_i : dLe (.int i) (.int j) = .ok (.bl (decide (i ≤ j))) := rfl
theorem dGt_i : dGt (.int i) (.int j) = .ok (.bl (decide (j < i))) := rfl
theorem dGe_i : dGe (.int i) (.int j) = .ok (.bl (decide (j ≤ i))) := rfl
theorem dNeg_i : dNeg (.int i) = .ok (.int (-i)) := rfl
theorem dInt_i : dInt [.int i] = .ok (.int i) := rfl
theorem dMod_i (h : 0 < j) : dMod (.int i) (.int j) = .ok (.int (i % j)) := opOr_l (dII_ok (decide_eq_true h))
theorem dDiv_i (h : 0 < j) (h2 : j.natAbs.log2 < 9000) : dDiv (.int i) (.int j) = .ok (.int (i / j)) := opOr_l (dII_ok (by
  unfold divOk
  rw [decide_eq_true h, decide_eq_true h2]
  rfl))
theorem eqv_i : eqv (.int i) (.int j) = decide (i = j) := by
  unfold eqv py
  first
    | rfl
    | (unfold PyData.eqv; rfl)
theorem dEq_i : dEq (.int i) (.int j) = .ok (.bl (decide (i = j))) := by
  unfold dEq
  rw [if_pos (by rfl), eqv_i]
theorem dNe_i : dNe (.int i) (.int j) = .ok (.bl (!decide (i = j))) := by
  unfold dNe
  rw [if_pos (by rfl), eqv_i]
end
/-! evaluation -/
section
variable {ρ : EnvD} {a b c : GE} {op op' : OpD} {g : GX} {ga gr : GA} {f k : GS} {t u : GT}
@[simp] theorem bind_o {α β : Type} {x : α} {h : α → Rs β} : (Rs.ok x).bind h = h x := rfl
@[simp] theorem bind_s {α β : Type} {h : α → Rs β} : (Rs.stuck : Rs α).bind h = .stuck := rfl
@[simp] theorem bind_e {α β : Type} {x : Str} {d : DV} {h : α → Rs β} : (Rs.ex x d : Rs α).bind h = .ex x d := rfl
@[simp] theorem ev_var {i : Nat} : gVar i ρ = lk ρ i := rfl
@[simp] theorem ev_c {d : DV} : gC d ρ = .ok d := rfl
@[simp] theorem ev_bin : gBin op a b ρ = (a ρ).bind fun x => (b ρ).bind fun y => op x y := rfl
@[simp] theorem ev_un {h : DV → Rs DV} : gUn h a ρ = (a ρ).bind h := rfl
@[simp] theorem ev_cb {o : OpA} : gCB o ga ρ = (ga ρ).bind o := rfl
@[simp] theorem ev_nil : aNil ρ = .ok [] := rfl
@[simp] theorem ev_cons : aCons a gr ρ = (a ρ).bind fun x => (gr ρ).bind fun xs => .ok (x :: xs) := rfl
@[simp] theorem ev_pure : gPure a ρ = (a ρ).bind fun d => .ok (d, ρ) := rfl
@[simp] theorem ev_b : gB a ρ = (a ρ).bind asB := rfl
@[simp] theorem ev_asB {z : Bool} : asB (.bl z) = .ok z := rfl
@[simp] theorem ev_next : gNext ρ = .nx ρ := rfl
@[simp] theorem ev_if : gIf t a b ρ = (t ρ).bind fun z => if z = true then a ρ else b ρ := rfl
@[simp] theorem ev_ifT {v : GT} : gIfT t u v ρ = (t ρ).bind fun z => if z = true then u ρ else v ρ := rfl
@[simp] theorem ev_not : gNot t ρ = (t ρ).bind fun z => .ok (!z) := rfl
@[simp] theorem ev_andV : gAndV a b ρ = ((a ρ).bind asB).bind fun z => if z = true then b ρ else .ok (.bl false) := rfl
@[simp] theorem ev_orV : gOrV a b ρ = ((a ρ).bind asB).bind fun z => if z = true then .ok (.bl true) else b ρ := rfl
@[simp] theorem ev_notV : gNotV a ρ = ((a ρ).bind asB).bind fun z => .ok (.bl (!z)) := rfl
@[simp] theorem ev_tup : eTup ga ρ = (ga ρ).bind fun ds => if ds.length ≤ sizeLine then .ok (.tup ds) else .stuck := rfl
@[simp] theorem ev_lst : eLst ga ρ = (ga ρ).bind fun ds => if ds.length ≤ sizeLine then .ok (.lst ds) else .stuck := rfl
@[simp] theorem lk_0 {d : DV} {r : EnvD} : lk (some d :: r) 0 = .ok d := rfl
@[simp] theorem lk_s {x : Option DV} {r : EnvD} {i : Nat} : lk (x :: r) (i + 1) = lk r i := rfl
theorem ev_seq {ρ' : EnvD} (h : f ρ = .nx ρ') : gSeq f k ρ = k ρ' := by
  unfold gSeq
  rw [h]
theorem ev_seqR {ρ' : EnvD} {d : DV} (h : f ρ = .rt d ρ') : gSeq f k ρ = .rt d ρ' := by
  unfold gSeq
  rw [h]
theorem ev_seqE {x : Str} {d : DV} (h : f ρ = .ex x d) : gSeq f k ρ = .ex x d := by
  unfold gSeq
  rw [h]
theorem ev_ifS {z : Bool} (h : t ρ = .ok z) : gIfS t f k ρ = if z = true then f ρ else k ρ := by
  unfold gIfS
  rw [h]
theorem ev_asg {i : Nat} {d : DV} {ρ' : EnvD} (h : g ρ = .ok (d, ρ')) : gAsg g (gtName i) ρ = .nx (ρ'.set i (some d)) := by
  unfold gAsg gtName
  rw [h]
theorem ev_ret {d : DV} {ρ' : EnvD} (h : g ρ = .ok (d, ρ')) : gRet g ρ = .rt d ρ' := by
  unfold gRet
  rw [h]
end
/-- a loop over a range, by an invariant of the number of turns done -/
theorem forG_rng {tg : GG} {b : GS} (I : Nat → EnvD → Prop) (hi : ∀ (i : Nat) (ρ : EnvD), I i ρ → ∃ ρ1 ρ2, tg (.int ((0 : Int) + (i : Int))) ρ = .ok ρ1 ∧ b ρ1 = .nx ρ2 ∧ I (i + 1) ρ2) :
    ∀ (n i : Nat) (ρ : EnvD), I i ρ → ∃ ρ', forG tg b ((List.range' i n).map fun k : Nat => DV.int ((0 : Int) + (k : Int))) ρ = .nx ρ' ∧ I (i + n) ρ'
  | 0, i, ρ, h => ⟨ρ, rfl, h⟩
  | n + 1, i, ρ, h => by
    obtain ⟨ρ1, ρ2, e1, e2, h2⟩ := hi i ρ h
    obtain ⟨ρ', e3, h3⟩ := forG_rng I hi n (i + 1) ρ2 h2
    refine ⟨ρ', ?_, by rw [show i + (n + 1) = i + 1 + n by omega]; exact h3⟩
    rw [List.range'_succ, List.map_cons]
    unfold forG
    rw [e1]
    dsimp only
    rw [e2]
    exact e3
theorem rngD_eq (n : Nat) : rngD 0 n = (List.range' 0 n).map fun k : Nat => DV.int ((0 : Int) + (k : Int)) := by
  unfold rngD
  rw [List.range_eq_range']
end DL
end

/-! text ML1 -/
section
set_option maxRecDepth 100000
set_option maxHeartbeats 4000000
/-! plain laws, part 1: lists of ints -/
namespace DL
open PySem
abbrev di (xs : List Int) : DV := .lst (xs.map DV.int)
theorem lcLoop_map {h : DV → Rs (Option DV)} {f : Int → Int} : ∀ {xs : List Int}, (∀ x ∈ xs, h (.int x) = .ok (some (.int (f x)))) → lcLoop h (xs.map DV.int) = .ok ((xs.map f).map DV.int)
  | [], _ => rfl
  | x :: xs, k => by
    rw [List.map_cons, List.map_cons, List.map_cons]
    unfold lcLoop
    rw [k x List.mem_cons_self]
    dsimp only [Rs.bind]
    rw [lcLoop_map (xs := xs) fun y hy => k y (List.mem_cons_of_mem _ hy)]
    rfl
theorem ixN_nat {n k : Nat} (h : k < n) : L2.ixN n (k : Int) = some k := by
  unfold L2.ixN
  simp
  omega
theorem dIx_i {xs : List Int} {k : Nat} (h : k < xs.length) : dIx (di xs) (.int (k : Int)) = .ok (.int xs[k]) := by
  unfold dIx L2.atI
  simp only [List.length_map]
  rw [ixN_nat h]
  simp [ofO, h]
theorem setD_i {xs : List Int} {k : Nat} {y : Int} (h : k < xs.length) : setD (di xs) (.int (k : Int)) (.int y) = .ok (di (xs.set k y)) := by
  unfold setD
  simp only [List.length_map]
  rw [ixN_nat h]
  simp [List.map_set]
theorem dLen_i {xs : List Int} : dLen [di xs] = .ok (.int xs.length) := by
  simp [dLen]
theorem imms_i (xs : List Int) : imms (xs.map DV.int) = true := by
  induction xs with
  | nil => rfl
  | cons x xs ih => exact (Bool.and_eq_true _ _).mpr ⟨rfl, ih⟩
theorem cut_front {xs : List DV} {n : Nat} : cutD xs none (some (n : Int)) = xs.take n := by
  unfold cutD
  rw [HT.sIx_none, HT.sIx_nat, List.drop_zero, Nat.sub_zero]
  by_cases h : n ≤ xs.length
  · rw [Nat.min_eq_left h]
  · rw [Nat.min_eq_right (by omega), List.take_length, List.take_of_length_le (by omega)]
theorem cut_last {xs : List DV} : cutD xs none (some (-1)) = xs.take (xs.length - 1) := by
  have e : HT.sIx xs.length xs.length (some (-1)) = xs.length - 1 := by
    unfold HT.sIx
    simp
    omega
  unfold cutD
  rw [e, HT.sIx_none, List.drop_zero, Nat.sub_zero]
end DL
end

/-! text ML2 -/
section
set_option maxRecDepth 100000
set_option maxHeartbeats 4000000
/-! plain laws, part 2: how mirrors run, step by step; no step lets the kernel run rngOk at a length that is not written -/
namespace M
open PySem DL
theorem forG_rngB {tg : GG} {b : GS} (N : Nat) (I : Nat → EnvD → Prop) (hi : ∀ (i : Nat) (ρ : EnvD), i < N → I i ρ → ∃ ρ1 ρ2, tg (.int ((0 : Int) + (i : Int))) ρ = .ok ρ1 ∧ b ρ1 = .nx ρ2 ∧ I (i + 1) ρ2)
    (n i : Nat) (ρ : EnvD) (hn : i + n ≤ N) (h : I i ρ) : ∃ ρ', forG tg b ((List.range' i n).map fun k : Nat => DV.int ((0 : Int) + (k : Int))) ρ = .nx ρ' ∧ I (i + n) ρ' := by
  induction n generalizing i ρ with
  | zero => exact ⟨ρ, rfl, h⟩
  | succ n ih =>
    obtain ⟨ρ1, ρ2, e1, e2, h2⟩ := hi i ρ (by omega) h
    obtain ⟨ρ', e3, h3⟩ := ih (i + 1) ρ2 (by omega) h2
    refine ⟨ρ', ?_, by rw [show i + (n + 1) = i + 1 + n by omega]; exact h3⟩
    rw [List.range'_succ, List.map_cons]
    unfold forG
    rw [e1]
    dsimp only
    rw [e2]
    exact e3
theorem forG_cons {tg : GG} {b : GS} {d : DV} {ds : List DV} {ρ ρ1 ρ2 : EnvD} (h1 : tg d ρ = .ok ρ1) (h2 : b ρ1 = .nx ρ2) : forG tg b (d :: ds) ρ = forG tg b ds ρ2 := by
  conv => lhs; unfold forG
  rw [h1]
  dsimp only
  rw [h2]
theorem forG_consR {tg : GG} {b : GS} {d e : DV} {ds : List DV} {ρ ρ1 ρ2 : EnvD} (h1 : tg d ρ = .ok ρ1) (h2 : b ρ1 = .rt e ρ2) : forG tg b (d :: ds) ρ = .rt e ρ2 := by
  conv => lhs; unfold forG
  rw [h1]
  dsimp only
  rw [h2]
theorem lcLoop_gen {α : Type} {h : DV → Rs (Option DV)} {g : α → DV} {f : α → DV} : ∀ {xs : List α}, (∀ x ∈ xs, h (g x) = .ok (some (f x))) → lcLoop h (xs.map g) = .ok (xs.map f)
  | [], _ => rfl
  | x :: xs, k => by
    rw [List.map_cons, List.map_cons]
    unfold lcLoop
    rw [k x List.mem_cons_self]
    dsimp only [Rs.bind]
    rw [lcLoop_gen (xs := xs) fun y hy => k y (List.mem_cons_of_mem _ hy)]
    rfl
theorem lcLoop_rng {h : DV → Rs (Option DV)} {n : Nat} {f : Nat → DV} (k : ∀ i, i < n → h (.int ((0 : Int) + (i : Int))) = .ok (some (f i))) : lcLoop h (rngD 0 n) = .ok ((List.range n).map f) := by
  unfold rngD
  exact lcLoop_gen (g := fun i : Nat => DV.int ((0 : Int) + (i : Int))) fun i hi => k i (List.mem_range.mp hi)
theorem dIx_g {α : Type} {g : α → DV} {xs : List α} {z : Int} (k : Nat) (e : z = (k : Int)) (h : k < xs.length) : dIx (.lst (xs.map g)) (.int z) = .ok (g xs[k]) := by
  subst e
  unfold dIx L2.atI
  simp only [List.length_map]
  rw [ixN_nat h]
  simp [ofO, h]
theorem dLen_g {α : Type} {g : α → DV} {xs : List α} : dLen [.lst (xs.map g)] = .ok (.int xs.length) := by
  simp [dLen]
theorem getD_lt {α : Type} {l : List α} {i : Nat} {d : α} (h : i < l.length) : l.getD i d = l[i] := by
  rw [List.getD_eq_getElem?_getD, List.getElem?_eq_getElem h]
  rfl
theorem mulT {a b : Int} (h : a.natAbs ≤ 1000) : mulOk a b = true := by
  unfold mulOk
  rw [decide_eq_true (Nat.lt_of_le_of_lt h (by decide)), Bool.true_or]
theorem lenG {α : Type} {g : α → DV} {xs : List α} (h : xs.length ≤ 1000) : (xs.map g).length ≤ sizeLine := by rw [List.length_map, sz_eq]; omega
theorem ev_for {gi : GI} {tg : GG} {b : GS} {ρ ρ' : EnvD} {its : List DV} (h1 : gi ρ = .ok its) (h2 : forG tg b its ρ = .nx ρ') : gFor gi tg b ρ = .nx ρ' := by
  unfold gFor
  rw [h1]
  exact h2
theorem ev_forR {gi : GI} {tg : GG} {b : GS} {ρ ρ' : EnvD} {its : List DV} {d : DV} (h1 : gi ρ = .ok its) (h2 : forG tg b its ρ = .rt d ρ') : gFor gi tg b ρ = .rt d ρ' := by
  unfold gFor
  rw [h1]
  exact h2
theorem ev_lc {gi : GI} {tg : GG} {gt : GT} {ge : GE} {vs : List Nat} {ρ : EnvD} {its r : List DV} (h1 : gi ρ = .ok its) (h2 : its.length ≤ sizeLine) (h3 : lcLoop (lcTurn tg gt ge (wipeD ρ vs)) its = .ok r) : gLc gi tg gt ge vs ρ = .ok (.lst r) := by
  unfold gLc
  rw [h1]
  show (if its.length ≤ sizeLine then _ else _) = _
  rw [if_pos h2, h3]
theorem rng_i {i : Int} {n : Nat} (e : i = (n : Int)) (h : n ≤ 1000) : dRng1 [.int i] = .ok (rngD 0 n) := by
  subst e
  have ro : rngOk (n : Int) = true := by unfold rngOk; simp; omega
  unfold dRng1
  dsimp only
  rw [if_pos ro]
  rfl
theorem rng1_e {g : GE} {ρ : EnvD} {i : Int} {n : Nat} (e : g ρ = .ok (.int i)) (e2 : i = (n : Int)) (h : n ≤ 1000) : gRng1 (aCons g aNil) ρ = .ok (rngD 0 n) := by
  unfold gRng1
  rw [ev_cons, e]
  exact rng_i e2 h
theorem rngD_len {n : Nat} (h : n ≤ 1000) : (rngD 0 n).length ≤ sizeLine := by unfold rngD; rw [List.length_map, List.length_range, sz_eq]; omega
theorem len_e {α : Type} {g : α → DV} {xs : List α} {ρ : EnvD} {i : Nat} (e : lk ρ i = .ok (.lst (xs.map g))) : gCB dLen (aCons (gVar i) aNil) ρ = .ok (.int xs.length) := by
  rw [ev_cb, ev_cons, ev_var, e]
  exact dLen_g
theorem ev_skip {t : GT} {f k : GS} {ρ : EnvD} (h : t ρ = .ok false) : gSeq (gIfS t f gNext) k ρ = k ρ := ev_seq (by rw [ev_ifS h]; rfl)
theorem ix3_0 {a b c : DV} : dIx (.tup [a, b, c]) (.int 0) = .ok a := rfl
theorem ix3_1 {a b c : DV} : dIx (.tup [a, b, c]) (.int 1) = .ok b := rfl
theorem ix3_2 {a b c : DV} : dIx (.tup [a, b, c]) (.int 2) = .ok c := rfl
section
variable {ρ : EnvD} {a b c g : GE} {o : OpA} {x y z d : DV} {i : Nat}
theorem cb1 (h : a ρ = .ok x) : gCB o (aCons a aNil) ρ = o [x] := by
  rw [ev_cb, ev_cons, h]
  rfl
theorem cb2 (h : a ρ = .ok x) (h2 : b ρ = .ok y) : gCB o (aCons a (aCons b aNil)) ρ = o [x, y] := by
  rw [ev_cb, ev_cons, h, ev_cons, h2]
  rfl
theorem cb3 (h : a ρ = .ok x) (h2 : b ρ = .ok y) (h3 : c ρ = .ok z) : gCB o (aCons a (aCons b (aCons c aNil))) ρ = o [x, y, z] := by
  rw [ev_cb, ev_cons, h, ev_cons, h2, ev_cons, h3]
  rfl
theorem ret_e (h : g ρ = .ok d) : gRet (gPure g) ρ = .rt d ρ := ev_ret (by rw [ev_pure, h])
theorem set_e (h : g ρ = .ok d) : gAsg (gPure g) (gtName i) ρ = .nx (ρ.set i (some d)) := ev_asg (by rw [ev_pure, h])
theorem nx_e (h : g ρ = .ok d) : gNX g ρ = .ok d := by
  unfold gNX
  rw [h]
theorem drop_e (h : g ρ = .ok d) : gDrop (gPure g) ρ = .nx ρ := by
  unfold gDrop
  rw [ev_pure, h]
theorem drop_x {cn : Str} (h : g ρ = .ex cn d) : gDrop (gPure g) ρ = .ex cn d := by
  unfold gDrop
  rw [ev_pure, h]
theorem lenD_e {α : Type} {f : α → DV} {xs : List α} (e : a ρ = .ok (.lst (xs.map f))) : gCB dLen (aCons a aNil) ρ = .ok (.int xs.length) := by
  rw [cb1 e]
  exact dLen_g
theorem ne_e {u v : Int} (h : a ρ = .ok (.int u)) (h2 : b ρ = .ok (.int v)) : gB (gBin dNe a b) ρ = .ok (!decide (u = v)) := by
  rw [ev_b, ev_bin, h]
  dsimp only [Rs.bind]
  rw [h2]
  dsimp only [Rs.bind]
  rw [dNe_i]
  rfl
end
theorem seq_e {α : Type} {g : GE} {f : α → DV} {xs : List α} {ρ : EnvD} (e : g ρ = .ok (.lst (xs.map f))) : gSeqI g ρ = .ok (xs.map f) := by
  unfold gSeqI
  rw [e]
  rfl
theorem tup2 {a b : GE} {ρ : EnvD} {x y : DV} (h1 : a ρ = .ok x) (h2 : b ρ = .ok y) : eTup (aCons a (aCons b aNil)) ρ = .ok (.tup [x, y]) := by
  rw [ev_tup, ev_cons, h1, ev_cons, h2]
  show (if 0 + 1 + 1 ≤ sizeLine then _ else _) = _
  rw [if_pos (by decide)]
theorem bin_e {o : OpD} {a b : GE} {ρ : EnvD} {x y : DV} (h1 : a ρ = .ok x) (h2 : b ρ = .ok y) : gBin o a b ρ = o x y := by
  rw [ev_bin, h1]
  dsimp only [Rs.bind]
  rw [h2]
theorem b_e {a : GE} {ρ : EnvD} {z : Bool} (h : a ρ = .ok (.bl z)) : gB a ρ = .ok z := by
  rw [ev_b, h]
  rfl
theorem notV_e {a : GE} {ρ : EnvD} {z : Bool} (h : a ρ = .ok (.bl z)) : gNotV a ρ = .ok (.bl (!z)) := by
  rw [ev_notV, h]
  rfl
theorem and_e {s t : GT} {ρ : EnvD} {x y : Bool} (h1 : s ρ = .ok x) (h2 : t ρ = .ok y) : gAnd s t ρ = .ok (x && y) := by
  unfold gAnd
  rw [h1]
  cases x
  · rfl
  · exact h2
theorem or_e {s t : GT} {ρ : EnvD} {x y : Bool} (h1 : s ρ = .ok x) (h2 : t ρ = .ok y) : gOr s t ρ = .ok (x || y) := by
  unfold gOr
  rw [h1]
  cases x
  · exact h2
  · rfl
theorem lc_yes {tg : GG} {gt : GT} {ge : GE} {ρ ρ1 : EnvD} {d x : DV} (h1 : tg d ρ = .ok ρ1) (h2 : gt ρ1 = .ok true) (h3 : ge ρ1 = .ok x) : lcTurn tg gt ge ρ d = .ok (some x) := by
  unfold lcTurn
  rw [h1]
  dsimp only [Rs.bind]
  rw [h2]
  dsimp only
  rw [if_pos rfl, h3]
theorem lc_no {tg : GG} {gt : GT} {ge : GE} {ρ ρ1 : EnvD} {d : DV} (h1 : tg d ρ = .ok ρ1) (h2 : gt ρ1 = .ok false) : lcTurn tg gt ge ρ d = .ok none := by
  unfold lcTurn
  rw [h1]
  dsimp only [Rs.bind]
  rw [h2]
  dsimp only
  rw [if_neg (by decide)]
theorem lcLoop_none {α : Type} {h : DV → Rs (Option DV)} {g : α → DV} : ∀ {xs : List α}, (∀ x ∈ xs, h (g x) = .ok none) → lcLoop h (xs.map g) = .ok []
  | [], _ => rfl
  | x :: xs, k => by
    rw [List.map_cons]
    unfold lcLoop
    rw [k x List.mem_cons_self]
    dsimp only [Rs.bind]
    rw [lcLoop_none (xs := xs) fun y hy => k y (List.mem_cons_of_mem _ hy)]
    rfl
theorem dAll_e {α : Type} {f : α → Bool} : ∀ {xs : List α}, bls (xs.map fun x => DV.bl (f x)) = some (xs.map f)
  | [] => rfl
  | x :: xs => by
    rw [List.map_cons]
    unfold bls
    rw [dAll_e (xs := xs)]
    rfl
theorem dAll_ok {α : Type} {f : α → Bool} {xs : List α} : dAll [.lst (xs.map fun x => DV.bl (f x))] = .ok (.bl (xs.all f)) := by
  have e : dAll [.lst (xs.map fun x => DV.bl (f x))] = (match bls (xs.map fun x => DV.bl (f x)) with | some ns => .ok (.bl (ns.all id)) | none => .stuck) := rfl
  rw [e, dAll_e]
  simp [List.all_map]
theorem forG_list {α : Type} {g : α → DV} {tg : GG} {b : GS} (N : Nat) (I : List α → EnvD → Prop) : ∀ (xs done : List α) (ρ : EnvD), done.length + xs.length ≤ N → (∀ (x : α) (done : List α) (ρ : EnvD), x ∈ xs → done.length < N → I done ρ → ∃ ρ1 ρ2, tg (g x) ρ = .ok ρ1 ∧ b ρ1 = .nx ρ2 ∧ I (done ++ [x]) ρ2) → I done ρ →
    ∃ ρ', forG tg b (xs.map g) ρ = .nx ρ' ∧ I (done ++ xs) ρ'
  | [], done, ρ, _, _, h => ⟨ρ, rfl, by rw [List.append_nil]; exact h⟩
  | x :: xs, done, ρ, hN, hi, h => by
    rw [List.length_cons] at hN
    obtain ⟨ρ1, ρ2, e1, e2, h2⟩ := hi x done ρ List.mem_cons_self (by omega) h
    obtain ⟨ρ', e3, h3⟩ := forG_list N I xs (done ++ [x]) ρ2 (by rw [List.length_append]; show done.length + 1 + _ ≤ N; omega) (fun y d r hy => hi y d r (List.mem_cons_of_mem _ hy)) h2
    refine ⟨ρ', ?_, by rw [List.append_assoc] at h3; exact h3⟩
    rw [List.map_cons, forG_cons e1 e2]
    exact e3
theorem app_g {α : Type} {g : α → DV} {xs : List α} {x : α} {i : Nat} {ρ : EnvD} {ge : GE} (h1 : lk ρ i = .ok (.lst (xs.map g))) (h2 : ge ρ = .ok (g x)) (h : xs.length ≤ 1000) : gDrop (gApp i (gPure ge)) ρ = .nx (ρ.set i (some (.lst ((xs ++ [x]).map g)))) := by
  unfold gDrop gApp
  rw [h1]
  dsimp only
  rw [ev_pure, h2]
  dsimp only [Rs.bind]
  rw [h1]
  dsimp only
  rw [if_pos (by rw [List.length_map, sz_eq]; omega), List.map_append]
  rfl
theorem tup3 {a b c : GE} {ρ : EnvD} {x y z : DV} (h1 : a ρ = .ok x) (h2 : b ρ = .ok y) (h3 : c ρ = .ok z) : eTup (aCons a (aCons b (aCons c aNil))) ρ = .ok (.tup [x, y, z]) := by
  rw [ev_tup, ev_cons, h1, ev_cons, h2, ev_cons, h3]
  show (if 0 + 1 + 1 + 1 ≤ sizeLine then _ else _) = _
  rw [if_pos (by decide)]
theorem md {z n : Int} (h : 0 < n) : dMod (.int z) (.int n) = .ok (.int (z % n)) := dMod_i h
theorem cb5 {a b c d e : GE} {o : OpA} {ρ : EnvD} {x1 x2 x3 x4 x5 : DV} (h1 : a ρ = .ok x1) (h2 : b ρ = .ok x2) (h3 : c ρ = .ok x3) (h4 : d ρ = .ok x4) (h5 : e ρ = .ok x5) : gCB o (aCons a (aCons b (aCons c (aCons d (aCons e aNil))))) ρ = o [x1, x2, x3, x4, x5] := by
  rw [ev_cb, ev_cons, h1, ev_cons, h2, ev_cons, h3, ev_cons, h4, ev_cons, h5]
  rfl
theorem app_raw {ds : List DV} {d : DV} {i : Nat} {ρ : EnvD} {ge : GE} (h1 : lk ρ i = .ok (.lst ds)) (h2 : ge ρ = .ok d) (h : ds.length ≤ 1000) : gDrop (gApp i (gPure ge)) ρ = .nx (ρ.set i (some (.lst (ds ++ [d])))) := by
  unfold gDrop gApp
  rw [h1]
  dsimp only
  rw [ev_pure, h2]
  dsimp only [Rs.bind]
  rw [h1]
  dsimp only
  rw [if_pos (by rw [sz_eq]; omega)]
theorem cut_tail {xs : List DV} : cutD xs (some 1) none = xs.drop 1 := by
  unfold cutD
  rw [show (1 : Int) = ((1 : Nat) : Int) from rfl, HT.sIx_nat, HT.sIx_none]
  cases xs with
  | nil => rfl
  | cons x xs =>
    have e : min 1 (x :: xs).length = 1 := by rw [List.length_cons]; omega
    rw [e]
    show xs.take (xs.length + 1 - 1) = xs
    rw [Nat.add_sub_cancel, List.take_length]
theorem ok_mem {x : Str} : PyData.strOk x = true ↔ ∀ c ∈ x.cps.toList, c < 0x110000 := by
  unfold PyData.strOk
  rw [← Array.all_toList, List.all_eq_true]
  exact ⟨fun h c hc => of_decide_eq_true (h c hc), fun h c hc => decide_eq_true (h c hc)⟩
theorem ok_app {x y : Str} (h1 : PyData.strOk x = true) (h2 : PyData.strOk y = true) : PyData.strOk (x ++ y) = true := by
  rw [ok_mem] at h1 h2 ⊢
  intro c hc
  have e : (x ++ y).cps.toList = x.cps.toList ++ y.cps.toList := by
    show (x.cps ++ y.cps).toList = _
    rw [Array.toList_append]
  rw [e] at hc
  rcases List.mem_append.mp hc with z | z
  · exact h1 c z
  · exact h2 c z
theorem ok_int {i : Int} : PyData.strOk (PyData.shown (.int i)) = true := by
  rw [ok_mem]
  intro c hc
  refine Classical.byContradiction fun z => ?_
  exact PyProof.Rows.shown_int_free' (k := c) ⟨by omega, by omega⟩ i hc
theorem ok_from : ∀ {ts : List Str} {k : Nat} {acc : Str}, PyData.strOk acc = true → (∀ t ∈ ts, PyData.strOk t = true) → PyData.strOk (textFrom k acc ts) = true
  | [], k, acc, h, _ => h
  | t :: ts, k, acc, h, g => by
    show PyData.strOk (textFrom (k + 1) (acc ++ ((if k > 0 then ", " else "" : String) : Str) ++ t) ts) = true
    refine ok_from (ok_app (ok_app h ?_) (g t List.mem_cons_self)) fun u hu => g u (List.mem_cons_of_mem _ hu)
    split <;> decide +kernel
theorem ne_str {x : Str} (h : PyData.strOk x = true) : dNe (.str x) (.str x) = .ok (.bl false) := by
  unfold dNe
  rw [if_pos (by show (PyData.strOk x && PyData.strOk x) = true; rw [h]; rfl)]
  simp [eqv, py, PyData.eqv]
end M
end

/-! text ML3 -/
section
set_option maxRecDepth 100000
set_option maxHeartbeats 4000000
/-! data that repr shows and == compares, by its parts; in a namespace of its own -/
namespace SH
open PySem DL
theorem ok_mem {x : Str} : PyData.strOk x = true ↔ ∀ c ∈ x.cps.toList, c < 0x110000 := by
  unfold PyData.strOk
  rw [← Array.all_toList, List.all_eq_true]
  exact ⟨fun h c hc => of_decide_eq_true (h c hc), fun h c hc => decide_eq_true (h c hc)⟩
theorem ok_app {x y : Str} (h1 : PyData.strOk x = true) (h2 : PyData.strOk y = true) : PyData.strOk (x ++ y) = true := by
  rw [ok_mem] at h1 h2 ⊢
  intro c hc
  have e : (x ++ y).cps.toList = x.cps.toList ++ y.cps.toList := by
    show (x.cps ++ y.cps).toList = _
    rw [Array.toList_append]
  rw [e] at hc
  rcases List.mem_append.mp hc with z | z
  · exact h1 c z
  · exact h2 c z
theorem ok_int {i : Int} : PyData.strOk (PyData.shown (.int i)) = true := by
  rw [ok_mem]
  intro c hc
  refine Classical.byContradiction fun z => ?_
  exact PyProof.Rows.shown_int_free' (k := c) ⟨by omega, by omega⟩ i hc
theorem ok_from : ∀ {ts : List Str} {k : Nat} {acc : Str}, PyData.strOk acc = true → (∀ t ∈ ts, PyData.strOk t = true) → PyData.strOk (textFrom k acc ts) = true
  | [], k, acc, h, _ => h
  | t :: ts, k, acc, h, g => by
    show PyData.strOk (textFrom (k + 1) (acc ++ ((if k > 0 then ", " else "" : String) : Str) ++ t) ts) = true
    refine ok_from (ok_app (ok_app h ?_) (g t List.mem_cons_self)) fun u hu => g u (List.mem_cons_of_mem _ hu)
    split <;> decide +kernel
theorem ok_tup {ts : List Str} (h : ∀ t ∈ ts, PyData.strOk t = true) : PyData.strOk (tupleText ts) = true := by
  have j : ∀ {ts : List Str}, (∀ t ∈ ts, PyData.strOk t = true) → PyData.strOk (Str.join ", " ts) = true := by
    intro ts h
    induction ts with
    | nil => decide +kernel
    | cons t ts ih =>
      cases ts with
      | nil => exact h t List.mem_cons_self
      | cons u us =>
        show PyData.strOk (t ++ ", " ++ Str.join ", " (u :: us)) = true
        exact ok_app (ok_app (h t List.mem_cons_self) (by decide +kernel)) (ih fun v hv => h v (List.mem_cons_of_mem _ hv))
  unfold tupleText
  refine ok_app (ok_app (by decide +kernel) (j h)) ?_
  split <;> decide +kernel
/-- good data: k its depth at most, w a bound of its weight -/
structure Shw (k w : Nat) (d : DV) : Prop where
  ls : (py d).leavesShort 13 = true
  wt : (py d).weight ≤ w
  sh : (py d).showable = true
  ok : PyData.strOk (py d).shown = true
  eq : ∀ n, k ≤ n → eqok d n = true
  rf : PyData.eqv (py d) (py d) = true
theorem Shw.mono {k w k' w' : Nat} {d : DV} (h : Shw k w d) (hk : k ≤ k') (hw : w ≤ w') : Shw k' w' d := ⟨h.ls, Nat.le_trans h.wt hw, h.sh, h.ok, fun n hn => h.eq n (Nat.le_trans hk hn), h.rf⟩
theorem int {i : Int} (h : i.natAbs ≤ 10000000) : Shw 0 25 (.int i) := by
  have s1 := PyData.shown_int_le (i := i) (by omega)
  have l1 : i.natAbs.log2 < 24 := by
    by_cases z : i.natAbs = 0
    · rw [z]; decide
    · exact (Nat.log2_lt z).mpr (Nat.lt_of_le_of_lt h (by decide))
  refine ⟨?_, ?_, ?_, ok_int, fun n _ => rfl, ?_⟩
  · simp [py, PyData.leavesShort, s1]
  · simp [py, PyData.weight]
    split <;> omega
  · simp [py, PyData.showable]
    omega
  · simp [py, PyData.eqv]
theorem non : Shw 0 0 .non := ⟨rfl, Nat.le_refl _, rfl, by decide +kernel, fun n _ => rfl, rfl⟩
theorem bl {b : Bool} : Shw 0 0 (.bl b) := by cases b <;> exact ⟨rfl, Nat.le_refl _, rfl, by decide +kernel, fun n _ => rfl, rfl⟩
theorem alls {k w : Nat} : ∀ {ds : List DV}, (∀ d ∈ ds, Shw k w d) → PyData.leavesShortAll 13 (pys ds) = true ∧ PyData.weightAll (pys ds) ≤ (w + 1) * ds.length ∧ PyData.showableAll (pys ds) = true ∧ (∀ t ∈ PyData.shownAll (pys ds), PyData.strOk t = true) ∧ (∀ n, k ≤ n → eqoks ds n = true) ∧ PyData.eqvAll (pys ds) (pys ds) = true
  | [], _ => by simp [pys, PyData.leavesShortAll, PyData.weightAll, PyData.showableAll, PyData.shownAll, eqoks, PyData.eqvAll]
  | d :: ds, h => by
    have a := h d List.mem_cons_self
    obtain ⟨b1, b2, b3, b4, b5, b6⟩ := alls (ds := ds) fun x hx => h x (List.mem_cons_of_mem _ hx)
    have e : pys (d :: ds) = py d :: pys ds := rfl
    rw [e]
    refine ⟨?_, ?_, ?_, ?_, fun n hn => ?_, ?_⟩
    · unfold PyData.leavesShortAll
      rw [a.ls, b1]
      rfl
    · unfold PyData.weightAll
      rw [List.length_cons, Nat.mul_succ]
      have := a.wt
      omega
    · unfold PyData.showableAll
      rw [a.sh, b3]
      rfl
    · intro t ht
      unfold PyData.shownAll at ht
      rcases List.mem_cons.mp ht with z | z
      · rw [z]; exact a.ok
      · exact b4 t z
    · show (eqok d n && eqoks ds n) = true
      rw [a.eq n hn, b5 n hn]
      rfl
    · unfold PyData.eqvAll
      rw [a.rf, b6]
      rfl
theorem lst {k w : Nat} {ds : List DV} (h : ∀ d ∈ ds, Shw k w d) : Shw (k + 1) ((w + 1) * ds.length) (.lst ds) := by
  obtain ⟨b1, b2, b3, b4, b5, b6⟩ := alls h
  refine ⟨?_, ?_, ?_, ?_, fun n hn => ?_, ?_⟩
  · show PyData.leavesShort 13 (.list (pys ds)) = true
    unfold PyData.leavesShort
    exact b1
  · show PyData.weight (.list (pys ds)) ≤ _
    unfold PyData.weight
    exact b2
  · show PyData.showable (.list (pys ds)) = true
    unfold PyData.showable
    exact b3
  · have e : (py (.lst ds)).shown = textFrom 0 "[" (PyData.shownAll (pys ds)) ++ "]" := by
      show PyData.shown (.list (pys ds)) = _
      unfold PyData.shown
      rfl
    rw [e]
    exact ok_app (ok_from (by decide +kernel) b4) (by decide +kernel)
  · obtain ⟨m, rfl⟩ : ∃ m, n = m + 1 := ⟨n - 1, by omega⟩
    exact b5 m (by omega)
  · show PyData.eqv (.list (pys ds)) (.list (pys ds)) = true
    unfold PyData.eqv
    exact b6
theorem tup {k w : Nat} {ds : List DV} (h : ∀ d ∈ ds, Shw k w d) : Shw (k + 1) ((w + 1) * ds.length) (.tup ds) := by
  obtain ⟨b1, b2, b3, b4, b5, b6⟩ := alls h
  refine ⟨?_, ?_, ?_, ?_, fun n hn => ?_, ?_⟩
  · show PyData.leavesShort 13 (.tuple (pys ds)) = true
    unfold PyData.leavesShort
    exact b1
  · show PyData.weight (.tuple (pys ds)) ≤ _
    unfold PyData.weight
    exact b2
  · show PyData.showable (.tuple (pys ds)) = true
    unfold PyData.showable
    exact b3
  · have e : (py (.tup ds)).shown = tupleText (PyData.shownAll (pys ds)) := by
      show PyData.shown (.tuple (pys ds)) = _
      unfold PyData.shown
      rfl
    rw [e]
    exact ok_tup b4
  · obtain ⟨m, rfl⟩ : ∃ m, n = m + 1 := ⟨n - 1, by omega⟩
    exact b5 m (by omega)
  · show PyData.eqv (.tuple (pys ds)) (.tuple (pys ds)) = true
    unfold PyData.eqv
    exact b6
theorem map {α : Type} {k w : Nat} {g : α → DV} {xs : List α} (h : ∀ x ∈ xs, Shw k w (g x)) : Shw (k + 1) ((w + 1) * xs.length) (.lst (xs.map g)) := by
  have z := lst (ds := xs.map g) fun d hd => by
    obtain ⟨x, hx, rfl⟩ := List.mem_map.mp hd
    exact h x hx
  rw [List.length_map] at z
  exact z
theorem repr {k w : Nat} {d : DV} (h : Shw k w d) (hs : isSq d = true) (hk : k ≤ 20) (hw : w ≤ 1048576) : dRepr [d] = .ok (.str (py d).shown) := by
  have f := PyData.shown_fits (B := 13) (by decide) (by decide) h.ls (Nat.le_trans h.wt (Nat.le_trans hw (by decide)))
  unfold dRepr
  dsimp only
  rw [if_pos]
  rw [hs, h.eq 20 hk, h.sh, decide_eq_true f]
  rfl
theorem ne_self {k w : Nat} {d : DV} (h : Shw k w d) (hk : k ≤ 20) : dNe d d = .ok (.bl false) := by
  unfold dNe
  rw [h.eq 20 hk, if_pos (by rfl)]
  unfold eqv
  rw [h.rf]
  rfl
theorem eq_self {k w : Nat} {d : DV} (h : Shw k w d) (hk : k ≤ 20) : dEq d d = .ok (.bl true) := by
  unfold dEq
  rw [h.eq 20 hk, if_pos (by rfl)]
  unfold eqv
  rw [h.rf]
theorem ne_str {x : Str} (h : PyData.strOk x = true) : dNe (.str x) (.str x) = .ok (.bl false) := by
  unfold dNe
  rw [if_pos (by show (PyData.strOk x && PyData.strOk x) = true; rw [h]; rfl)]
  simp [eqv, py, PyData.eqv]
end SH
end

/-! text Mir -/
section
set_option maxRecDepth 100000
set_option maxHeartbeats 8000000
namespace M
open PySem PySem.Spec PyProof.Rows L2 DL
abbrev N_Network_check_vertex : List Str := ["self", "vertex"]
def b_Network_check_vertex : GS := (gIfS (gNot (gB (gChain dLe dLt (gC (.int 0)) (gVar 1) (gFld "Network" "_size" (gVar 0))))) (gRaise "BadVertex" (aCons (gVar 1) aNil)) gNext)
def m_Network_check_vertex : List DV → Rs DV := runB b_Network_check_vertex 2
abbrev N_Network_leaving : List Str := ["self", "vertex", "k"]
def b_Network_leaving : GS := (gSeq (gDrop (gPure (gMeth "Network" "check_vertex" m_Network_check_vertex (gVar 0) (aCons (gVar 1) aNil)))) (gRet (gPure (gLc (gRng1 (aCons (gCB dLen (aCons (gFld "Network" "_edges" (gVar 0)) aNil)) aNil)) (gtName 2) (gB (gBin dEq (gBin dIx (gBin dIx (gFld "Network" "_edges" (gVar 0)) (gVar 2)) (gC (.int 0))) (gVar 1))) (gVar 2) [2]))))
def m_Network_leaving : List DV → Rs DV := runB b_Network_leaving 3
abbrev N_Network_other_end : List Str := ["self", "number", "vertex", "u", "v", "_"]
def b_Network_other_end : GS := (gSeq (gAsg (gPure (gBin dIx (gFld "Network" "_edges" (gVar 0)) (gVar 1))) (gtTup [3, 4, 5])) (gRet (gPure (gBin dSub (gBin dAdd (gVar 3) (gVar 4)) (gVar 2)))))
def m_Network_other_end : List DV → Rs DV := runB b_Network_other_end 6
abbrev N_Network_around : List Str := ["self", "vertex", "k"]
def b_Network_around : GS := (gSeq (gDrop (gPure (gMeth "Network" "check_vertex" m_Network_check_vertex (gVar 0) (aCons (gVar 1) aNil)))) (gRet (gPure (gLc (gRng1 (aCons (gCB dLen (aCons (gFld "Network" "_edges" (gVar 0)) aNil)) aNil)) (gtName 2) (gB (gBin dIn (gVar 1) (gSl (gBin dIx (gFld "Network" "_edges" (gVar 0)) (gVar 2)) gNoPart (gPart (gC (.int 2)))))) (gVar 2) [2]))))
def m_Network_around : List DV → Rs DV := runB b_Network_around 3
abbrev N_steps_from : List Str := ["network", "vertex", "arcs", "k"]
def b_steps_from : GS := (gSeq (gIfS (gTru (gVar 2)) (gRet (gPure (gLc (gSeqI (gMeth "Network" "leaving" m_Network_leaving (gVar 0) (aCons (gVar 1) aNil))) (gtName 3) gYes (eTup (aCons (gVar 3) (aCons (gNX (gMeth "Network" "other_end" m_Network_other_end (gVar 0) (aCons (gVar 3) (aCons (gVar 1) aNil)))) aNil))) [3]))) gNext) (gRet (gPure (gLc (gSeqI (gMeth "Network" "around" m_Network_around (gVar 0) (aCons (gVar 1) aNil))) (gtName 3) gYes (eTup (aCons (gVar 3) (aCons (gNX (gMeth "Network" "other_end" m_Network_other_end (gVar 0) (aCons (gVar 3) (aCons (gVar 1) aNil)))) aNil))) [3]))))
def m_steps_from : List DV → Rs DV := runB b_steps_from 4
abbrev N_Network_edges : List Str := ["self"]
def b_Network_edges : GS := (gRet (gPure (gCB dList (aCons (gFld "Network" "_edges" (gVar 0)) aNil))))
def m_Network_edges : List DV → Rs DV := runB b_Network_edges 1
abbrev N_Network_size : List Str := ["self"]
def b_Network_size : GS := (gRet (gPure (gFld "Network" "_size" (gVar 0))))
def m_Network_size : List DV → Rs DV := runB b_Network_size 1
abbrev N_told_labels : List Str := ["network", "start", "arcs", "edges", "labels", "moved", "vertex", "price", "count", "path", "k", "other", "label"]
def b_told_labels : GS := (gSeq (gAsg (gPure (gNX (gMeth "Network" "edges" m_Network_edges (gVar 0) aNil))) (gtName 3)) (gSeq (gAsg (gPure (gBin dRep (eLst (aCons (gFlat (gC .non)) aNil)) (gNX (gMeth "Network" "size" m_Network_size (gVar 0) aNil)))) (gtName 4)) (gSeq (gSetI 4 (gVar 1) (gPure (gYgT (eTup (aCons (gFlat (gC (.int 0))) (aCons (gFlat (gC (.int 0))) (aCons (gYg (eLst aNil)) aNil))))))) (gSeq (gAsg (gPure (gC (.bl true))) (gtName 5)) (gSeq (gWhile (gTru (gVar 5)) (gSeq (gAsg (gPure (gC (.bl false))) (gtName 5)) (gFor (gRng1 (aCons (gNX (gMeth "Network" "size" m_Network_size (gVar 0) aNil)) aNil)) (gtName 6) (gIfS (gB (gBin dNotN (gBin dIxY (gVar 4) (gVar 6)) (gC .non))) (gSeq (gAsg (gPure (gBin dIxY (gVar 4) (gVar 6))) (gtTup [7, 8, 9])) (gFor (gSeqI (gCB m_steps_from (aCons (gVar 0) (aCons (gVar 6) (aCons (gVar 2) aNil))))) (gtTup [10, 11]) (gSeq (gAsg (gPure (gYgT (eTup (aCons (gFlat (gBin dAdd (gVar 7) (gBin dIx (gBin dIx (gVar 3) (gVar 10)) (gC (.int 2))))) (aCons (gFlat (gBin dAdd (gVar 8) (gC (.int 1)))) (aCons (gYg (gSnoc (gVar 9) (gFlat (gVar 10)))) aNil)))))) (gtName 12)) (gIfS (gOr (gB (gBin dIsN (gBin dIxY (gVar 4) (gVar 11)) (gC .non))) (gB (gBin dLtD (gVar 12) (gBin dIxY (gVar 4) (gVar 11))))) (gSeq (gSetI 4 (gVar 11) (gPure (gVar 12))) (gAsg (gPure (gC (.bl true))) (gtName 5))) gNext)))) gNext)))) (gRet (gMove 4)))))))
def m_told_labels : List DV → Rs DV := runB b_told_labels 13
abbrev N_least_prices : List Str := ["network", "start", "arcs", "label"]
def b_least_prices : GS := (gSeq (gDrop (gPure (gMeth "Network" "check_vertex" m_Network_check_vertex (gVar 0) (aCons (gVar 1) aNil)))) (gRet (gPure (gLc (gSeqI (gCB m_told_labels (aCons (gVar 0) (aCons (gVar 1) (aCons (gVar 2) aNil))))) (gtName 3) gYes (gIf (gB (gBin dIsN (gVar 3) (gC .non))) (gC .non) (gBin dIx (gVar 3) (gC (.int 0)))) [3]))))
def m_least_prices : List DV → Rs DV := runB b_least_prices 4
abbrev N_told_path : List Str := ["network", "start", "goal", "arcs", "label"]
def b_told_path : GS := (gSeq (gDrop (gPure (gMeth "Network" "check_vertex" m_Network_check_vertex (gVar 0) (aCons (gVar 1) aNil)))) (gSeq (gDrop (gPure (gMeth "Network" "check_vertex" m_Network_check_vertex (gVar 0) (aCons (gVar 2) aNil)))) (gSeq (gAsg (gPure (gBin dIx (gYg (gCB m_told_labels (aCons (gVar 0) (aCons (gVar 1) (aCons (gVar 3) aNil))))) (gVar 2))) (gtName 4)) (gRet (gPure (gIf (gB (gBin dIsN (gVar 4) (gC .non))) (gFlat (gC .non)) (gBin dIx (gVar 4) (gC (.int 2)))))))))
def m_told_path : List DV → Rs DV := thawF (runB b_told_path 5)
abbrev N_is_bound : List Str := ["network", "start", "numbers", "arcs", "edges", "vertex", "k", "other"]
def b_is_bound : GS := (gSeq (gIfS (gOr (gB (gBin dNe (gCB dLen (aCons (gVar 2) aNil)) (gNX (gMeth "Network" "size" m_Network_size (gVar 0) aNil)))) (gOr (gB (gBin dIsN (gBin dIx (gVar 2) (gVar 1)) (gC .non))) (gB (gBin dGt (gBin dIx (gVar 2) (gVar 1)) (gC (.int 0)))))) (gRet (gPure (gC (.bl false)))) gNext) (gSeq (gAsg (gPure (gNX (gMeth "Network" "edges" m_Network_edges (gVar 0) aNil))) (gtName 4)) (gSeq (gFor (gRng1 (aCons (gNX (gMeth "Network" "size" m_Network_size (gVar 0) aNil)) aNil)) (gtName 5) (gIfS (gB (gBin dNotN (gBin dIx (gVar 2) (gVar 5)) (gC .non))) (gFor (gSeqI (gCB m_steps_from (aCons (gVar 0) (aCons (gVar 5) (aCons (gVar 3) aNil))))) (gtTup [6, 7]) (gIfS (gOr (gB (gBin dIsN (gBin dIx (gVar 2) (gVar 7)) (gC .non))) (gB (gBin dGt (gBin dIx (gVar 2) (gVar 7)) (gBin dAdd (gImmL (gBin dIx (gVar 2) (gVar 5))) (gBin dIx (gBin dIx (gVar 4) (gVar 6)) (gC (.int 2))))))) (gRet (gPure (gC (.bl false)))) gNext)) gNext)) (gRet (gPure (gC (.bl true)))))))
def m_is_bound : List DV → Rs DV := runB b_is_bound 8
abbrev N_check_path : List Str := ["network", "start", "goal", "path", "numbers", "arcs", "edges", "here", "total", "k", "ways"]
def b_check_path : GS := (gSeq (gDrop (gPure (gMeth "Network" "check_vertex" m_Network_check_vertex (gVar 0) (aCons (gVar 1) aNil)))) (gSeq (gDrop (gPure (gMeth "Network" "check_vertex" m_Network_check_vertex (gVar 0) (aCons (gVar 2) aNil)))) (gSeq (gIfS (gNot (gB (gCB m_is_bound (aCons (gVar 0) (aCons (gVar 1) (aCons (gVar 4) (aCons (gVar 5) aNil))))))) (gRet (gPure (gC (.bl false)))) gNext) (gSeq (gAsg (gPure (gNX (gMeth "Network" "edges" m_Network_edges (gVar 0) aNil))) (gtName 6)) (gSeq (gAsg (gPure (gVar 1)) (gtName 7)) (gSeq (gAsg (gPure (gC (.int 0))) (gtName 8)) (gSeq (gFor (gImmI (gSeqI (gVar 3))) (gtName 9) (gSeq (gAsg (gPure (gDict (gCB m_steps_from (aCons (gVar 0) (aCons (gVar 7) (aCons (gVar 5) aNil)))))) (gtName 10)) (gSeq (gIfS (gB (gBin (dDIn true) (gVar 9) (gVar 10))) (gRet (gPure (gC (.bl false)))) gNext) (gSeq (gAsg (gPure (gBin dDGet (gVar 10) (gVar 9))) (gtName 7)) (gAug 8 (fun i j => i + j) (gBin dIx (gBin dIx (gVar 6) (gVar 9)) (gC (.int 2)))))))) (gRet (gPure (gAndV (gBin dEq (gVar 7) (gVar 2)) (gBin dEq (gVar 8) (gBin dIx (gVar 4) (gVar 2)))))))))))))
def m_check_path : List DV → Rs DV := runB b_check_path 11
abbrev N_distances : List Str := ["network", "vertex"]
def b_distances : GS := (gRet (gPure (gLc (gRng1 (aCons (gMeth "Network" "size" m_Network_size (gVar 0) aNil) aNil)) (gtName 1) gYes (gCB m_least_prices (aCons (gVar 0) (aCons (gVar 1) (aCons (gC (.bl false)) aNil)))) [1])))
def m_distances : List DV → Rs DV := runB b_distances 2
abbrev N_components : List Str := ["network", "found", "seen", "vertex", "numbers", "other"]
def b_components : GS := (gSeq (gAsg (gPure (eLst aNil)) (gtName 1)) (gSeq (gAsg (gPure (eLst aNil)) (gtName 2)) (gSeq (gFor (gRng1 (aCons (gMeth "Network" "size" m_Network_size (gVar 0) aNil) aNil)) (gtName 3) (gIfS (gB (gBin dNotIn (gVar 3) (gVar 2))) (gSeq (gAsg (gPure (gCB m_least_prices (aCons (gVar 0) (aCons (gVar 3) (aCons (gC (.bl false)) aNil))))) (gtName 4)) (gSeq (gDrop (gApp 1 (gPure (gLc (gRng1 (aCons (gMeth "Network" "size" m_Network_size (gVar 0) aNil) aNil)) (gtName 5) (gB (gBin dNotN (gBin dIx (gVar 4) (gVar 5)) (gC .non))) (gVar 5) [5])))) (gDrop (gExt 2 (gPure (gBin dIx (gVar 1) (gUn dNeg (gC (.int 1))))))))) gNext)) (gRet (gMove 1)))))
def m_components : List DV → Rs DV := runB b_components 6
abbrev N_check_edge : List Str := ["size", "edge", "number", "u", "v", "price"]
def b_check_edge : GS := (gSeq (gAsg (gPure (gVar 1)) (gtTup [3, 4, 5])) (gSeq (gIfS (gOr (gNot (gB (gChain dLe dLt (gC (.int 0)) (gVar 3) (gVar 0)))) (gOr (gNot (gB (gChain dLe dLt (gC (.int 0)) (gVar 4) (gVar 0)))) (gB (gBin dEq (gVar 3) (gVar 4))))) gNever gNext) (gIfS (gNot (gB (gChain dLe dLe (gC (.int 0)) (gVar 5) (gC (.int 1048576))))) gNever gNext)))
def m_check_edge : List DV → Rs DV := runB b_check_edge 6
abbrev N__law_draws : List Str := ["_law_script", "_law_draws_here", "_law_k", "_law_rest", "_law_turn", "_law_mixed"]
def b__law_draws : GS := (gSeq (gAsg (gPure (eLst aNil)) (gtName 1)) (gSeq (gFor (gRng1 (aCons (gCB dMin2 (aCons (gC (.int 63)) (aCons (gCB dLen (aCons (gVar 0) aNil)) aNil))) aNil)) (gtName 2) (gSeq (gAsg (gPure (gCB dAbs (aCons (gBin dIx (gVar 0) (gVar 2)) aNil))) (gtName 3)) (gIfS (gB (gBin dGe (gVar 3) (gBin dPow (gC (.int 10)) (gC (.int 18))))) (gFor (gRng1 (aCons (gC (.int 60)) aNil)) (gtName 4) (gIfS (gB (gBin dGt (gVar 3) (gC (.int 0)))) (gSeq (gDrop (gApp 1 (gPure (gBin dMod (gCB dInt (aCons (gVar 3) aNil)) (gC (.int 65536)))))) (gAsg (gPure (gBin dDiv (gVar 3) (gC (.int 65536)))) (gtName 3))) gNext)) (gSeq (gAsg (gPure (gBin dMod (gCB dInt (aCons (gBin dAdd (gBin dMul (gVar 3) (gC (.int 48271))) (gBin dMul (gBin dAdd (gVar 2) (gC (.int 1))) (gC (.int 69621)))) aNil)) (gC (.int 2147483647)))) (gtName 5)) (gSeq (gAsg (gPure (gBin dMod (gCB dInt (aCons (gBin dAdd (gBin dAdd (gBin dMul (gVar 5) (gC (.int 16807))) (gBin dMul (gC (.int 11)) (gVar 2))) (gC (.int 5))) aNil)) (gC (.int 2147483629)))) (gtName 5)) (gSeq (gDrop (gApp 1 (gPure (gBin dMod (gCB dInt (aCons (gVar 5) aNil)) (gC (.int 65536)))))) (gDrop (gApp 1 (gPure (gBin dMod (gCB dInt (aCons (gBin dDiv (gVar 5) (gC (.int 65536))) aNil)) (gC (.int 32768)))))))))))) (gRet (gMove 1))))
def m__law_draws : List DV → Rs DV := runB b__law_draws 6
abbrev N__law_mix : List Str := ["_law_draws_here", "_law_k", "_law_many", "_law_value"]
def b__law_mix : GS := (gSeq (gAsg (gPure (gC (.int 0))) (gtName 3)) (gSeq (gIfS (gB (gBin dGt (gCB dLen (aCons (gVar 0) aNil)) (gC (.int 0)))) (gAsg (gPure (gBin dIx (gVar 0) (gBin dMod (gCB dInt (aCons (gVar 1) aNil)) (gCB dLen (aCons (gVar 0) aNil))))) (gtName 3)) gNext) (gSeq (gIfS (gB (gBin dLt (gVar 1) (gCB dLen (aCons (gVar 0) aNil)))) (gRet (gPure (gBin dMod (gCB dInt (aCons (gVar 3) aNil)) (gVar 2)))) gNext) (gRet (gPure (gBin dMod (gCB dInt (aCons (gBin dDiv (gCB dInt (aCons (gBin dAdd (gBin dMul (gVar 3) (gC (.int 7919))) (gBin dMul (gVar 1) (gC (.int 104729)))) aNil)) (gC (.int 3))) aNil)) (gVar 2)))))))
def m__law_mix : List DV → Rs DV := runB b__law_mix 4
abbrev N__law_network : List Str := ["_law_draws_here", "_law_k", "_law_sizes", "_law_many", "_law_top", "_law_size", "_law_edges", "_law_j", "_law_u", "_law_v"]
def b__law_network : GS := (gSeq (gAsg (gPure (gBin dAdd (gC (.int 1)) (gCB m__law_mix (aCons (gVar 0) (aCons (gVar 1) (aCons (gVar 2) aNil)))))) (gtName 5)) (gSeq (gAsg (gPure (eLst aNil)) (gtName 6)) (gSeq (gIfS (gB (gBin dGt (gVar 5) (gC (.int 1)))) (gFor (gRng1 (aCons (gCB m__law_mix (aCons (gVar 0) (aCons (gBin dAdd (gVar 1) (gC (.int 1))) (aCons (gBin dAdd (gVar 3) (gC (.int 1))) aNil)))) aNil)) (gtName 7) (gSeq (gAsg (gPure (gCB m__law_mix (aCons (gVar 0) (aCons (gBin dAdd (gBin dAdd (gVar 1) (gC (.int 3))) (gBin dMul (gC (.int 3)) (gVar 7))) (aCons (gVar 5) aNil))))) (gtName 8)) (gSeq (gAsg (gPure (gBin dMod (gCB dInt (aCons (gBin dAdd (gBin dAdd (gVar 8) (gC (.int 1))) (gCB m__law_mix (aCons (gVar 0) (aCons (gBin dAdd (gBin dAdd (gVar 1) (gC (.int 4))) (gBin dMul (gC (.int 3)) (gVar 7))) (aCons (gBin dSub (gVar 5) (gC (.int 1))) aNil))))) aNil)) (gVar 5))) (gtName 9)) (gDrop (gApp 6 (gPure (eTup (aCons (gVar 8) (aCons (gVar 9) (aCons (gCB m__law_mix (aCons (gVar 0) (aCons (gBin dAdd (gBin dAdd (gVar 1) (gC (.int 5))) (gBin dMul (gC (.int 3)) (gVar 7))) (aCons (gVar 4) aNil)))) aNil)))))))))) gNext) (gRet (xTup (xCons (gPure (gVar 5)) (xCons (gMove 6) xNil)))))))
def m__law_network : List DV → Rs DV := runB b__law_network 10
abbrev N__law_steps : List Str := ["_law_edges", "_law_arcs", "_law_steps_here", "_law_k", "_law_u", "_law_v", "_law_price"]
def b__law_steps : GS := (gSeq (gAsg (gPure (eLst aNil)) (gtName 2)) (gSeq (gFor (gRng1 (aCons (gCB dLen (aCons (gVar 0) aNil)) aNil)) (gtName 3) (gSeq (gAsg (gPure (gBin dIx (gVar 0) (gVar 3))) (gtTup [4, 5, 6])) (gSeq (gDrop (gApp 2 (gPure (eTup (aCons (gVar 4) (aCons (gVar 5) (aCons (gVar 6) (aCons (gVar 3) aNil)))))))) (gIfS (gNot (gTru (gVar 1))) (gDrop (gApp 2 (gPure (eTup (aCons (gVar 5) (aCons (gVar 4) (aCons (gVar 6) (aCons (gVar 3) aNil)))))))) gNext)))) (gRet (gMove 2))))
def m__law_steps : List DV → Rs DV := runB b__law_steps 7
abbrev N__law_labels : List Str := ["_law_size", "_law_edges", "_law_start", "_law_arcs", "_law_best", "_law_layer", "_law_count", "_law_vertex", "_law_label", "_law_after", "_law_u", "_law_v", "_law_price", "_law_k"]
def b__law_labels : GS := (gSeq (gAsg (gPure (gBin dRep (eLst (aCons (gC .non) aNil)) (gVar 0))) (gtName 4)) (gSeq (gAsg (gPure (gBin dRep (eLst (aCons (gC .non) aNil)) (gVar 0))) (gtName 5)) (gSeq (gSetI 5 (gVar 2) (gPure (eTup (aCons (gC (.int 0)) (aCons (eLst aNil) aNil))))) (gSeq (gFor (gRng1 (aCons (gVar 0) aNil)) (gtName 6) (gSeq (gFor (gRng1 (aCons (gVar 0) aNil)) (gtName 7) (gIfS (gB (gBin dNotN (gBin dIx (gVar 5) (gVar 7)) (gC .non))) (gSeq (gAsg (gPure (eTup (aCons (gBin dIx (gBin dIx (gVar 5) (gVar 7)) (gC (.int 0))) (aCons (gVar 6) (aCons (gBin dIx (gBin dIx (gVar 5) (gVar 7)) (gC (.int 1))) aNil))))) (gtName 8)) (gIfS (gOr (gB (gBin dIsN (gBin dIx (gVar 4) (gVar 7)) (gC .non))) (gB (gBin dLtD (gVar 8) (gBin dIx (gVar 4) (gVar 7))))) (gSetI 4 (gVar 7) (gPure (gVar 8))) gNext)) gNext)) (gSeq (gAsg (gPure (gBin dRep (eLst (aCons (gC .non) aNil)) (gVar 0))) (gtName 9)) (gSeq (gFor (gSeqI (gCB m__law_steps (aCons (gVar 1) (aCons (gVar 3) aNil)))) (gtTup [10, 11, 12, 13]) (gIfS (gB (gBin dNotN (gBin dIx (gVar 5) (gVar 10)) (gC .non))) (gSeq (gAsg (gPure (eTup (aCons (gBin dAdd (gBin dIx (gBin dIx (gVar 5) (gVar 10)) (gC (.int 0))) (gVar 12)) (aCons (gBin dAdd (gBin dIx (gBin dIx (gVar 5) (gVar 10)) (gC (.int 1))) (eLst (aCons (gVar 13) aNil))) aNil)))) (gtName 8)) (gIfS (gOr (gB (gBin dIsN (gBin dIx (gVar 9) (gVar 11)) (gC .non))) (gB (gBin dLtD (gVar 8) (gBin dIx (gVar 9) (gVar 11))))) (gSetI 9 (gVar 11) (gPure (gVar 8))) gNext)) gNext)) (gAsg (gMove 9) (gtName 5)))))) (gRet (gMove 4))))))
def m__law_labels : List DV → Rs DV := runB b__law_labels 14
abbrev N__law_refused : List Str := ["_law_way", "_law_network_here", "_law_start", "_law_goal", "_law_arcs", "error"]
def b__law_refused : GS := (gSeq (gTry 6 (gIfS (gB (gBin dEq (gVar 0) (gC (.int 0)))) (gDrop (gPure (gCB m_least_prices (aCons (gVar 1) (aCons (gVar 2) (aCons (gVar 4) aNil)))))) (gIfS (gB (gBin dEq (gVar 0) (gC (.int 1)))) (gDrop (gPure (gCB m_told_path (aCons (gVar 1) (aCons (gVar 2) (aCons (gVar 3) (aCons (gVar 4) aNil))))))) (gDrop (gPure (gCB m_check_path (aCons (gVar 1) (aCons (gVar 2) (aCons (gVar 3) (aCons (eLst aNil) (aCons (eLst aNil) (aCons (gVar 4) aNil))))))))))) (fun c d => (gRet (gPure (eTup (aCons (gIsX (decide (c = "BadVertex"))) (aCons (gAt d) aNil))))))) (gRet (gPure (gC .non))))
def m__law_refused : List DV → Rs DV := runB b__law_refused 6
abbrev N__law_start_right : List Str := ["_law_network_here", "_law_size", "_law_edges", "_law_start", "_law_arcs", "_law_labels_here", "_law_due", "_law_vertex", "_law_numbers", "_law_goal", "_law_path"]
def b__law_start_right : GS := (gSeq (gAsg (gPure (gCB m__law_labels (aCons (gVar 1) (aCons (gVar 2) (aCons (gVar 3) (aCons (gVar 4) aNil)))))) (gtName 5)) (gSeq (gAsg (gPure (gBin dRep (eLst (aCons (gC .non) aNil)) (gVar 1))) (gtName 6)) (gSeq (gFor (gRng1 (aCons (gVar 1) aNil)) (gtName 7) (gIfS (gB (gBin dNotN (gBin dIx (gVar 5) (gVar 7)) (gC .non))) (gSetI 6 (gVar 7) (gPure (gBin dIx (gBin dIx (gVar 5) (gVar 7)) (gC (.int 0))))) gNext)) (gSeq (gAsg (gPure (gCB m_least_prices (aCons (gVar 0) (aCons (gVar 3) (aCons (gVar 4) aNil))))) (gtName 8)) (gSeq (gIfS (gB (gBin dNe (gVar 8) (gVar 6))) (gRet (gPure (gC (.bl false)))) gNext) (gSeq (gFor (gRng1 (aCons (gVar 1) aNil)) (gtName 9) (gSeq (gAsg (gPure (gCB m_told_path (aCons (gVar 0) (aCons (gVar 3) (aCons (gVar 9) (aCons (gVar 4) aNil)))))) (gtName 10)) (gSeq (gIfS (gB (gBin dIsN (gBin dIx (gVar 5) (gVar 9)) (gC .non))) (gIfS (gB (gBin dNotN (gVar 10) (gC .non))) (gRet (gPure (gC (.bl false)))) gNext) (gIfS (gOr (gB (gBin dNe (gVar 10) (gBin dIx (gBin dIx (gVar 5) (gVar 9)) (gC (.int 2))))) (gB (gBin dNotB (gCB m_check_path (aCons (gVar 0) (aCons (gVar 3) (aCons (gVar 9) (aCons (gVar 10) (aCons (gVar 8) (aCons (gVar 4) aNil))))))) (gC (.bl true))))) (gRet (gPure (gC (.bl false)))) gNext)) (gIfS (gB (gBin dNotN (gVar 10) (gC .non))) (gDrop (gApp 10 (gPure (gC (.int 0))))) gNext)))) (gSeq (gDrop (gApp 8 (gPure (gC (.int 5))))) (gRet (gPure (gBin dEq (gCB m_least_prices (aCons (gVar 0) (aCons (gVar 3) (aCons (gVar 4) aNil)))) (gVar 6)))))))))))
def m__law_start_right : List DV → Rs DV := runB b__law_start_right 11
abbrev N__law_components : List Str := ["_law_table", "_law_found", "_law_vertex", "_law_group", "_law_other"]
def b__law_components : GS := (gSeq (gAsg (gPure (eLst aNil)) (gtName 1)) (gSeq (gFor (gRng1 (aCons (gCB dLen (aCons (gVar 0) aNil)) aNil)) (gtName 2) (gSeq (gAsg (gPure (gLc (gRng1 (aCons (gCB dLen (aCons (gVar 0) aNil)) aNil)) (gtName 4) (gB (gBin dNotN (gBin dIx (gBin dIx (gVar 0) (gVar 2)) (gVar 4)) (gC .non))) (gVar 4) [4])) (gtName 3)) (gIfS (gB (gBin dNotIn (gVar 3) (gVar 1))) (gDrop (gApp 1 (gPure (gVar 3)))) gNext))) (gRet (gMove 1))))
def m__law_components : List DV → Rs DV := runB b__law_components 5
abbrev N_Network___init__ : List Str := ["self", "size", "edges", "number"]
def b_Network___init__ : GS := (gSeq (gIfS (gNot (gB (gChain dLe dLe (gC (.int 1)) (gVar 1) (gC (.int 40))))) gNever gNext) (gSeq (gIfS (gB (gBin dGt (gCB dLen (aCons (gVar 2) aNil)) (gC (.int 200)))) gNever gNext) (gSeq (gFor (gRng1 (aCons (gCB dLen (aCons (gVar 2) aNil)) aNil)) (gtName 3) (gDrop (gPure (gCB m_check_edge (aCons (gVar 1) (aCons (gBin dIx (gVar 2) (gVar 3)) (aCons (gVar 3) aNil))))))) (gSeq (gSetF 0 "Network" "_size" (gPure (gVar 1))) (gSetF 0 "Network" "_edges" (gPure (gCB dList (aCons (gVar 2) aNil))))))))
def m_Network___init__ : List DV → Rs DV := runN "Network" b_Network___init__ 3
abbrev N_law : List Str := ["_law_script", "_law_draws_here", "_law_wide", "_law_top", "_law_size", "_law_edges", "_law_network_here", "_law_arcs", "_law_start", "_law_table", "_law_row", "_law_labels_here", "_law_vertex", "_law_low", "_law_high", "_law_way"]
def b_law : GS := (gSeq (gAsg (gPure (gCB m__law_draws (aCons (gVar 0) aNil))) (gtName 1)) (gSeq (gAsg (gPure (gBin dEq (gCB m__law_mix (aCons (gVar 1) (aCons (gC (.int 2)) (aCons (gC (.int 5)) aNil)))) (gC (.int 1)))) (gtName 2)) (gSeq (gAsg (gPure (gBin dIx (eLst (aCons (gC (.int 2)) (aCons (gC (.int 3)) (aCons (gC (.int 6)) (aCons (gC (.int 1048577)) aNil))))) (gCB m__law_mix (aCons (gVar 1) (aCons (gC (.int 0)) (aCons (gC (.int 4)) aNil)))))) (gtName 3)) (gSeq (gAsg (gPure (gCB m__law_network (aCons (gVar 1) (aCons (gC (.int 30)) (aCons (gBin dIx (eLst (aCons (gC (.int 8)) (aCons (gC (.int 20)) aNil))) (gCB dInt (aCons (gVar 2) aNil))) (aCons (gBin dIx (eLst (aCons (gC (.int 14)) (aCons (gC (.int 40)) aNil))) (gCB dInt (aCons (gVar 2) aNil))) (aCons (gVar 3) aNil))))))) (gtTup [4, 5])) (gSeq (gAsg (gPure (gCB m_Network___init__ (aCons (gVar 4) (aCons (gVar 5) aNil)))) (gtName 6)) (gSeq (gFor (gSeqI (eLst (aCons (gC (.bl false)) (aCons (gC (.bl true)) aNil)))) (gtName 7) (gFor (gRng1 (aCons (gVar 4) aNil)) (gtName 8) (gIfS (gOr (gNot (gTru (gVar 2))) (gB (gBin dEq (gBin dMod (gCB dInt (aCons (gBin dAdd (gVar 8) (gCB m__law_mix (aCons (gVar 1) (aCons (gC (.int 3)) (aCons (gC (.int 5)) aNil))))) aNil)) (gC (.int 5))) (gC (.int 0))))) (gIfS (gNot (gB (gCB m__law_start_right (aCons (gVar 6) (aCons (gVar 4) (aCons (gVar 5) (aCons (gVar 8) (aCons (gVar 7) aNil)))))))) (gRet (gPure (gC (.bl false)))) gNext) gNext))) (gSeq (gAsg (gPure (eLst aNil)) (gtName 9)) (gSeq (gFor (gRng1 (aCons (gVar 4) aNil)) (gtName 8) (gSeq (gAsg (gPure (gBin dRep (eLst (aCons (gC .non) aNil)) (gVar 4))) (gtName 10)) (gSeq (gAsg (gPure (gCB m__law_labels (aCons (gVar 4) (aCons (gVar 5) (aCons (gVar 8) (aCons (gC (.bl false)) aNil)))))) (gtName 11)) (gSeq (gFor (gRng1 (aCons (gVar 4) aNil)) (gtName 12) (gIfS (gB (gBin dNotN (gBin dIx (gVar 11) (gVar 12)) (gC .non))) (gSetI 10 (gVar 12) (gPure (gBin dIx (gBin dIx (gVar 11) (gVar 12)) (gC (.int 0))))) gNext)) (gDrop (gApp 9 (gMove 10))))))) (gSeq (gIfS (gOr (gB (gBin dNe (gCB m_distances (aCons (gVar 6) aNil)) (gVar 9))) (gB (gBin dNe (gCB m_components (aCons (gVar 6) aNil)) (gCB m__law_components (aCons (gVar 9) aNil))))) (gRet (gPure (gC (.bl false)))) gNext) (gSeq (gAsg (gPure (gBin dSub (gUn dNeg (gC (.int 1))) (gCB m__law_mix (aCons (gVar 1) (aCons (gC (.int 1)) (aCons (gC (.int 9)) aNil)))))) (gtName 13)) (gSeq (gAsg (gPure (gBin dAdd (gVar 4) (gCB m__law_mix (aCons (gVar 1) (aCons (gC (.int 1)) (aCons (gC (.int 9)) aNil)))))) (gtName 14)) (gSeq (gFor (gRng1 (aCons (gC (.int 3)) aNil)) (gtName 15) (gSeq (gIfS (gB (gBin dNe (gCB m__law_refused (aCons (gVar 15) (aCons (gVar 6) (aCons (gVar 13) (aCons (gVar 14) (aCons (gC (.bl true)) aNil)))))) (eTup (aCons (gC (.bl true)) (aCons (gVar 13) aNil))))) (gRet (gPure (gC (.bl false)))) gNext) (gIfS (gAnd (gB (gBin dGt (gVar 15) (gC (.int 0)))) (gB (gBin dNe (gCB m__law_refused (aCons (gVar 15) (aCons (gVar 6) (aCons (gC (.int 0)) (aCons (gVar 14) (aCons (gC (.bl false)) aNil)))))) (eTup (aCons (gC (.bl true)) (aCons (gVar 14) aNil)))))) (gRet (gPure (gC (.bl false)))) gNext))) (gRet (gPure (gBin dEq (gMeth "Network" "edges" m_Network_edges (gVar 6) aNil) (gVar 5))))))))))))))))
def m_law : List DV → Rs DV := runB b_law 16
end M
end

/-! text N1 -/
section
set_option maxRecDepth 100000
set_option maxHeartbeats 4000000
namespace M
open PySem DL
def Ds (ds : List Int) : Prop := ds.length ≤ 4000 ∧ ∀ z ∈ ds, 0 ≤ z ∧ z < 65536
theorem mulR {a b : Int} (h : b.natAbs < 2 ^ 64) : mulOk a b = true := by
  unfold mulOk
  rw [decide_eq_true h, Bool.true_or, Bool.or_true]
theorem dIx_mod {ds : List Int} {k : Int} (h : 0 < ds.length) : ∃ y ∈ ds, dIx (di ds) (.int (k % (ds.length : Int))) = .ok (.int y) := by
  have h1 : 0 ≤ k % (ds.length : Int) := Int.emod_nonneg _ (by omega)
  have h2 : k % (ds.length : Int) < (ds.length : Int) := Int.emod_lt_of_pos _ (by omega)
  exact ⟨_, List.getElem_mem (by omega), dIx_g (g := DV.int) (k % (ds.length : Int)).toNat (by omega) (by omega)⟩
theorem lenI_e {ρ : EnvD} {i : Nat} {xs : List Int} (h : lk ρ i = .ok (di xs)) : gCB dLen (aCons (gVar i) aNil) ρ = .ok (.int xs.length) := len_e (g := DV.int) (xs := xs) h
theorem mix_ok {ds : List Int} (hd : Ds ds) {k m : Int} (hk : 0 ≤ k) (hm : 0 < m) : ∃ v : Int, 0 ≤ v ∧ v < m ∧ m__law_mix [di ds, .int k, .int m] = .ok (.int v) := by
  have st : startD 4 [di ds, .int k, .int m] = [some (di ds), some (.int k), some (.int m), none] := rfl
  have s1 : (gAsg (gPure (gC (.int 0))) (gtName 3)) [some (di ds), some (.int k), some (.int m), none] = .nx [some (di ds), some (.int k), some (.int m), some (.int 0)] := rfl
  obtain ⟨y, y0, y1, s2⟩ : ∃ y : Int, 0 ≤ y ∧ y < 65536 ∧ (gIfS (gB (gBin dGt (gCB dLen (aCons (gVar 0) aNil)) (gC (.int 0)))) (gAsg (gPure (gBin dIx (gVar 0) (gBin dMod (gCB dInt (aCons (gVar 1) aNil)) (gCB dLen (aCons (gVar 0) aNil))))) (gtName 3)) gNext) [some (di ds), some (.int k), some (.int m), some (.int 0)] = .nx [some (di ds), some (.int k), some (.int m), some (.int y)] := by
    have t : (gB (gBin dGt (gCB dLen (aCons (gVar 0) aNil)) (gC (.int 0)))) [some (di ds), some (.int k), some (.int m), some (.int 0)] = .ok (decide (0 < (ds.length : Int))) := b_e ((bin_e (lenI_e rfl) rfl).trans dGt_i)
    by_cases c : 0 < ds.length
    · obtain ⟨y, ym, ye⟩ := dIx_mod (ds := ds) (k := k) c
      obtain ⟨z0, z1⟩ := hd.2 y ym
      refine ⟨y, z0, z1, ?_⟩
      rw [ev_ifS t, if_pos (decide_eq_true (by omega))]
      exact set_e (i := 3) ((bin_e rfl ((bin_e ((cb1 rfl).trans dInt_i) (lenI_e rfl)).trans (md (by omega)))).trans ye)
    · refine ⟨0, by decide, by decide, ?_⟩
      rw [ev_ifS t, if_neg (by rw [decide_eq_false (by omega)]; decide)]
      rfl
  have t3 : (gB (gBin dLt (gVar 1) (gCB dLen (aCons (gVar 0) aNil)))) [some (di ds), some (.int k), some (.int m), some (.int y)] = .ok (decide (k < (ds.length : Int))) := b_e ((bin_e rfl (lenI_e rfl)).trans dLt_i)
  unfold m__law_mix runB b__law_mix
  rw [st, ev_seq s1, ev_seq s2]
  by_cases c : k < (ds.length : Int)
  · refine ⟨y % m, Int.emod_nonneg _ (by omega), Int.emod_lt_of_pos _ hm, ?_⟩
    rw [ev_seqR (d := .int (y % m)) (ρ' := [some (di ds), some (.int k), some (.int m), some (.int y)]) (by rw [ev_ifS t3, if_pos (decide_eq_true c)]; exact ret_e ((bin_e ((cb1 rfl).trans dInt_i) rfl).trans (md hm)))]
    rfl
  · refine ⟨(y * 7919 + k * 104729) / 3 % m, Int.emod_nonneg _ (by omega), Int.emod_lt_of_pos _ hm, ?_⟩
    have q : (gBin dMod (gCB dInt (aCons (gBin dDiv (gCB dInt (aCons (gBin dAdd (gBin dMul (gVar 3) (gC (.int 7919))) (gBin dMul (gVar 1) (gC (.int 104729)))) aNil)) (gC (.int 3))) aNil)) (gVar 2)) [some (di ds), some (.int k), some (.int m), some (.int y)] = .ok (.int ((y * 7919 + k * 104729) / 3 % m)) := by
      refine (bin_e ((cb1 ((bin_e ((cb1 ((bin_e ((bin_e rfl rfl).trans (dMul_i (mulR (by decide)))) ((bin_e rfl rfl).trans (dMul_i (mulR (by decide))))).trans dAdd_i)).trans dInt_i) rfl).trans (dDiv_i (by decide) (by decide)))).trans dInt_i) rfl).trans (md hm)
    rw [ev_skip (by rw [t3, decide_eq_false c]), ret_e q]
    rfl
theorem app_b {xs : List Int} {x : Int} {i : Nat} {ρ : EnvD} {ge : GE} (h1 : lk ρ i = .ok (di xs)) (h2 : ge ρ = .ok (.int x)) (h : xs.length ≤ 100000) : gDrop (gApp i (gPure ge)) ρ = .nx (ρ.set i (some (di (xs ++ [x])))) := by
  unfold gDrop gApp
  rw [h1]
  dsimp only
  rw [ev_pure, h2]
  dsimp only [Rs.bind]
  rw [h1]
  dsimp only
  rw [if_pos (by rw [List.length_map, sz_eq]; omega)]
  unfold di
  rw [List.map_append]
  rfl
def iB : GS := (gIfS (gB (gBin dGt (gVar 3) (gC (.int 0)))) (gSeq (gDrop (gApp 1 (gPure (gBin dMod (gCB dInt (aCons (gVar 3) aNil)) (gC (.int 65536)))))) (gAsg (gPure (gBin dDiv (gVar 3) (gC (.int 65536)))) (gtName 3))) gNext)
def II (S T2 T5 : Option DV) (n0 : Nat) (j : Nat) (ρ : EnvD) : Prop := ∃ (out : List Int) (r : Int) (t4 : Option DV), ρ = [S, some (di out), T2, some (.int r), t4, T5] ∧ 0 ≤ r ∧ out.length ≤ n0 + j ∧ ∀ z ∈ out, 0 ≤ z ∧ z < 65536
theorem i_turn {S T2 T5 : Option DV} {n0 j : Nat} {ρ : EnvD} (hn : n0 ≤ 4000) (hj : j < 60) (h : II S T2 T5 n0 j ρ) : ∃ ρ1 ρ2, gtName 4 (.int ((0 : Int) + (j : Int))) ρ = .ok ρ1 ∧ iB ρ1 = .nx ρ2 ∧ II S T2 T5 n0 (j + 1) ρ2 := by
  obtain ⟨out, r, t4, rfl, h0, h1, h2⟩ := h
  refine ⟨[S, some (di out), T2, some (.int r), some (.int ((0 : Int) + (j : Int))), T5], ?_⟩
  have t : (gB (gBin dGt (gVar 3) (gC (.int 0)))) [S, some (di out), T2, some (.int r), some (.int ((0 : Int) + (j : Int))), T5] = .ok (decide (0 < r)) := b_e ((bin_e rfl rfl).trans dGt_i)
  by_cases c : 0 < r
  · have s1 : (gDrop (gApp 1 (gPure (gBin dMod (gCB dInt (aCons (gVar 3) aNil)) (gC (.int 65536)))))) [S, some (di out), T2, some (.int r), some (.int ((0 : Int) + (j : Int))), T5] = .nx [S, some (di (out ++ [r % 65536])), T2, some (.int r), some (.int ((0 : Int) + (j : Int))), T5] := app_b rfl ((bin_e ((cb1 rfl).trans dInt_i) rfl).trans (md (by decide))) (by omega)
    have s2 : (gAsg (gPure (gBin dDiv (gVar 3) (gC (.int 65536)))) (gtName 3)) [S, some (di (out ++ [r % 65536])), T2, some (.int r), some (.int ((0 : Int) + (j : Int))), T5] = .nx [S, some (di (out ++ [r % 65536])), T2, some (.int (r / 65536)), some (.int ((0 : Int) + (j : Int))), T5] := set_e (i := 3) ((bin_e rfl rfl).trans (dDiv_i (by decide) (by decide)))
    refine ⟨_, rfl, ?_, out ++ [r % 65536], r / 65536, some (.int ((0 : Int) + (j : Int))), rfl, by omega, by rw [List.length_append]; show out.length + 1 ≤ _; omega, fun z hz => ?_⟩
    · unfold iB
      rw [ev_ifS t, if_pos (decide_eq_true c), ev_seq s1, s2]
    · rcases List.mem_append.mp hz with z1 | z1
      · exact h2 z z1
      · rw [List.mem_singleton.mp z1]
        omega
  · refine ⟨_, rfl, ?_, out, r, some (.int ((0 : Int) + (j : Int))), rfl, h0, by omega, h2⟩
    unfold iB
    rw [ev_ifS t, if_neg (by rw [decide_eq_false c]; decide)]
    rfl
def dB : GS := (gSeq (gAsg (gPure (gCB dAbs (aCons (gBin dIx (gVar 0) (gVar 2)) aNil))) (gtName 3)) (gIfS (gB (gBin dGe (gVar 3) (gBin dPow (gC (.int 10)) (gC (.int 18))))) (gFor (gRng1 (aCons (gC (.int 60)) aNil)) (gtName 4) (gIfS (gB (gBin dGt (gVar 3) (gC (.int 0)))) (gSeq (gDrop (gApp 1 (gPure (gBin dMod (gCB dInt (aCons (gVar 3) aNil)) (gC (.int 65536)))))) (gAsg (gPure (gBin dDiv (gVar 3) (gC (.int 65536)))) (gtName 3))) gNext)) (gSeq (gAsg (gPure (gBin dMod (gCB dInt (aCons (gBin dAdd (gBin dMul (gVar 3) (gC (.int 48271))) (gBin dMul (gBin dAdd (gVar 2) (gC (.int 1))) (gC (.int 69621)))) aNil)) (gC (.int 2147483647)))) (gtName 5)) (gSeq (gAsg (gPure (gBin dMod (gCB dInt (aCons (gBin dAdd (gBin dAdd (gBin dMul (gVar 5) (gC (.int 16807))) (gBin dMul (gC (.int 11)) (gVar 2))) (gC (.int 5))) aNil)) (gC (.int 2147483629)))) (gtName 5)) (gSeq (gDrop (gApp 1 (gPure (gBin dMod (gCB dInt (aCons (gVar 5) aNil)) (gC (.int 65536)))))) (gDrop (gApp 1 (gPure (gBin dMod (gCB dInt (aCons (gBin dDiv (gVar 5) (gC (.int 65536))) aNil)) (gC (.int 32768)))))))))))
def DI (ns : List Int) (i : Nat) (ρ : EnvD) : Prop := ∃ (out : List Int) (t2 t3 t4 t5 : Option DV), ρ = [some (di ns), some (di out), t2, t3, t4, t5] ∧ out.length ≤ 60 * i ∧ ∀ z ∈ out, 0 ≤ z ∧ z < 65536
theorem d_turn {ns : List Int} {i : Nat} {ρ : EnvD} (hi : i < ns.length) (h63 : i < 63) (h : DI ns i ρ) : ∃ ρ1 ρ2, gtName 2 (.int ((0 : Int) + (i : Int))) ρ = .ok ρ1 ∧ dB ρ1 = .nx ρ2 ∧ DI ns (i + 1) ρ2 := by
  obtain ⟨out, t2, t3, t4, t5, rfl, h1, h2⟩ := h
  refine ⟨[some (di ns), some (di out), some (.int ((0 : Int) + (i : Int))), t3, t4, t5], ?_⟩
  have g : dIx (di ns) (.int ((0 : Int) + (i : Int))) = .ok (.int ns[i]) := dIx_g (g := DV.int) i (by omega) hi
  generalize ns[i] = c at g
  obtain ⟨r, hr, s1⟩ : ∃ r : Int, 0 ≤ r ∧ (gAsg (gPure (gCB dAbs (aCons (gBin dIx (gVar 0) (gVar 2)) aNil))) (gtName 3)) [some (di ns), some (di out), some (.int ((0 : Int) + (i : Int))), t3, t4, t5] = .nx [some (di ns), some (di out), some (.int ((0 : Int) + (i : Int))), some (.int r), t4, t5] := ⟨if c < 0 then -c else c, by omega, set_e (i := 3) ((cb1 ((bin_e rfl rfl).trans g)).trans rfl)⟩
  have t : (gB (gBin dGe (gVar 3) (gBin dPow (gC (.int 10)) (gC (.int 18))))) [some (di ns), some (di out), some (.int ((0 : Int) + (i : Int))), some (.int r), t4, t5] = .ok (decide ((10 : Int) ^ 18 ≤ r)) := b_e ((bin_e rfl ((bin_e rfl rfl).trans (rfl : dPow (.int 10) (.int 18) = .ok (.int ((10 : Int) ^ 18))))).trans dGe_i)
  by_cases c : (10 : Int) ^ 18 ≤ r
  · obtain ⟨ρ', f1, out2, r2, u4, e1, _, h3, h4⟩ := forG_rngB (tg := gtName 4) (b := iB) 60 (II (some (di ns)) (some (.int ((0 : Int) + (i : Int)))) t5 out.length) (fun j ρ hj hρ => i_turn (by omega) hj hρ) 60 0 [some (di ns), some (di out), some (.int ((0 : Int) + (i : Int))), some (.int r), t4, t5] (by omega) ⟨out, r, t4, rfl, hr, by omega, h2⟩
    have s2 : gFor (gRng1 (aCons (gC (.int 60)) aNil)) (gtName 4) iB [some (di ns), some (di out), some (.int ((0 : Int) + (i : Int))), some (.int r), t4, t5] = .nx ρ' := ev_for (rng1_e (i := 60) (n := 60) rfl rfl (by omega)) (by rw [rngD_eq]; exact f1)
    refine ⟨ρ', rfl, ?_, out2, some (.int ((0 : Int) + (i : Int))), some (.int r2), u4, t5, e1, by omega, h4⟩
    unfold dB
    rw [ev_seq s1, ev_ifS t, if_pos (decide_eq_true c)]
    exact s2
  · obtain ⟨y, y1, s2⟩ : ∃ y : Int, 0 ≤ y ∧ (gAsg (gPure (gBin dMod (gCB dInt (aCons (gBin dAdd (gBin dMul (gVar 3) (gC (.int 48271))) (gBin dMul (gBin dAdd (gVar 2) (gC (.int 1))) (gC (.int 69621)))) aNil)) (gC (.int 2147483647)))) (gtName 5)) [some (di ns), some (di out), some (.int ((0 : Int) + (i : Int))), some (.int r), t4, t5] = .nx [some (di ns), some (di out), some (.int ((0 : Int) + (i : Int))), some (.int r), t4, some (.int y)] := ⟨_, Int.emod_nonneg _ (by decide), set_e (i := 5) ((bin_e ((cb1 ((bin_e ((bin_e rfl rfl).trans (dMul_i (mulR (by decide)))) ((bin_e ((bin_e rfl rfl).trans dAdd_i) rfl).trans (dMul_i (mulR (by decide))))).trans dAdd_i)).trans dInt_i) rfl).trans (md (by decide)))⟩
    obtain ⟨z, z1, s3⟩ : ∃ z : Int, 0 ≤ z ∧ (gAsg (gPure (gBin dMod (gCB dInt (aCons (gBin dAdd (gBin dAdd (gBin dMul (gVar 5) (gC (.int 16807))) (gBin dMul (gC (.int 11)) (gVar 2))) (gC (.int 5))) aNil)) (gC (.int 2147483629)))) (gtName 5)) [some (di ns), some (di out), some (.int ((0 : Int) + (i : Int))), some (.int r), t4, some (.int y)] = .nx [some (di ns), some (di out), some (.int ((0 : Int) + (i : Int))), some (.int r), t4, some (.int z)] := ⟨_, Int.emod_nonneg _ (by decide), set_e (i := 5) ((bin_e ((cb1 ((bin_e ((bin_e ((bin_e rfl rfl).trans (dMul_i (mulR (by decide)))) ((bin_e rfl rfl).trans (dMul_i (mulT (by decide))))).trans dAdd_i) rfl).trans dAdd_i)).trans dInt_i) rfl).trans (md (by decide)))⟩
    have s4 : (gDrop (gApp 1 (gPure (gBin dMod (gCB dInt (aCons (gVar 5) aNil)) (gC (.int 65536)))))) [some (di ns), some (di out), some (.int ((0 : Int) + (i : Int))), some (.int r), t4, some (.int z)] = .nx [some (di ns), some (di (out ++ [z % 65536])), some (.int ((0 : Int) + (i : Int))), some (.int r), t4, some (.int z)] := app_b rfl ((bin_e ((cb1 rfl).trans dInt_i) rfl).trans (md (by decide))) (by omega)
    have s5 : (gDrop (gApp 1 (gPure (gBin dMod (gCB dInt (aCons (gBin dDiv (gVar 5) (gC (.int 65536))) aNil)) (gC (.int 32768)))))) [some (di ns), some (di (out ++ [z % 65536])), some (.int ((0 : Int) + (i : Int))), some (.int r), t4, some (.int z)] = .nx [some (di ns), some (di (out ++ [z % 65536] ++ [z / 65536 % 32768])), some (.int ((0 : Int) + (i : Int))), some (.int r), t4, some (.int z)] := app_b rfl ((bin_e ((cb1 ((bin_e rfl rfl).trans (dDiv_i (by decide) (by decide)))).trans dInt_i) rfl).trans (md (by decide))) (by rw [List.length_append]; show out.length + 1 ≤ _; omega)
    refine ⟨_, rfl, ?_, out ++ [z % 65536] ++ [z / 65536 % 32768], some (.int ((0 : Int) + (i : Int))), some (.int r), t4, some (.int z), rfl, ?_, fun w hw => ?_⟩
    · unfold dB
      rw [ev_seq s1, ev_ifS t, if_neg (by rw [decide_eq_false c]; decide), ev_seq s2, ev_seq s3, ev_seq s4, s5]
    · rw [List.length_append, List.length_append]
      show out.length + 1 + 1 ≤ _
      omega
    · rcases List.mem_append.mp hw with hw | hw
      · rcases List.mem_append.mp hw with hw | hw
        · exact h2 w hw
        · rw [List.mem_singleton.mp hw]
          omega
      · rw [List.mem_singleton.mp hw]
        omega
theorem draws_ok {ns : List Int} (hl : ns.length ≤ 63) : ∃ ds : List Int, m__law_draws [di ns] = .ok (di ds) ∧ Ds ds := by
  have st : startD 6 [di ns] = [some (di ns), none, none, none, none, none] := rfl
  have s1 : (gAsg (gPure (eLst aNil)) (gtName 1)) [some (di ns), none, none, none, none, none] = .nx [some (di ns), some (di []), none, none, none, none] := rfl
  obtain ⟨ρ', f1, out, t2, t3, t4, t5, e1, h1, h2⟩ := forG_rngB (tg := gtName 2) (b := dB) ns.length (DI ns) (fun i ρ hi h => d_turn hi (by omega) h) ns.length 0 [some (di ns), some (di []), none, none, none, none] (by omega) ⟨[], none, none, none, none, rfl, by simp, fun z hz => by cases hz⟩
  have mn : gCB dMin2 (aCons (gC (.int 63)) (aCons (gCB dLen (aCons (gVar 0) aNil)) aNil)) [some (di ns), some (di []), none, none, none, none] = .ok (.int (ns.length : Int)) := by
    rw [cb2 rfl (lenI_e rfl)]
    show Rs.ok (DV.int (if (ns.length : Int) < 63 then (ns.length : Int) else 63)) = _
    congr 2
    omega
  have s2 : gFor (gRng1 (aCons (gCB dMin2 (aCons (gC (.int 63)) (aCons (gCB dLen (aCons (gVar 0) aNil)) aNil))) aNil)) (gtName 2) dB [some (di ns), some (di []), none, none, none, none] = .nx ρ' := ev_for (rng1_e mn rfl (by omega)) (by rw [rngD_eq]; exact f1)
  refine ⟨out, ?_, by omega, h2⟩
  unfold m__law_draws runB b__law_draws
  rw [st, ev_seq s1]
  show finB (gSeq (gFor _ _ dB) _ _) = _
  rw [ev_seq s2, e1]
  rfl
end M
end

/-! text N2 -/
section
set_option maxRecDepth 100000
set_option maxHeartbeats 4000000
namespace M
open PySem DL
abbrev Ed := Int × Int × Int
abbrev eD (e : Ed) : DV := .tup [.int e.1, .int e.2.1, .int e.2.2]
abbrev esD (es : List Ed) : DV := .lst (es.map eD)
/-- a good edge among so many vertices -/
def Ge (s : Int) (e : Ed) : Prop := 0 ≤ e.1 ∧ e.1 < s ∧ 0 ≤ e.2.1 ∧ e.2.1 < s ∧ e.1 ≠ e.2.1 ∧ 0 ≤ e.2.2 ∧ e.2.2 ≤ 1048576
theorem mod_two {x s : Int} (h0 : 0 ≤ x) (h1 : x < 2 * s) : x % s = x ∨ x % s = x - s := by
  by_cases c : x < s
  · exact .inl (Int.emod_eq_of_lt h0 c)
  · right
    rw [← Int.emod_eq_of_lt (a := x - s) (b := s) (by omega) (by omega), Int.sub_emod_right]
def nB : GS := (gSeq (gAsg (gPure (gCB m__law_mix (aCons (gVar 0) (aCons (gBin dAdd (gBin dAdd (gVar 1) (gC (.int 3))) (gBin dMul (gC (.int 3)) (gVar 7))) (aCons (gVar 5) aNil))))) (gtName 8)) (gSeq (gAsg (gPure (gBin dMod (gCB dInt (aCons (gBin dAdd (gBin dAdd (gVar 8) (gC (.int 1))) (gCB m__law_mix (aCons (gVar 0) (aCons (gBin dAdd (gBin dAdd (gVar 1) (gC (.int 4))) (gBin dMul (gC (.int 3)) (gVar 7))) (aCons (gBin dSub (gVar 5) (gC (.int 1))) aNil))))) aNil)) (gVar 5))) (gtName 9)) (gDrop (gApp 6 (gPure (eTup (aCons (gVar 8) (aCons (gVar 9) (aCons (gCB m__law_mix (aCons (gVar 0) (aCons (gBin dAdd (gBin dAdd (gVar 1) (gC (.int 5))) (gBin dMul (gC (.int 3)) (gVar 7))) (aCons (gVar 4) aNil)))) aNil)))))))))
section
variable {ds : List Int} {k sz mn tp s : Int} {es : List Ed} {i : Nat} {t7 t8 t9 : Option DV}
def NI (ds : List Int) (k sz mn tp s : Int) (i : Nat) (ρ : EnvD) : Prop := ∃ (es : List Ed) (t7 t8 t9 : Option DV), ρ = [some (di ds), some (.int k), some (.int sz), some (.int mn), some (.int tp), some (.int s), some (esD es), t7, t8, t9] ∧ es.length = i ∧ ∀ e ∈ es, Ge s e
theorem n_turn {ρ : EnvD} (hd : Ds ds) (hk : 0 ≤ k) (hs : 1 < s) (ht : 0 < tp) (ht2 : tp ≤ 1048577) (hi : i < 1000) (h : NI ds k sz mn tp s i ρ) : ∃ ρ1 ρ2, gtName 7 (.int ((0 : Int) + (i : Int))) ρ = .ok ρ1 ∧ nB ρ1 = .nx ρ2 ∧ NI ds k sz mn tp s (i + 1) ρ2 := by
  obtain ⟨es, t7, t8, t9, rfl, h1, h2⟩ := h
  refine ⟨[some (di ds), some (.int k), some (.int sz), some (.int mn), some (.int tp), some (.int s), some (esD es), some (.int ((0 : Int) + (i : Int))), t8, t9], ?_⟩
  obtain ⟨u, u0, u1, eu⟩ := mix_ok hd (k := k + 3 + 3 * ((0 : Int) + (i : Int))) (m := s) (by omega) (by omega)
  obtain ⟨m, m0, m1, em⟩ := mix_ok hd (k := k + 4 + 3 * ((0 : Int) + (i : Int))) (m := s - 1) (by omega) (by omega)
  obtain ⟨p, p0, p1, ep⟩ := mix_ok hd (k := k + 5 + 3 * ((0 : Int) + (i : Int))) (m := tp) (by omega) ht
  have ml : ∀ ρ, lk ρ 7 = .ok (.int ((0 : Int) + (i : Int))) → gBin dMul (gC (.int 3)) (gVar 7) ρ = .ok (.int (3 * ((0 : Int) + (i : Int)))) := fun ρ h => (bin_e rfl h).trans (dMul_i (mulT (by decide)))
  have s1 : (gAsg (gPure (gCB m__law_mix (aCons (gVar 0) (aCons (gBin dAdd (gBin dAdd (gVar 1) (gC (.int 3))) (gBin dMul (gC (.int 3)) (gVar 7))) (aCons (gVar 5) aNil))))) (gtName 8)) [some (di ds), some (.int k), some (.int sz), some (.int mn), some (.int tp), some (.int s), some (esD es), some (.int ((0 : Int) + (i : Int))), t8, t9] = .nx [some (di ds), some (.int k), some (.int sz), some (.int mn), some (.int tp), some (.int s), some (esD es), some (.int ((0 : Int) + (i : Int))), some (.int u), t9] := set_e (i := 8) ((cb3 rfl ((bin_e ((bin_e rfl rfl).trans dAdd_i) (ml _ rfl)).trans dAdd_i) rfl).trans eu)
  have s2 : (gAsg (gPure (gBin dMod (gCB dInt (aCons (gBin dAdd (gBin dAdd (gVar 8) (gC (.int 1))) (gCB m__law_mix (aCons (gVar 0) (aCons (gBin dAdd (gBin dAdd (gVar 1) (gC (.int 4))) (gBin dMul (gC (.int 3)) (gVar 7))) (aCons (gBin dSub (gVar 5) (gC (.int 1))) aNil))))) aNil)) (gVar 5))) (gtName 9)) [some (di ds), some (.int k), some (.int sz), some (.int mn), some (.int tp), some (.int s), some (esD es), some (.int ((0 : Int) + (i : Int))), some (.int u), t9] = .nx [some (di ds), some (.int k), some (.int sz), some (.int mn), some (.int tp), some (.int s), some (esD es), some (.int ((0 : Int) + (i : Int))), some (.int u), some (.int ((u + 1 + m) % s))] := set_e (i := 9) ((bin_e ((cb1 ((bin_e ((bin_e rfl rfl).trans dAdd_i) ((cb3 rfl ((bin_e ((bin_e rfl rfl).trans dAdd_i) (ml _ rfl)).trans dAdd_i) ((bin_e rfl rfl).trans dSub_i)).trans em)).trans dAdd_i)).trans dInt_i) rfl).trans (md (by omega)))
  have s3 : (gDrop (gApp 6 (gPure (eTup (aCons (gVar 8) (aCons (gVar 9) (aCons (gCB m__law_mix (aCons (gVar 0) (aCons (gBin dAdd (gBin dAdd (gVar 1) (gC (.int 5))) (gBin dMul (gC (.int 3)) (gVar 7))) (aCons (gVar 4) aNil)))) aNil))))))) [some (di ds), some (.int k), some (.int sz), some (.int mn), some (.int tp), some (.int s), some (esD es), some (.int ((0 : Int) + (i : Int))), some (.int u), some (.int ((u + 1 + m) % s))] = .nx [some (di ds), some (.int k), some (.int sz), some (.int mn), some (.int tp), some (.int s), some (esD (es ++ [(u, (u + 1 + m) % s, p)])), some (.int ((0 : Int) + (i : Int))), some (.int u), some (.int ((u + 1 + m) % s))] := app_g (g := eD) (x := (u, (u + 1 + m) % s, p)) rfl (tup3 rfl rfl ((cb3 rfl ((bin_e ((bin_e rfl rfl).trans dAdd_i) (ml _ rfl)).trans dAdd_i) rfl).trans ep)) (by omega)
  have v0 : 0 ≤ (u + 1 + m) % s := Int.emod_nonneg _ (by omega)
  have v1 : (u + 1 + m) % s < s := Int.emod_lt_of_pos _ (by omega)
  have v2 := mod_two (x := u + 1 + m) (s := s) (by omega) (by omega)
  refine ⟨_, rfl, ?_, es ++ [(u, (u + 1 + m) % s, p)], some (.int ((0 : Int) + (i : Int))), some (.int u), some (.int ((u + 1 + m) % s)), rfl, by rw [List.length_append, h1]; rfl, fun e he => ?_⟩
  · unfold nB
    rw [ev_seq s1, ev_seq s2, s3]
  · rcases List.mem_append.mp he with he | he
    · exact h2 e he
    · rw [List.mem_singleton.mp he]
      exact ⟨u0, u1, v0, v1, by show u ≠ (u + 1 + m) % s; omega, p0, by show p ≤ 1048576; omega⟩
end
theorem network_ok {ds : List Int} {k sz mn tp : Int} (hd : Ds ds) (hk : 0 ≤ k) (hz : 0 < sz) (hm : 0 ≤ mn) (hm2 : mn ≤ 900) (ht : 0 < tp) (ht2 : tp ≤ 1048577) :
    ∃ (s : Int) (es : List Ed), m__law_network [di ds, .int k, .int sz, .int mn, .int tp] = .ok (.tup [.int s, esD es]) ∧ 1 ≤ s ∧ s ≤ sz ∧ (es.length : Int) ≤ mn ∧ ∀ e ∈ es, Ge s e := by
  obtain ⟨v, v0, v1, ev⟩ := mix_ok hd hk hz
  have st : startD 10 [di ds, .int k, .int sz, .int mn, .int tp] = [some (di ds), some (.int k), some (.int sz), some (.int mn), some (.int tp), none, none, none, none, none] := rfl
  have s1 : (gAsg (gPure (gBin dAdd (gC (.int 1)) (gCB m__law_mix (aCons (gVar 0) (aCons (gVar 1) (aCons (gVar 2) aNil)))))) (gtName 5)) [some (di ds), some (.int k), some (.int sz), some (.int mn), some (.int tp), none, none, none, none, none] = .nx [some (di ds), some (.int k), some (.int sz), some (.int mn), some (.int tp), some (.int (1 + v)), none, none, none, none] := set_e (i := 5) ((bin_e rfl ((cb3 rfl rfl rfl).trans ev)).trans dAdd_i)
  have s2 : (gAsg (gPure (eLst aNil)) (gtName 6)) [some (di ds), some (.int k), some (.int sz), some (.int mn), some (.int tp), some (.int (1 + v)), none, none, none, none] = .nx [some (di ds), some (.int k), some (.int sz), some (.int mn), some (.int tp), some (.int (1 + v)), some (esD []), none, none, none] := rfl
  have t : (gB (gBin dGt (gVar 5) (gC (.int 1)))) [some (di ds), some (.int k), some (.int sz), some (.int mn), some (.int tp), some (.int (1 + v)), some (esD []), none, none, none] = .ok (decide (1 < 1 + v)) := b_e ((bin_e rfl rfl).trans dGt_i)
  obtain ⟨es, t7, t8, t9, s3, h1, h2⟩ : ∃ (es : List Ed) (t7 t8 t9 : Option DV), gIfS (gB (gBin dGt (gVar 5) (gC (.int 1)))) (gFor (gRng1 (aCons (gCB m__law_mix (aCons (gVar 0) (aCons (gBin dAdd (gVar 1) (gC (.int 1))) (aCons (gBin dAdd (gVar 3) (gC (.int 1))) aNil)))) aNil)) (gtName 7) nB) gNext [some (di ds), some (.int k), some (.int sz), some (.int mn), some (.int tp), some (.int (1 + v)), some (esD []), none, none, none] = .nx [some (di ds), some (.int k), some (.int sz), some (.int mn), some (.int tp), some (.int (1 + v)), some (esD es), t7, t8, t9] ∧ (es.length : Int) ≤ mn ∧ ∀ e ∈ es, Ge (1 + v) e := by
    by_cases c : 1 < 1 + v
    · obtain ⟨c0, c1, c2, ec⟩ := mix_ok hd (k := k + 1) (m := mn + 1) (by omega) (by omega)
      obtain ⟨ρ', f1, es, t7, t8, t9, e1, h1, h2⟩ := forG_rngB (tg := gtName 7) (b := nB) 1000 (NI ds k sz mn tp (1 + v)) (fun i ρ hi h => n_turn hd hk c ht ht2 hi h) c0.toNat 0 [some (di ds), some (.int k), some (.int sz), some (.int mn), some (.int tp), some (.int (1 + v)), some (esD []), none, none, none] (by omega) ⟨[], none, none, none, rfl, rfl, fun e he => by cases he⟩
      refine ⟨es, t7, t8, t9, ?_, by omega, h2⟩
      rw [ev_ifS t, if_pos (decide_eq_true c), ← e1]
      exact ev_for (rng1_e (i := c0) (n := c0.toNat) ((cb3 rfl ((bin_e rfl rfl).trans dAdd_i) ((bin_e rfl rfl).trans dAdd_i)).trans ec) (by omega) (by omega)) (by rw [rngD_eq]; exact f1)
    · refine ⟨[], none, none, none, ?_, by simpa using hm, fun e he => by cases he⟩
      rw [ev_ifS t, if_neg (by rw [decide_eq_false c]; decide)]
      rfl
  refine ⟨1 + v, es, ?_, by omega, by omega, h1, h2⟩
  unfold m__law_network runB b__law_network
  rw [st, ev_seq s1, ev_seq s2]
  show finB (gSeq (gIfS _ (gFor _ _ nB) gNext) _ _) = _
  rw [ev_seq s3]
  rfl
end M
end

/-! text P1 -/
section
set_option maxRecDepth 100000
set_option maxHeartbeats 4000000
/-! plain facts of paths: order of labels, walks, rounds of relaxing -/
namespace M
open PySem DL
def lexI : List Int → List Int → Bool
  | [], _ => false
  | _ :: _, [] => false
  | x :: xs, y :: ys => decide (x < y) || (!decide (y < x) && lexI xs ys)
theorem lexI_irr : ∀ xs : List Int, lexI xs xs = false
  | [] => rfl
  | x :: xs => by
    unfold lexI
    rw [lexI_irr xs, decide_eq_false (by omega : ¬ x < x)]
    rfl
theorem lexI_trans : ∀ {a b c : List Int}, a.length = b.length → b.length = c.length → lexI a b = true → lexI b c = true → lexI a c = true
  | [], b, c, h1, h2, h, _ => by cases h
  | x :: a, [], c, h1, h2, h, _ => by cases h
  | x :: a, y :: b, [], h1, h2, h, k => by cases k
  | x :: a, y :: b, z :: c, h1, h2, h, k => by
    have ih := lexI_trans (a := a) (b := b) (c := c) (by simpa using h1) (by simpa using h2)
    simp only [lexI, Bool.or_eq_true, Bool.and_eq_true, decide_eq_true_eq, Bool.not_eq_true', decide_eq_false_iff_not] at h k ⊢
    rcases h with h | ⟨h, h3⟩
    · rcases k with k | ⟨k, k3⟩
      · left; omega
      · left; omega
    · rcases k with k | ⟨k, k3⟩
      · left; omega
      · exact .inr ⟨by omega, ih h3 k3⟩
theorem lexI_tri : ∀ {a b : List Int}, a.length = b.length → lexI a b = false → lexI b a = false → a = b
  | [], [], _, _, _ => rfl
  | [], _ :: _, h, _, _ => by cases h
  | _ :: _, [], h, _, _ => by cases h
  | x :: a, y :: b, h, h1, h2 => by
    have ih := lexI_tri (a := a) (b := b) (by simpa using h)
    simp only [lexI, Bool.or_eq_false_iff, Bool.and_eq_false_iff, decide_eq_false_iff_not, Bool.not_eq_false', decide_eq_true_eq] at h1 h2
    obtain ⟨h3, h4⟩ := h1
    obtain ⟨h5, h6⟩ := h2
    have e : x = y := by omega
    subst e
    rw [ih (by rcases h4 with h4 | h4; · omega
               · exact h4) (by rcases h6 with h6 | h6; · omega
                               · exact h6)]
theorem lexI_app : ∀ {a b : List Int} {c d : List Int}, a.length = b.length → lexI a b = true → lexI (a ++ c) (b ++ d) = true
  | [], _, _, _, _, h => by cases h
  | x :: a, [], _, _, h, k => by cases h
  | x :: a, y :: b, c, d, h, k => by
    have ih := lexI_app (a := a) (b := b) (c := c) (d := d) (by simpa using h)
    simp only [List.cons_append, lexI, Bool.or_eq_true, Bool.and_eq_true, decide_eq_true_eq, Bool.not_eq_true', decide_eq_false_iff_not] at k ⊢
    rcases k with k | ⟨k, k2⟩
    · exact .inl k
    · exact .inr ⟨k, ih k2⟩
def isN (p : List Nat) : List Int := p.map fun i : Nat => (i : Int)
theorem isN_inj : ∀ {p q : List Nat}, isN p = isN q → p = q
  | [], [], _ => rfl
  | [], _ :: _, h => by cases h
  | _ :: _, [], h => by cases h
  | x :: p, y :: q, h => by
    have h2 : (x : Int) :: isN p = (y : Int) :: isN q := h
    injection h2 with h3 h4
    rw [isN_inj h4, show x = y by omega]
theorem isN_len {p : List Nat} : (isN p).length = p.length := List.length_map _
section
variable (pr : Nat → Int)
def psum (p : List Nat) : Int := (p.map pr).foldr (· + ·) 0
theorem psum_app (p q : List Nat) : psum pr (p ++ q) = psum pr p + psum pr q := by
  unfold psum
  induction p with
  | nil => simp
  | cons x p ih =>
    rw [List.cons_append, List.map_cons, List.map_cons, List.foldr_cons, List.foldr_cons, ih]
    omega
theorem psum_one (k : Nat) : psum pr [k] = pr k := by simp [psum]
theorem psum_nn (h : ∀ k, 0 ≤ pr k) (p : List Nat) : 0 ≤ psum pr p := by
  unfold psum
  induction p with
  | nil => simp
  | cons x p ih =>
    rw [List.map_cons, List.foldr_cons]
    have := h x
    omega
/-- label of one path less than that of another -/
def ltP (p q : List Nat) : Bool := decide (psum pr p < psum pr q) || (!decide (psum pr q < psum pr p) && (decide ((p.length : Int) < q.length) || (!decide ((q.length : Int) < p.length) && lexI (isN p) (isN q))))
def LT (p q : List Nat) : Prop := psum pr p < psum pr q ∨ (psum pr p = psum pr q ∧ (p.length < q.length ∨ (p.length = q.length ∧ lexI (isN p) (isN q) = true)))
theorem lt_iff {p q : List Nat} : ltP pr p q = true ↔ LT pr p q := by
  unfold ltP LT
  simp only [Bool.or_eq_true, Bool.and_eq_true, decide_eq_true_eq, Bool.not_eq_true', decide_eq_false_iff_not]
  constructor
  · rintro (h | ⟨h, k | ⟨k, l⟩⟩)
    · exact .inl h
    · by_cases c : psum pr p < psum pr q
      · exact .inl c
      · exact .inr ⟨by omega, .inl (by omega)⟩
    · by_cases c : psum pr p < psum pr q
      · exact .inl c
      · by_cases c2 : p.length < q.length
        · exact .inr ⟨by omega, .inl c2⟩
        · exact .inr ⟨by omega, .inr ⟨by omega, l⟩⟩
  · rintro (h | ⟨h, k | ⟨k, l⟩⟩)
    · exact .inl h
    · exact .inr ⟨by omega, .inl (by omega)⟩
    · exact .inr ⟨by omega, .inr ⟨by omega, l⟩⟩
theorem LT_irr (p : List Nat) : ¬ LT pr p p := by
  rintro (h | ⟨_, h | ⟨_, h⟩⟩)
  · omega
  · omega
  · rw [lexI_irr] at h; cases h
theorem LT_trans {p q r : List Nat} (h : LT pr p q) (k : LT pr q r) : LT pr p r := by
  rcases h with h | ⟨h1, h⟩
  · rcases k with k | ⟨k1, k⟩
    · exact .inl (by omega)
    · exact .inl (by omega)
  · rcases k with k | ⟨k1, k⟩
    · exact .inl (by omega)
    · refine .inr ⟨by omega, ?_⟩
      rcases h with h | ⟨h2, h⟩
      · rcases k with k | ⟨k2, k⟩
        · exact .inl (by omega)
        · exact .inl (by omega)
      · rcases k with k | ⟨k2, k⟩
        · exact .inl (by omega)
        · exact .inr ⟨by omega, lexI_trans (by rw [isN_len, isN_len, h2]) (by rw [isN_len, isN_len, k2]) h k⟩
theorem LT_tri (p q : List Nat) : LT pr p q ∨ p = q ∨ LT pr q p := by
  by_cases a : psum pr p < psum pr q
  · exact .inl (.inl a)
  · by_cases b : psum pr q < psum pr p
    · exact .inr (.inr (.inl b))
    · have e : psum pr p = psum pr q := by omega
      by_cases c : p.length < q.length
      · exact .inl (.inr ⟨e, .inl c⟩)
      · by_cases d : q.length < p.length
        · exact .inr (.inr (.inr ⟨e.symm, .inl d⟩))
        · have l : p.length = q.length := by omega
          cases h : lexI (isN p) (isN q) with
          | true => exact .inl (.inr ⟨e, .inr ⟨l, h⟩⟩)
          | false =>
            cases h2 : lexI (isN q) (isN p) with
            | true => exact .inr (.inr (.inr ⟨e.symm, .inr ⟨l.symm, h2⟩⟩))
            | false => exact .inr (.inl (isN_inj (lexI_tri (by rw [isN_len, isN_len, l]) h h2)))
def LE (p q : List Nat) : Prop := LT pr p q ∨ p = q
theorem LE_refl (p : List Nat) : LE pr p p := .inr rfl
theorem LE_trans {p q r : List Nat} (h : LE pr p q) (k : LE pr q r) : LE pr p r := by
  rcases h with h | rfl
  · rcases k with k | rfl
    · exact .inl (LT_trans pr h k)
    · exact .inl h
  · exact k
theorem LE_not {p q : List Nat} (h : ltP pr p q = false) : LE pr q p := by
  rcases LT_tri pr p q with a | a | a
  · rw [(lt_iff pr).mpr a] at h; cases h
  · exact .inr a.symm
  · exact .inl a
theorem not_lt {p q : List Nat} (h : LE pr q p) : ltP pr p q = false := by
  cases c : ltP pr p q with
  | false => rfl
  | true =>
    have c := (lt_iff pr).mp c
    rcases h with h | rfl
    · exact (LT_irr pr p (LT_trans pr c h)).elim
    · exact (LT_irr pr q c).elim
theorem LE_anti {p q : List Nat} (h : LE pr p q) (k : LE pr q p) : p = q := by
  rcases h with h | h
  · rcases k with k | k
    · exact (LT_irr pr p (LT_trans pr h k)).elim
    · exact k.symm
  · exact h
theorem LE_app {p q : List Nat} (k : Nat) (h : LE pr p q) : LE pr (p ++ [k]) (q ++ [k]) := by
  rcases h with h | rfl
  · left
    unfold LT at h ⊢
    rw [psum_app, psum_app, List.length_append, List.length_append]
    rcases h with h | ⟨h1, h | ⟨h2, h⟩⟩
    · exact .inl (by omega)
    · exact .inr ⟨by omega, .inl (by omega)⟩
    · refine .inr ⟨by omega, .inr ⟨by omega, ?_⟩⟩
      unfold isN
      rw [List.map_append, List.map_append]
      exact lexI_app (by rw [List.length_map, List.length_map, h2]) h
  · exact .inr rfl
theorem LE_psum {p q : List Nat} (h : LE pr p q) : psum pr p ≤ psum pr q := by
  rcases h with h | rfl
  · rcases h with h | ⟨h, _⟩ <;> omega
  · exact Int.le_refl _
theorem LT_cut (hp : ∀ k, 0 ≤ pr k) {a b c : List Nat} (hb : b ≠ []) : LT pr (a ++ c) (a ++ b ++ c) := by
  have n := psum_nn pr hp b
  have l := List.length_pos_iff.mpr hb
  unfold LT
  rw [psum_app, psum_app, psum_app, List.length_append, List.length_append, List.length_append]
  by_cases e : psum pr b = 0
  · exact .inr ⟨by omega, .inl (by omega)⟩
  · exact .inl (by omega)
end
/-! walks -/
abbrev Stp := Nat → List (Nat × Nat)
section
variable (st : Stp)
def Wf : Nat → List Nat → Nat → Prop
  | u, [], v => u = v
  | u, k :: p, v => ∃ w, (k, w) ∈ st u ∧ Wf w p v
theorem Wf_app : ∀ {u : Nat} {a b : List Nat} {v : Nat}, Wf st u (a ++ b) v ↔ ∃ w, Wf st u a w ∧ Wf st w b v
  | u, [], b, v => ⟨fun h => ⟨u, rfl, h⟩, fun ⟨w, h, k⟩ => by cases h; exact k⟩
  | u, k :: a, b, v => by
    constructor
    · rintro ⟨w, h, k⟩
      obtain ⟨x, h1, h2⟩ := Wf_app.mp k
      exact ⟨x, ⟨w, h, h1⟩, h2⟩
    · rintro ⟨x, ⟨w, h, h1⟩, h2⟩
      exact ⟨w, h, Wf_app.mpr ⟨x, h1, h2⟩⟩
theorem Wf_snoc {u : Nat} {p : List Nat} {k v : Nat} : Wf st u (p ++ [k]) v ↔ ∃ w, Wf st u p w ∧ (k, v) ∈ st w := by
  rw [Wf_app]
  constructor
  · rintro ⟨w, h, x, h1, h2⟩
    cases h2
    exact ⟨w, h, h1⟩
  · rintro ⟨w, h, h1⟩
    exact ⟨w, h, v, h1, rfl⟩
theorem pigeon : ∀ (n m : Nat) (f : Nat → Nat), (∀ i, i < m → f i < n) → n < m → ∃ i j, i < j ∧ j < m ∧ f i = f j
  | 0, m, f, h, hm => absurd (h 0 hm) (Nat.not_lt_zero _)
  | n + 1, 0, f, h, hm => absurd hm (Nat.not_lt_zero _)
  | n + 1, m + 1, f, h, hm => by
    by_cases c : ∃ i, i < m ∧ f i = f m
    · obtain ⟨i, h1, h2⟩ := c
      exact ⟨i, m, h1, Nat.lt_succ_self m, h2⟩
    · have c2 : ∀ i, i < m → f i ≠ f m := fun i hi e => c ⟨i, hi, e⟩
      have hl := h m (Nat.lt_succ_self m)
      obtain ⟨i, j, h1, h2, h3⟩ := pigeon n m (fun i => if f m < f i then f i - 1 else f i) (fun i hi => by
        have := h i (by omega)
        have := c2 i hi
        split <;> omega) (by omega)
      refine ⟨i, j, h1, by omega, ?_⟩
      have a := c2 i (by omega)
      have b := c2 j (by omega)
      split at h3 <;> split at h3 <;> omega
variable {pr : Nat → Int} {n s : Nat}
theorem Wf_lt (hn : ∀ u kv, u < n → kv ∈ st u → kv.2 < n) : ∀ {u : Nat} {p : List Nat} {v : Nat}, u < n → Wf st u p v → v < n
  | u, [], v, hu, h => by cases h; exact hu
  | u, k :: p, v, hu, ⟨w, h, h2⟩ => Wf_lt hn (hn u _ hu h) h2
theorem simple (hp : ∀ k, 0 ≤ pr k) (hn : ∀ u kv, u < n → kv ∈ st u → kv.2 < n) (hs : s < n) : ∀ (m : Nat) {p : List Nat} {v : Nat}, p.length = m → Wf st s p v → ∃ q, Wf st s q v ∧ LE pr q p ∧ q.length < n := by
  intro m
  induction m using Nat.strongRecOn with
  | ind m ih =>
    intro p v hm h
    by_cases c : m < n
    · exact ⟨p, h, LE_refl pr p, by omega⟩
    · have ex : ∀ i, ∃ w, Wf st s (p.take i) w ∧ Wf st w (p.drop i) v := fun i => (Wf_app st).mp (by rw [List.take_append_drop]; exact h)
      obtain ⟨i, j, h1, h2, h3⟩ := pigeon n (m + 1) (fun i => (ex i).choose) (fun i _ => Wf_lt st hn hs (ex i).choose_spec.1) (by omega)
      have a := (ex i).choose_spec.1
      have b := (ex j).choose_spec.2
      rw [h3] at a
      have w : Wf st s (p.take i ++ p.drop j) v := (Wf_app st).mpr ⟨_, a, b⟩
      have ep : p.take i ++ (p.drop i).take (j - i) ++ p.drop j = p := by
        have e1 : p.drop j = (p.drop i).drop (j - i) := by rw [List.drop_drop]; congr 1; omega
        rw [e1, List.append_assoc, List.take_append_drop, List.take_append_drop]
      have lt : LT pr (p.take i ++ p.drop j) p := by
        have := LT_cut pr hp (a := p.take i) (b := (p.drop i).take (j - i)) (c := p.drop j) (by
          intro z
          have z2 := congrArg List.length z
          rw [List.length_take, List.length_drop] at z2
          have : min (j - i) (p.length - i) = 0 := z2
          omega)
        rw [ep] at this
        exact this
      have ln : (p.take i ++ p.drop j).length = m - (j - i) := by
        rw [List.length_append, List.length_take, List.length_drop]
        omega
      obtain ⟨q, q1, q2, q3⟩ := ih (m - (j - i)) (by omega) ln w
      exact ⟨q, q1, LE_trans pr q2 (.inl lt), q3⟩
end
end M
end

/-! text P2 -/
section
set_option maxRecDepth 100000
set_option maxHeartbeats 4000000
/-! rounds of relaxing labels -/
namespace M
open PySem DL
abbrev Lbs := List (Option (List Nat))
section
variable (pr : Nat → Int) (st : Stp)
def lv (L : Lbs) (v : Nat) : Option (List Nat) := L.getD v none
def rlx (z : Lbs × Bool) (p : List Nat) (v : Nat) : Lbs × Bool := match lv z.1 v with
  | none => (z.1.set v (some p), true)
  | some q => if ltP pr p q = true then (z.1.set v (some p), true) else z
def rfold (p : List Nat) : List (Nat × Nat) → Lbs × Bool → Lbs × Bool
  | [], z => z
  | kv :: r, z => rfold p r (rlx pr z (p ++ [kv.1]) kv.2)
def rvert (z : Lbs × Bool) (u : Nat) : Lbs × Bool := match lv z.1 u with
  | none => z
  | some p => rfold pr p (st u) z
def rsweep : List Nat → Lbs × Bool → Lbs × Bool
  | [], z => z
  | u :: us, z => rsweep us (rvert pr st z u)
def sweep (n : Nat) (L : Lbs) : Lbs × Bool := rsweep pr st (List.range n) (L, false)
variable {pr st} {n s : Nat} {L L' L'' : Lbs} {z : Lbs × Bool} {p q : List Nat} {u v k : Nat}
theorem lv_set (h : v < L.length) : lv (L.set v (some p)) u = if u = v then some p else lv L u := by
  unfold lv
  rw [List.getD_eq_getElem?_getD, List.getD_eq_getElem?_getD, List.getElem?_set]
  by_cases e : v = u
  · subst e
    rw [if_pos rfl, if_pos rfl, if_pos h]
    rfl
  · rw [if_neg e, if_neg (fun x => e x.symm)]
def Dec (pr : Nat → Int) (L L' : Lbs) : Prop := ∀ v p, lv L v = some p → ∃ q, lv L' v = some q ∧ LE pr q p
theorem Dec.refl (L : Lbs) : Dec pr L L := fun v p h => ⟨p, h, LE_refl pr p⟩
theorem Dec.trans (a : Dec pr L L') (b : Dec pr L' L'') : Dec pr L L'' := fun v p h => by
  obtain ⟨q, h1, h2⟩ := a v p h
  obtain ⟨r, h3, h4⟩ := b v q h1
  exact ⟨r, h3, LE_trans pr h4 h2⟩
theorem rlx_len : (rlx pr z p v).1.length = z.1.length := by
  unfold rlx
  split
  · exact List.length_set
  · split
    · exact List.length_set
    · rfl
theorem rlx_dec (h : v < z.1.length) : Dec pr z.1 (rlx pr z p v).1 := by
  intro w r hw
  unfold rlx
  split
  · rename_i e
    refine ⟨r, ?_, LE_refl pr r⟩
    show lv (z.1.set v (some p)) w = _
    rw [lv_set h]
    by_cases c : w = v
    · subst c; rw [e] at hw; cases hw
    · rw [if_neg c, hw]
  · rename_i q e
    split
    · rename_i t
      show ∃ q, lv (z.1.set v (some p)) w = _ ∧ _
      rw [lv_set h]
      by_cases c : w = v
      · subst c
        rw [e] at hw
        cases hw
        rw [if_pos rfl]
        exact ⟨p, rfl, .inl ((lt_iff pr).mp t)⟩
      · rw [if_neg c, hw]
        exact ⟨r, rfl, LE_refl pr r⟩
    · exact ⟨r, hw, LE_refl pr r⟩
theorem rlx_at (h : v < z.1.length) : ∃ q, lv (rlx pr z p v).1 v = some q ∧ LE pr q p := by
  unfold rlx
  split
  · exact ⟨p, by show lv (z.1.set v (some p)) v = _; rw [lv_set h, if_pos rfl], LE_refl pr p⟩
  · rename_i q e
    split
    · exact ⟨p, by show lv (z.1.set v (some p)) v = _; rw [lv_set h, if_pos rfl], LE_refl pr p⟩
    · rename_i t
      exact ⟨q, e, LE_not pr (by simpa using t)⟩
theorem rlx_same (h : (rlx pr z p v).2 = false) : rlx pr z p v = z := by
  unfold rlx at h ⊢
  split at h
  · cases h
  · split at h
    · cases h
    · rename_i t e
      rw [if_neg e]
/-- what holds of each label -/
def All (P : Nat → List Nat → Prop) (L : Lbs) : Prop := ∀ v p, lv L v = some p → P v p
theorem rlx_all {P : Nat → List Nat → Prop} (h : v < z.1.length) (a : All P z.1) (b : P v p) : All P (rlx pr z p v).1 := by
  have k : All P (z.1.set v (some p)) := fun w r hw => by
    rw [lv_set h] at hw
    by_cases c : w = v
    · subst c; rw [if_pos rfl] at hw; cases hw; exact b
    · rw [if_neg c] at hw; exact a w r hw
  unfold rlx
  split
  · exact k
  · split
    · exact k
    · exact a
/-! the steps of one vertex -/
theorem rfold_len : ∀ {r : List (Nat × Nat)} {z : Lbs × Bool}, (rfold pr p r z).1.length = z.1.length
  | [], z => rfl
  | kv :: r, z => by
    unfold rfold
    rw [rfold_len (r := r), rlx_len]
theorem rfold_dec : ∀ {r : List (Nat × Nat)} {z : Lbs × Bool}, (∀ kv ∈ r, kv.2 < z.1.length) → Dec pr z.1 (rfold pr p r z).1
  | [], z, _ => Dec.refl _
  | kv :: r, z, h => by
    unfold rfold
    exact (rlx_dec (h kv List.mem_cons_self)).trans (rfold_dec (r := r) fun x hx => by rw [rlx_len]; exact h x (List.mem_cons_of_mem _ hx))
theorem rfold_at : ∀ {r : List (Nat × Nat)} {z : Lbs × Bool}, (∀ kv ∈ r, kv.2 < z.1.length) → ∀ kv ∈ r, ∃ q, lv (rfold pr p r z).1 kv.2 = some q ∧ LE pr q (p ++ [kv.1])
  | [], z, _, kv, hk => by cases hk
  | x :: r, z, h, kv, hk => by
    unfold rfold
    have h2 : ∀ y ∈ r, y.2 < (rlx pr z (p ++ [x.1]) x.2).1.length := fun y hy => by rw [rlx_len]; exact h y (List.mem_cons_of_mem _ hy)
    rcases List.mem_cons.mp hk with e | e
    · subst e
      obtain ⟨q, h3, h4⟩ := rlx_at (pr := pr) (z := z) (p := p ++ [kv.1]) (h kv List.mem_cons_self)
      obtain ⟨q2, h5, h6⟩ := rfold_dec (pr := pr) (p := p) h2 kv.2 q h3
      exact ⟨q2, h5, LE_trans pr h6 h4⟩
    · exact rfold_at (r := r) h2 kv e
theorem rfold_all {P : Nat → List Nat → Prop} : ∀ {r : List (Nat × Nat)} {z : Lbs × Bool}, (∀ kv ∈ r, kv.2 < z.1.length) → All P z.1 → (∀ kv ∈ r, P kv.2 (p ++ [kv.1])) → All P (rfold pr p r z).1
  | [], z, _, a, _ => a
  | kv :: r, z, h, a, b => by
    unfold rfold
    exact rfold_all (r := r) (fun x hx => by rw [rlx_len]; exact h x (List.mem_cons_of_mem _ hx)) (rlx_all (h kv List.mem_cons_self) a (b kv List.mem_cons_self)) fun x hx => b x (List.mem_cons_of_mem _ hx)
theorem rlx_up (h : z.2 = true) : (rlx pr z p v).2 = true := by
  unfold rlx
  split
  · rfl
  · split
    · rfl
    · exact h
theorem rfold_up : ∀ {r : List (Nat × Nat)} {z : Lbs × Bool}, z.2 = true → (rfold pr p r z).2 = true
  | [], z, h => h
  | kv :: r, z, h => by
    unfold rfold
    exact rfold_up (r := r) (rlx_up h)
theorem rfold_same : ∀ {r : List (Nat × Nat)} {z : Lbs × Bool}, (rfold pr p r z).2 = false → rfold pr p r z = z
  | [], z, _ => rfl
  | kv :: r, z, h => by
    unfold rfold at h ⊢
    have e := rfold_same (r := r) h
    have h2 : (rlx pr z (p ++ [kv.1]) kv.2).2 = false := by
      cases c : (rlx pr z (p ++ [kv.1]) kv.2).2 with
      | false => rfl
      | true => rw [rfold_up c] at h; cases h
    rw [e, rlx_same h2]
/-- nothing moves where all is least -/
theorem rlx_still (h : lv z.1 v = some q) (k : LE pr q p) : rlx pr z p v = z := by
  unfold rlx
  rw [h]
  dsimp only
  rw [not_lt pr k]
  rfl
theorem rfold_still : ∀ {r : List (Nat × Nat)} {z : Lbs × Bool}, (∀ kv ∈ r, ∃ q, lv z.1 kv.2 = some q ∧ LE pr q (p ++ [kv.1])) → rfold pr p r z = z
  | [], z, _ => rfl
  | kv :: r, z, h => by
    obtain ⟨q, h1, h2⟩ := h kv List.mem_cons_self
    unfold rfold
    rw [rlx_still h1 h2]
    exact rfold_still (r := r) fun x hx => h x (List.mem_cons_of_mem _ hx)
/-! one vertex, all vertices -/
def Ok (st : Stp) (n : Nat) : Prop := ∀ u kv, u < n → kv ∈ st u → kv.2 < n
theorem rvert_len : (rvert pr st z u).1.length = z.1.length := by
  unfold rvert
  split
  · rfl
  · exact rfold_len
theorem rvert_dec (ok : Ok st n) (hl : z.1.length = n) (hu : u < n) : Dec pr z.1 (rvert pr st z u).1 := by
  unfold rvert
  split
  · exact Dec.refl _
  · exact rfold_dec fun kv hk => by rw [hl]; exact ok u kv hu hk
theorem rvert_at (ok : Ok st n) (hl : z.1.length = n) (hu : u < n) (h : lv z.1 u = some p) : ∀ kv ∈ st u, ∃ q, lv (rvert pr st z u).1 kv.2 = some q ∧ LE pr q (p ++ [kv.1]) := by
  unfold rvert
  rw [h]
  exact rfold_at fun kv hk => by rw [hl]; exact ok u kv hu hk
theorem rvert_all {P : Nat → List Nat → Prop} (ok : Ok st n) (hl : z.1.length = n) (hu : u < n) (a : All P z.1) (b : ∀ p, lv z.1 u = some p → ∀ kv ∈ st u, P kv.2 (p ++ [kv.1])) : All P (rvert pr st z u).1 := by
  unfold rvert
  split
  · exact a
  · rename_i p e
    exact rfold_all (fun kv hk => by rw [hl]; exact ok u kv hu hk) a (b p e)
theorem rvert_same (h : (rvert pr st z u).2 = false) : rvert pr st z u = z := by
  unfold rvert at h ⊢
  split at h
  · rfl
  · exact rfold_same h
theorem rvert_up (h : z.2 = true) : (rvert pr st z u).2 = true := by
  unfold rvert
  split
  · exact h
  · exact rfold_up h
theorem rsweep_len : ∀ {us : List Nat} {z : Lbs × Bool}, (rsweep pr st us z).1.length = z.1.length
  | [], z => rfl
  | u :: us, z => by
    unfold rsweep
    rw [rsweep_len (us := us), rvert_len]
theorem rsweep_dec (ok : Ok st n) : ∀ {us : List Nat} {z : Lbs × Bool}, z.1.length = n → (∀ u ∈ us, u < n) → Dec pr z.1 (rsweep pr st us z).1
  | [], z, _, _ => Dec.refl _
  | u :: us, z, hl, hu => by
    unfold rsweep
    exact (rvert_dec ok hl (hu u List.mem_cons_self)).trans (rsweep_dec ok (us := us) (by rw [rvert_len, hl]) fun x hx => hu x (List.mem_cons_of_mem _ hx))
theorem rsweep_at (ok : Ok st n) : ∀ {us : List Nat} {z : Lbs × Bool}, z.1.length = n → (∀ u ∈ us, u < n) → ∀ u ∈ us, ∀ p, lv z.1 u = some p → ∀ kv ∈ st u, ∃ q, lv (rsweep pr st us z).1 kv.2 = some q ∧ LE pr q (p ++ [kv.1])
  | [], z, _, _, u, hu, _, _, _, _ => by cases hu
  | x :: us, z, hl, hu, u, hm, p, hp, kv, hk => by
    unfold rsweep
    have hl2 : (rvert pr st z x).1.length = n := by rw [rvert_len, hl]
    have hu2 : ∀ y ∈ us, y < n := fun y hy => hu y (List.mem_cons_of_mem _ hy)
    have hx := hu x List.mem_cons_self
    rcases List.mem_cons.mp hm with e | e
    · subst e
      obtain ⟨q, h1, h2⟩ := rvert_at (pr := pr) ok hl hx hp kv hk
      obtain ⟨q2, h3, h4⟩ := rsweep_dec (pr := pr) ok hl2 hu2 kv.2 q h1
      exact ⟨q2, h3, LE_trans pr h4 h2⟩
    · obtain ⟨p2, h1, h2⟩ := rvert_dec (pr := pr) ok hl hx u p hp
      obtain ⟨q, h3, h4⟩ := rsweep_at ok (us := us) hl2 hu2 u e p2 h1 kv hk
      exact ⟨q, h3, LE_trans pr h4 (LE_app pr kv.1 h2)⟩
theorem rsweep_all {P : Nat → List Nat → Prop} (ok : Ok st n) (b : ∀ u p, P u p → u < n → ∀ kv ∈ st u, P kv.2 (p ++ [kv.1])) : ∀ {us : List Nat} {z : Lbs × Bool}, z.1.length = n → (∀ u ∈ us, u < n) → All P z.1 → All P (rsweep pr st us z).1
  | [], z, _, _, a => a
  | u :: us, z, hl, hu, a => by
    unfold rsweep
    exact rsweep_all ok b (us := us) (by rw [rvert_len, hl]) (fun x hx => hu x (List.mem_cons_of_mem _ hx)) (rvert_all ok hl (hu u List.mem_cons_self) a fun p hp kv hk => b u p (a u p hp) (hu u List.mem_cons_self) kv hk)
theorem rsweep_up : ∀ {us : List Nat} {z : Lbs × Bool}, z.2 = true → (rsweep pr st us z).2 = true
  | [], z, h => h
  | u :: us, z, h => by
    unfold rsweep
    exact rsweep_up (us := us) (rvert_up h)
theorem rsweep_same : ∀ {us : List Nat} {z : Lbs × Bool}, (rsweep pr st us z).2 = false → rsweep pr st us z = z
  | [], z, _ => rfl
  | u :: us, z, h => by
    unfold rsweep at h ⊢
    have e := rsweep_same (us := us) h
    have h2 : (rvert pr st z u).2 = false := by
      cases c : (rvert pr st z u).2 with
      | false => rfl
      | true => rw [rsweep_up c] at h; cases h
    rw [e, rvert_same h2]
theorem rsweep_still (h : ∀ u p, lv L u = some p → ∀ kv ∈ st u, ∃ q, lv L kv.2 = some q ∧ LE pr q (p ++ [kv.1])) {b : Bool} : ∀ {us : List Nat}, rsweep pr st us (L, b) = (L, b)
  | [] => rfl
  | u :: us => by
    have e : rvert pr st (L, b) u = (L, b) := by
      unfold rvert
      split
      · rfl
      · rename_i p e
        exact rfold_still (h u p e)
    unfold rsweep
    rw [e]
    exact rsweep_still h (us := us)
/-! rounds -/
def start0 (n s : Nat) : Lbs := (List.replicate n none).set s (some [])
def rnd (pr : Nat → Int) (st : Stp) (n s : Nat) : Nat → Lbs
  | 0 => start0 n s
  | r + 1 => (sweep pr st n (rnd pr st n s r)).1
theorem rnd_len : ∀ {r : Nat}, (rnd pr st n s r).length = n
  | 0 => by
    show (start0 n s).length = n
    unfold start0
    rw [List.length_set, List.length_replicate]
  | r + 1 => by
    show (sweep pr st n (rnd pr st n s r)).1.length = n
    unfold sweep
    rw [rsweep_len]
    exact rnd_len (r := r)
theorem start_lv (hs : s < n) : lv (start0 n s) v = if v = s then some [] else none := by
  unfold start0
  rw [lv_set (by rw [List.length_replicate]; exact hs)]
  by_cases c : v = s
  · rw [if_pos c, if_pos c]
  · rw [if_neg c, if_neg c]
    unfold lv
    rw [List.getD_eq_getElem?_getD, List.getElem?_replicate]
    split <;> rfl
theorem rnd_walk (ok : Ok st n) (hs : s < n) : ∀ {r : Nat}, All (fun v p => Wf st s p v) (rnd pr st n s r)
  | 0 => fun v p h => by
    have h : lv (start0 n s) v = some p := h
    rw [start_lv hs] at h
    by_cases c : v = s
    · rw [if_pos c] at h
      cases h
      exact c.symm
    · rw [if_neg c] at h
      cases h
  | r + 1 => rsweep_all (P := fun v p => Wf st s p v) (z := (rnd pr st n s r, false)) ok (fun u p h _ kv hk => (Wf_snoc st).mpr ⟨u, h, hk⟩) rnd_len (fun u hu => List.mem_range.mp hu) (rnd_walk ok hs (r := r))
theorem rnd_up (ok : Ok st n) (hs : s < n) : ∀ {r : Nat} {p : List Nat} {v : Nat}, Wf st s p v → p.length ≤ r → ∃ q, lv (rnd pr st n s r) v = some q ∧ LE pr q p
  | 0, p, v, h, hl => by
    have e : p = [] := List.length_eq_zero_iff.mp (by omega)
    subst e
    cases h
    exact ⟨[], by show lv (start0 n s) s = _; rw [start_lv hs, if_pos rfl], LE_refl pr _⟩
  | r + 1, p, v, h, hl => by
    by_cases c : p = []
    · subst c
      obtain ⟨q, h1, h2⟩ := rnd_up ok hs (r := r) h (by simp)
      obtain ⟨q2, h3, h4⟩ := rsweep_dec (pr := pr) (z := (rnd pr st n s r, false)) ok (us := List.range n) rnd_len (fun u hu => List.mem_range.mp hu) v q h1
      exact ⟨q2, h3, LE_trans pr h4 h2⟩
    · have e := List.dropLast_concat_getLast c
      rw [← e] at h
      obtain ⟨w, h1, h2⟩ := (Wf_snoc st).mp h
      have l : p.dropLast.length ≤ r := by rw [List.length_dropLast]; omega
      obtain ⟨q, h3, h4⟩ := rnd_up ok hs (r := r) h1 l
      have hw := Wf_lt st ok hs h1
      obtain ⟨q2, h5, h6⟩ := rsweep_at (pr := pr) (z := (rnd pr st n s r, false)) ok (us := List.range n) rnd_len (fun u hu => List.mem_range.mp hu) w (List.mem_range.mpr hw) q h3 _ h2
      refine ⟨q2, h5, LE_trans pr h6 ?_⟩
      have := LE_app pr (p.getLast c) h4
      rw [e] at this
      exact this
/-- each label the least of all walks -/
def Opt (pr : Nat → Int) (st : Stp) (s : Nat) (L : Lbs) : Prop := (∀ v p, lv L v = some p → Wf st s p v) ∧ ∀ v p, Wf st s p v → ∃ q, lv L v = some q ∧ LE pr q p
theorem rnd_opt (ok : Ok st n) (hs : s < n) (hp : ∀ k, 0 ≤ pr k) {r : Nat} (hr : n ≤ r + 1) : Opt pr st s (rnd pr st n s r) := by
  refine ⟨rnd_walk ok hs, fun v p h => ?_⟩
  obtain ⟨q, h1, h2, h3⟩ := simple st hp ok hs p.length rfl h
  obtain ⟨q2, h4, h5⟩ := rnd_up (pr := pr) ok hs (r := r) h1 (by omega)
  exact ⟨q2, h4, LE_trans pr h5 h2⟩
theorem opt_still (o : Opt pr st s L) : sweep pr st n L = (L, false) := rsweep_still fun u p h kv hk => o.2 kv.2 (p ++ [kv.1]) ((Wf_snoc st).mpr ⟨u, o.1 u p h, hk⟩)
theorem opt_short (ok : Ok st n) (hs : s < n) (hp : ∀ k, 0 ≤ pr k) (o : Opt pr st s L) (h : lv L v = some p) : p.length < n := by
  obtain ⟨q, h1, h2, h3⟩ := simple st hp ok hs p.length rfl (o.1 v p h)
  obtain ⟨q2, h4, h5⟩ := o.2 v q h1
  rw [h] at h4
  cases h4
  rw [LE_anti pr h5 h2]
  exact h3
/-- lengths of labels in all states of a round -/
theorem rnd_const {r : Nat} (h : (sweep pr st n (rnd pr st n s r)).2 = false) : ∀ d, rnd pr st n s (r + d) = rnd pr st n s r
  | 0 => rfl
  | d + 1 => by
    have e := rnd_const h d
    have f := rsweep_same h
    show (sweep pr st n (rnd pr st n s (r + d))).1 = _
    rw [e]
    show (rsweep pr st (List.range n) (rnd pr st n s r, false)).1 = _
    rw [f]
theorem stop_opt (ok : Ok st n) (hs : s < n) (hp : ∀ k, 0 ≤ pr k) {r : Nat} (h : (sweep pr st n (rnd pr st n s r)).2 = false) : Opt pr st s (rnd pr st n s r) := by
  rw [← rnd_const h n]
  exact rnd_opt ok hs hp (by omega)
end
end M
end

/-! text P3 -/
section
set_option maxRecDepth 100000
set_option maxHeartbeats 4000000
namespace M
open PySem DL
theorem chain_lt {a b c : GE} {ρ : EnvD} {x y z : Int} (h1 : a ρ = .ok (.int x)) (h2 : b ρ = .ok (.int y)) (h3 : c ρ = .ok (.int z)) : gChain dLe dLt a b c ρ = .ok (.bl (decide (x ≤ y) && decide (y < z))) := by
  unfold gChain
  rw [h1]
  dsimp only [Rs.bind]
  rw [h2]
  dsimp only [Rs.bind]
  rw [dLe_i]
  dsimp only [Rs.bind]
  rw [ev_asB]
  cases decide (x ≤ y) with
  | false => rfl
  | true =>
    dsimp only
    rw [if_pos rfl, h3]
    rfl
theorem chain_le {a b c : GE} {ρ : EnvD} {x y z : Int} (h1 : a ρ = .ok (.int x)) (h2 : b ρ = .ok (.int y)) (h3 : c ρ = .ok (.int z)) : gChain dLe dLe a b c ρ = .ok (.bl (decide (x ≤ y) && decide (y ≤ z))) := by
  unfold gChain
  rw [h1]
  dsimp only [Rs.bind]
  rw [h2]
  dsimp only [Rs.bind]
  rw [dLe_i]
  dsimp only [Rs.bind]
  rw [ev_asB]
  cases decide (x ≤ y) with
  | false => rfl
  | true =>
    dsimp only
    rw [if_pos rfl, h3]
    rfl
theorem not_e {t : GT} {ρ : EnvD} {z : Bool} (h : t ρ = .ok z) : gNot t ρ = .ok (!z) := by
  rw [ev_not, h]
theorem ev_stop {t : GT} {f k : GS} {ρ ρ' : EnvD} {d : DV} (h : t ρ = .ok true) (h2 : f ρ = .rt d ρ') : gSeq (gIfS t f gNext) k ρ = .rt d ρ' := ev_seqR (by rw [ev_ifS h, if_pos rfl, h2])
def bad1 (s : Int) (e : Ed) : Bool := !(decide (0 ≤ e.1) && decide (e.1 < s)) || (!(decide (0 ≤ e.2.1) && decide (e.2.1 < s)) || decide (e.1 = e.2.1))
def bad2 (e : Ed) : Bool := !(decide (0 ≤ e.2.2) && decide (e.2.2 ≤ 1048576))
theorem bad1_e {ρ : EnvD} {a b z : GE} {s : Int} {e : Ed} (h1 : a ρ = .ok (.int e.1)) (h2 : b ρ = .ok (.int e.2.1)) (h3 : z ρ = .ok (.int s)) : gOr (gNot (gB (gChain dLe dLt (gC (.int 0)) a z))) (gOr (gNot (gB (gChain dLe dLt (gC (.int 0)) b z))) (gB (gBin dEq a b))) ρ = .ok (bad1 s e) :=
  or_e (not_e (b_e (chain_lt rfl h1 h3))) (or_e (not_e (b_e (chain_lt rfl h2 h3))) (b_e ((bin_e h1 h2).trans dEq_i)))
theorem bad2_e {ρ : EnvD} {a : GE} {e : Ed} (h1 : a ρ = .ok (.int e.2.2)) : gNot (gB (gChain dLe dLe (gC (.int 0)) a (gC (.int 1048576)))) ρ = .ok (bad2 e) := not_e (b_e (chain_le rfl h1 rfl))
abbrev net (s : Int) (es : List Ed) : DV := .obj "Network" ["_size", "_edges"] [.int s, esD es]
theorem bad1_none {s : Int} {e : Ed} (h : Ge s e) : bad1 s e = false := by
  obtain ⟨h1, h2, h3, h4, h5, h6, h7⟩ := h
  unfold bad1
  rw [decide_eq_true h1, decide_eq_true h2, decide_eq_true h3, decide_eq_true h4, decide_eq_false h5]
  rfl
theorem bad2_none {s : Int} {e : Ed} (h : Ge s e) : bad2 e = false := by
  obtain ⟨h1, h2, h3, h4, h5, h6, h7⟩ := h
  unfold bad2
  rw [decide_eq_true h6, decide_eq_true h7]
  rfl
theorem check_good {s k : Int} {e : Ed} (h : Ge s e) : m_check_edge [.int s, eD e, .int k] = .ok .non := by
  have st : startD 6 [.int s, eD e, .int k] = [some (.int s), some (eD e), some (.int k), none, none, none] := rfl
  have s1 : (gAsg (gPure (gVar 1)) (gtTup [3, 4, 5])) [some (.int s), some (eD e), some (.int k), none, none, none] = .nx [some (.int s), some (eD e), some (.int k), some (.int e.1), some (.int e.2.1), some (.int e.2.2)] := rfl
  have t1 : (gOr (gNot (gB (gChain dLe dLt (gC (.int 0)) (gVar 3) (gVar 0)))) (gOr (gNot (gB (gChain dLe dLt (gC (.int 0)) (gVar 4) (gVar 0)))) (gB (gBin dEq (gVar 3) (gVar 4))))) [some (.int s), some (eD e), some (.int k), some (.int e.1), some (.int e.2.1), some (.int e.2.2)] = .ok (bad1 s e) := bad1_e rfl rfl rfl
  have t2 : (gNot (gB (gChain dLe dLe (gC (.int 0)) (gVar 5) (gC (.int 1048576))))) [some (.int s), some (eD e), some (.int k), some (.int e.1), some (.int e.2.1), some (.int e.2.2)] = .ok (bad2 e) := bad2_e rfl
  rw [bad1_none h] at t1
  rw [bad2_none h] at t2
  unfold m_check_edge runB b_check_edge
  rw [st, ev_seq s1, ev_skip t1, ev_ifS t2]
  rfl
theorem meth_e {c m : Str} {f : List DV → Rs DV} {g : GE} {ga : GA} {ρ : EnvD} {ns : List Str} {dd es : List DV} (h : g ρ = .ok (.obj c ns dd)) (hm : m ∉ ns) (ha : ga ρ = .ok es) : gMeth c m f g ga ρ = f (.obj c ns dd :: es) := by
  unfold gMeth
  rw [h]
  show (if c = c ∧ m ∉ ns then _ else _) = _
  rw [if_pos ⟨rfl, hm⟩, ha]
theorem a1_e {g : GE} {ρ : EnvD} {x : DV} (h : g ρ = .ok x) : aCons g aNil ρ = .ok [x] := by
  rw [ev_cons, h]
  rfl
theorem a2_e {g k : GE} {ρ : EnvD} {x y : DV} (h : g ρ = .ok x) (h2 : k ρ = .ok y) : aCons g (aCons k aNil) ρ = .ok [x, y] := by
  rw [ev_cons, h, ev_cons, h2]
  rfl
theorem f_size {s : Int} {es : List Ed} {ρ : EnvD} {i : Nat} (e : lk ρ i = .ok (net s es)) : gFld "Network" "_size" (gVar i) ρ = .ok (.int s) := by
  unfold gFld
  rw [ev_var, e]
  rfl
theorem f_edges {s : Int} {es : List Ed} {ρ : EnvD} {i : Nat} (e : lk ρ i = .ok (net s es)) : gFld "Network" "_edges" (gVar i) ρ = .ok (esD es) := by
  unfold gFld
  rw [ev_var, e]
  rfl
theorem fe_len {s : Int} {es : List Ed} {ρ : EnvD} {i : Nat} (e : lk ρ i = .ok (net s es)) : gCB dLen (aCons (gFld "Network" "_edges" (gVar i)) aNil) ρ = .ok (.int es.length) := lenD_e (f := eD) (xs := es) (f_edges e)
theorem size_ok {s : Int} {es : List Ed} : m_Network_size [net s es] = .ok (.int s) := by
  have st : startD 1 [net s es] = [some (net s es)] := rfl
  unfold m_Network_size runB b_Network_size
  rw [st, ret_e (f_size rfl)]
  rfl
theorem edges_ok {s : Int} {es : List Ed} : m_Network_edges [net s es] = .ok (esD es) := by
  have st : startD 1 [net s es] = [some (net s es)] := rfl
  unfold m_Network_edges runB b_Network_edges
  rw [st, ret_e ((cb1 (f_edges rfl)).trans rfl)]
  rfl
theorem vert_ok {s v : Int} {es : List Ed} (h0 : 0 ≤ v) (h1 : v < s) : m_Network_check_vertex [net s es, .int v] = .ok .non := by
  have st : startD 2 [net s es, .int v] = [some (net s es), some (.int v)] := rfl
  have t : (gNot (gB (gChain dLe dLt (gC (.int 0)) (gVar 1) (gFld "Network" "_size" (gVar 0))))) [some (net s es), some (.int v)] = .ok false := by
    rw [not_e (b_e (chain_lt rfl rfl (f_size rfl))), decide_eq_true h0, decide_eq_true h1]
    rfl
  unfold m_Network_check_vertex runB b_Network_check_vertex
  rw [st, ev_ifS t]
  rfl
theorem lcLoop_flt {h : DV → Rs (Option DV)} {p : Nat → Bool} : ∀ {xs : List Nat}, (∀ i ∈ xs, h (.int ((0 : Int) + (i : Int))) = .ok (if p i = true then some (.int (i : Int)) else none)) → lcLoop h (xs.map fun k : Nat => DV.int ((0 : Int) + (k : Int))) = .ok ((xs.filter p).map fun i : Nat => DV.int (i : Int))
  | [], _ => rfl
  | x :: xs, k => by
    rw [List.map_cons]
    unfold lcLoop
    rw [k x List.mem_cons_self]
    dsimp only [Rs.bind]
    rw [lcLoop_flt (xs := xs) fun y hy => k y (List.mem_cons_of_mem _ hy), List.filter_cons]
    cases p x <;> rfl
theorem lc_b {tg : GG} {gt : GT} {ge : GE} {ρ ρ1 : EnvD} {d x : DV} {z : Bool} (h1 : tg d ρ = .ok ρ1) (h2 : gt ρ1 = .ok z) (h3 : ge ρ1 = .ok x) : lcTurn tg gt ge ρ d = .ok (if z = true then some x else none) := by
  cases z with
  | true => exact lc_yes h1 h2 h3
  | false => exact lc_no h1 h2
abbrev nD (ks : List Nat) : DV := .lst (ks.map fun i : Nat => DV.int (i : Int))
def inE (v : Int) (e : Ed) : Bool := L2.inV (.int v) [.int e.1, .int e.2.1]
theorem inE_1 {v : Int} {e : Ed} (h : e.1 = v) : inE v e = true := by
  unfold inE L2.inV
  subst h
  simp [L2.eqV]
theorem inE_2 {v : Int} {e : Ed} (h : e.2.1 = v) : inE v e = true := by
  unfold inE L2.inV
  subst h
  simp [L2.eqV]
def eAt (es : List Ed) (i : Nat) : Ed := es.getD i (0, 0, 0)
def arr (v : Int) (es : List Ed) : List Nat := (List.range es.length).filter fun i => inE v (eAt es i)
def lea (v : Int) (es : List Ed) : List Nat := (List.range es.length).filter fun i => decide ((eAt es i).1 = v)
theorem ix_at {es : List Ed} {i : Nat} {z : Int} (e : z = (i : Int)) (h : i < es.length) : dIx (esD es) (.int z) = .ok (eD (eAt es i)) := by
  unfold eAt
  rw [getD_lt h]
  exact dIx_g (g := eD) (xs := es) i e h
theorem sl2 {g : GE} {ρ : EnvD} {e : Ed} (h : g ρ = .ok (eD e)) : gSl g gNoPart (gPart (gC (.int 2))) ρ = .ok (.tup [.int e.1, .int e.2.1]) := by
  unfold gSl
  rw [h]
  rfl
theorem in_e {a b : GE} {ρ : EnvD} {v : Int} {e : Ed} (h1 : a ρ = .ok (.int v)) (h2 : b ρ = .ok (.tup [.int e.1, .int e.2.1])) : gB (gBin dIn a b) ρ = .ok (inE v e) := b_e ((bin_e h1 h2).trans rfl)
theorem around_ok {s v : Int} {es : List Ed} (hl : es.length ≤ 1000) (h0 : 0 ≤ v) (h1 : v < s) : m_Network_around [net s es, .int v] = .ok (nD (arr v es)) := by
  have st : startD 3 [net s es, .int v] = [some (net s es), some (.int v), none] := rfl
  have s1 : (gDrop (gPure (gMeth "Network" "check_vertex" m_Network_check_vertex (gVar 0) (aCons (gVar 1) aNil)))) [some (net s es), some (.int v), none] = .nx [some (net s es), some (.int v), none] := by
    refine drop_e (d := .non) ((meth_e rfl (by decide) (a1_e rfl)).trans (vert_ok h0 h1))
  have key : (gLc (gRng1 (aCons (gCB dLen (aCons (gFld "Network" "_edges" (gVar 0)) aNil)) aNil)) (gtName 2) (gB (gBin dIn (gVar 1) (gSl (gBin dIx (gFld "Network" "_edges" (gVar 0)) (gVar 2)) gNoPart (gPart (gC (.int 2)))))) (gVar 2) [2]) [some (net s es), some (.int v), none] = .ok (nD (arr v es)) := by
    refine ev_lc (rng1_e (fe_len rfl) rfl hl) (rngD_len hl) ?_
    unfold rngD
    refine lcLoop_flt fun i hi => ?_
    have hi := List.mem_range.mp hi
    refine (lc_b (ρ1 := [some (net s es), some (.int v), some (.int ((0 : Int) + (i : Int)))]) rfl (in_e rfl (sl2 ((bin_e (f_edges rfl) rfl).trans (ix_at (by omega) hi)))) rfl).trans ?_
    rw [Int.zero_add]
  unfold m_Network_around runB b_Network_around
  rw [st, ev_seq s1, ret_e key]
  rfl
theorem leaving_ok {s v : Int} {es : List Ed} (hl : es.length ≤ 1000) (h0 : 0 ≤ v) (h1 : v < s) : m_Network_leaving [net s es, .int v] = .ok (nD (lea v es)) := by
  have st : startD 3 [net s es, .int v] = [some (net s es), some (.int v), none] := rfl
  have s1 : (gDrop (gPure (gMeth "Network" "check_vertex" m_Network_check_vertex (gVar 0) (aCons (gVar 1) aNil)))) [some (net s es), some (.int v), none] = .nx [some (net s es), some (.int v), none] := by
    refine drop_e (d := .non) ((meth_e rfl (by decide) (a1_e rfl)).trans (vert_ok h0 h1))
  have key : (gLc (gRng1 (aCons (gCB dLen (aCons (gFld "Network" "_edges" (gVar 0)) aNil)) aNil)) (gtName 2) (gB (gBin dEq (gBin dIx (gBin dIx (gFld "Network" "_edges" (gVar 0)) (gVar 2)) (gC (.int 0))) (gVar 1))) (gVar 2) [2]) [some (net s es), some (.int v), none] = .ok (nD (lea v es)) := by
    refine ev_lc (rng1_e (fe_len rfl) rfl hl) (rngD_len hl) ?_
    unfold rngD
    refine lcLoop_flt fun i hi => ?_
    have hi := List.mem_range.mp hi
    refine (lc_b (ρ1 := [some (net s es), some (.int v), some (.int ((0 : Int) + (i : Int)))]) rfl (b_e ((bin_e ((bin_e ((bin_e (f_edges rfl) rfl).trans (ix_at (by omega) hi)) rfl).trans ix3_0) rfl).trans dEq_i)) rfl).trans ?_
    rw [Int.zero_add]
  unfold m_Network_leaving runB b_Network_leaving
  rw [st, ev_seq s1, ret_e key]
  rfl
theorem other_ok {s v : Int} {es : List Ed} {i : Nat} (hi : i < es.length) : m_Network_other_end [net s es, .int (i : Int), .int v] = .ok (.int ((eAt es i).1 + (eAt es i).2.1 - v)) := by
  have st : startD 6 [net s es, .int (i : Int), .int v] = [some (net s es), some (.int (i : Int)), some (.int v), none, none, none] := rfl
  have s1 : (gAsg (gPure (gBin dIx (gFld "Network" "_edges" (gVar 0)) (gVar 1))) (gtTup [3, 4, 5])) [some (net s es), some (.int (i : Int)), some (.int v), none, none, none] = .nx [some (net s es), some (.int (i : Int)), some (.int v), some (.int (eAt es i).1), some (.int (eAt es i).2.1), some (.int (eAt es i).2.2)] := by
    have g : gBin dIx (gFld "Network" "_edges" (gVar 0)) (gVar 1) [some (net s es), some (.int (i : Int)), some (.int v), none, none, none] = .ok (eD (eAt es i)) := (bin_e (f_edges rfl) rfl).trans (ix_at rfl hi)
    unfold gAsg
    rw [ev_pure, g]
    rfl
  unfold m_Network_other_end runB b_Network_other_end
  rw [st, ev_seq s1, ret_e ((bin_e ((bin_e rfl rfl).trans dAdd_i) rfl).trans dSub_i)]
  rfl
def iBody : GS := (gDrop (gPure (gCB m_check_edge (aCons (gVar 1) (aCons (gBin dIx (gVar 2) (gVar 3)) (aCons (gVar 3) aNil))))))
theorem init_good {s : Int} {es : List Ed} (h1 : 1 ≤ s) (h2 : s ≤ 40) (hl : es.length ≤ 200) (hg : ∀ e ∈ es, Ge s e) : m_Network___init__ [.int s, esD es] = .ok (net s es) := by
  have st : startN "Network" 3 [.int s, esD es] = [some (.obj "Network" [] []), some (.int s), some (esD es), none] := rfl
  have t1 : (gNot (gB (gChain dLe dLe (gC (.int 1)) (gVar 1) (gC (.int 40))))) [some (.obj "Network" [] []), some (.int s), some (esD es), none] = .ok false := by
    rw [not_e (b_e (chain_le rfl rfl rfl)), decide_eq_true h1, decide_eq_true h2]
    rfl
  have ln : ∀ ρ, lk ρ 2 = .ok (esD es) → gCB dLen (aCons (gVar 2) aNil) ρ = .ok (.int es.length) := fun ρ h => len_e (g := eD) (xs := es) h
  have t2 : (gB (gBin dGt (gCB dLen (aCons (gVar 2) aNil)) (gC (.int 200)))) [some (.obj "Network" [] []), some (.int s), some (esD es), none] = .ok false := by
    rw [b_e ((bin_e (ln _ rfl) rfl).trans dGt_i), decide_eq_false (by omega)]
  obtain ⟨ρ', f1, t3, e1⟩ := forG_rngB (tg := gtName 3) (b := iBody) es.length (fun _ ρ => ∃ t3 : Option DV, ρ = [some (.obj "Network" [] []), some (.int s), some (esD es), t3]) (fun i ρ hi h => by
    obtain ⟨t, rfl⟩ := h
    refine ⟨[some (.obj "Network" [] []), some (.int s), some (esD es), some (.int ((0 : Int) + (i : Int)))], _, rfl, drop_e (d := .non) ?_, _, rfl⟩
    have g : (gBin dIx (gVar 2) (gVar 3)) [some (.obj "Network" [] []), some (.int s), some (esD es), some (.int ((0 : Int) + (i : Int)))] = .ok (eD es[i]) := (bin_e rfl rfl).trans (dIx_g (g := eD) (xs := es) i (by omega) hi)
    exact (cb3 rfl g rfl).trans (check_good (hg _ (List.getElem_mem hi)))) es.length 0 [some (.obj "Network" [] []), some (.int s), some (esD es), none] (by omega) ⟨none, rfl⟩
  have it : gRng1 (aCons (gCB dLen (aCons (gVar 2) aNil)) aNil) [some (.obj "Network" [] []), some (.int s), some (esD es), none] = .ok (rngD 0 es.length) := rng1_e (ln _ rfl) rfl (by omega)
  have s3 : gFor (gRng1 (aCons (gCB dLen (aCons (gVar 2) aNil)) aNil)) (gtName 3) iBody [some (.obj "Network" [] []), some (.int s), some (esD es), none] = .nx ρ' := ev_for it (by rw [rngD_eq]; exact f1)
  unfold m_Network___init__ DL.runN b_Network___init__
  rw [st, ev_skip t1, ev_skip t2]
  show finN (gSeq (gFor _ _ iBody) _ _) = _
  rw [ev_seq s3, e1]
  rfl
/-! the steps from a vertex -/
def oth (es : List Ed) (k u : Nat) : Nat := ((eAt es k).1 + (eAt es k).2.1 - (u : Int)).toNat
def stp (arcs : Bool) (es : List Ed) : Stp := fun u => (if arcs = true then lea (u : Int) es else arr (u : Int) es).map fun k => (k, oth es k u)
def prc (es : List Ed) (k : Nat) : Int := (eAt es k).2.2
def kvD (kv : Nat × Nat) : DV := .tup [.int (kv.1 : Int), .int (kv.2 : Int)]
theorem inE_iff {v : Int} {e : Ed} : inE v e = true ↔ e.1 = v ∨ e.2.1 = v := by
  constructor
  · intro h
    unfold inE L2.inV at h
    simp [L2.eqV] at h
    omega
  · rintro (h | h)
    · exact inE_1 h
    · exact inE_2 h
theorem eAt_mem {es : List Ed} {n : Nat} (h : n < es.length) : eAt es n ∈ es := by
  unfold eAt
  rw [getD_lt h]
  exact List.getElem_mem h
/-- what a step is -/
def IsSt (arcs : Bool) (es : List Ed) (u k v : Nat) : Prop := k < es.length ∧ (((eAt es k).1 = (u : Int) ∧ (eAt es k).2.1 = (v : Int)) ∨ (arcs = false ∧ (eAt es k).2.1 = (u : Int) ∧ (eAt es k).1 = (v : Int)))
theorem stp_iff {s : Int} {arcs : Bool} {es : List Ed} (hg : ∀ e ∈ es, Ge s e) {u k v : Nat} : (k, v) ∈ stp arcs es u ↔ IsSt arcs es u k v := by
  have key : ∀ k, k < es.length → Ge s (eAt es k) := fun k hk => hg _ (eAt_mem hk)
  unfold stp IsSt
  rw [List.mem_map]
  constructor
  · rintro ⟨k', hk', e⟩
    injection e with e1 e2
    subst e1
    cases arcs with
    | true =>
      rw [if_pos rfl] at hk'
      obtain ⟨h1, h2⟩ := List.mem_filter.mp hk'
      have h1 := List.mem_range.mp h1
      have h2 : (eAt es k').1 = (u : Int) := of_decide_eq_true h2
      obtain ⟨a1, a2, a3, a4, a5, a6, a7⟩ := key k' h1
      unfold oth at e2
      exact ⟨h1, .inl ⟨h2, by omega⟩⟩
    | false =>
      rw [if_neg (by decide)] at hk'
      obtain ⟨h1, h2⟩ := List.mem_filter.mp hk'
      have h1 := List.mem_range.mp h1
      obtain ⟨a1, a2, a3, a4, a5, a6, a7⟩ := key k' h1
      unfold oth at e2
      rcases inE_iff.mp h2 with h2 | h2
      · exact ⟨h1, .inl ⟨h2, by omega⟩⟩
      · exact ⟨h1, .inr ⟨rfl, h2, by omega⟩⟩
  · rintro ⟨h1, h2⟩
    obtain ⟨a1, a2, a3, a4, a5, a6, a7⟩ := key k h1
    have eo : oth es k u = v := by
      unfold oth
      rcases h2 with ⟨h2, h3⟩ | ⟨_, h2, h3⟩ <;> omega
    refine ⟨k, ?_, by rw [eo]⟩
    cases arcs with
    | true =>
      rw [if_pos rfl]
      rcases h2 with ⟨h2, h3⟩ | ⟨h, _⟩
      · exact List.mem_filter.mpr ⟨List.mem_range.mpr h1, decide_eq_true h2⟩
      · cases h
    | false =>
      rw [if_neg (by decide)]
      refine List.mem_filter.mpr ⟨List.mem_range.mpr h1, inE_iff.mpr ?_⟩
      rcases h2 with ⟨h2, h3⟩ | ⟨_, h2, h3⟩
      · exact .inl h2
      · exact .inr h2
theorem stp_ok {n : Nat} {arcs : Bool} {es : List Ed} (hg : ∀ e ∈ es, Ge (n : Int) e) : Ok (stp arcs es) n := fun u kv _ hk => by
  obtain ⟨h1, h2⟩ := (stp_iff (k := kv.1) (v := kv.2) hg).mp hk
  obtain ⟨a1, a2, a3, a4, a5, a6, a7⟩ := hg _ (eAt_mem h1)
  rcases h2 with ⟨h2, h3⟩ | ⟨_, h2, h3⟩ <;> omega
theorem prc_nn {s : Int} {es : List Ed} (hg : ∀ e ∈ es, Ge s e) (k : Nat) : 0 ≤ prc es k := by
  unfold prc
  by_cases h : k < es.length
  · exact (hg _ (eAt_mem h)).2.2.2.2.2.1
  · unfold eAt
    rw [List.getD_eq_getElem?_getD, List.getElem?_eq_none (by omega)]
    exact Int.le_refl 0
theorem lcLoop_gen2 {α : Type} {h : DV → Rs (Option DV)} {g f : α → DV} {xs : List α} (k : ∀ x ∈ xs, h (g x) = .ok (some (f x))) : lcLoop h (xs.map g) = .ok (xs.map f) := lcLoop_gen k
theorem lea_lt {v : Int} {es : List Ed} {i : Nat} (h : i ∈ lea v es) : i < es.length := List.mem_range.mp (List.mem_filter.mp h).1
theorem arr_lt {v : Int} {es : List Ed} {i : Nat} (h : i ∈ arr v es) : i < es.length := List.mem_range.mp (List.mem_filter.mp h).1
theorem lea_len {v : Int} {es : List Ed} : (lea v es).length ≤ es.length := by
  have := List.length_filter_le (fun i => decide ((eAt es i).1 = v)) (List.range es.length)
  rw [List.length_range] at this
  exact this
theorem arr_len {v : Int} {es : List Ed} : (arr v es).length ≤ es.length := by
  have := List.length_filter_le (fun i => inE v (eAt es i)) (List.range es.length)
  rw [List.length_range] at this
  exact this
theorem stp_len {arcs : Bool} {es : List Ed} {u : Nat} : (stp arcs es u).length ≤ es.length := by
  unfold stp
  rw [List.length_map]
  cases arcs
  · exact arr_len
  · exact lea_len
theorem tru_b {g : GE} {ρ : EnvD} {b : Bool} (h : g ρ = .ok (.bl b)) : gTru g ρ = .ok b := by
  unfold gTru
  rw [h]
  rfl
theorem seq_raw {g : GE} {ρ : EnvD} {ds : List DV} (h : g ρ = .ok (.lst ds)) : gSeqI g ρ = .ok ds := by
  unfold gSeqI
  rw [h]
  rfl
theorem sl_key {s : Int} {es : List Ed} {arcs : Bool} {u : Nat} (hl : es.length ≤ 1000) (hu : (u : Int) < s) (hg : ∀ e ∈ es, Ge s e) : (gLc (gSeqI (gMeth "Network" "leaving" m_Network_leaving (gVar 0) (aCons (gVar 1) aNil))) (gtName 3) gYes (eTup (aCons (gVar 3) (aCons (gNX (gMeth "Network" "other_end" m_Network_other_end (gVar 0) (aCons (gVar 3) (aCons (gVar 1) aNil)))) aNil))) [3]) [some (net s es), some (.int (u : Int)), some (.bl arcs), none] = .ok (.lst (((lea (u : Int) es).map fun k => (k, oth es k u)).map kvD)) := by
  have h1 : (gSeqI (gMeth "Network" "leaving" m_Network_leaving (gVar 0) (aCons (gVar 1) aNil))) [some (net s es), some (.int (u : Int)), some (.bl arcs), none] = .ok ((lea (u : Int) es).map fun i : Nat => DV.int (i : Int)) := seq_raw ((meth_e rfl (by decide) (a1_e rfl)).trans (leaving_ok hl (by omega) hu))
  refine (ev_lc h1 (by rw [List.length_map, sz_eq]; have := lea_len (v := (u : Int)) (es := es); omega) (lcLoop_gen2 (f := fun k => kvD (k, oth es k u)) fun k hk => ?_)).trans (by rw [List.map_map]; rfl)
  have kl := lea_lt hk
  have ek : (eAt es k).1 + (eAt es k).2.1 - (u : Int) = ((oth es k u : Nat) : Int) := by
    have a := hg _ (eAt_mem kl)
    have m := (List.mem_filter.mp hk).2
    obtain ⟨a1, a2, a3, a4, a5, a6, a7⟩ := a
    unfold oth
    have m : (eAt es k).1 = (u : Int) := of_decide_eq_true m
    omega
  exact lc_yes (ρ1 := [some (net s es), some (.int (u : Int)), some (.bl arcs), some (.int (k : Int))]) rfl rfl (tup2 rfl (nx_e ((meth_e rfl (by decide) (a2_e rfl rfl)).trans ((other_ok kl).trans (by rw [ek])))))
theorem sa_key {s : Int} {es : List Ed} {arcs : Bool} {u : Nat} (hl : es.length ≤ 1000) (hu : (u : Int) < s) (hg : ∀ e ∈ es, Ge s e) : (gLc (gSeqI (gMeth "Network" "around" m_Network_around (gVar 0) (aCons (gVar 1) aNil))) (gtName 3) gYes (eTup (aCons (gVar 3) (aCons (gNX (gMeth "Network" "other_end" m_Network_other_end (gVar 0) (aCons (gVar 3) (aCons (gVar 1) aNil)))) aNil))) [3]) [some (net s es), some (.int (u : Int)), some (.bl arcs), none] = .ok (.lst (((arr (u : Int) es).map fun k => (k, oth es k u)).map kvD)) := by
  have h1 : (gSeqI (gMeth "Network" "around" m_Network_around (gVar 0) (aCons (gVar 1) aNil))) [some (net s es), some (.int (u : Int)), some (.bl arcs), none] = .ok ((arr (u : Int) es).map fun i : Nat => DV.int (i : Int)) := seq_raw ((meth_e rfl (by decide) (a1_e rfl)).trans (around_ok hl (by omega) hu))
  refine (ev_lc h1 (by rw [List.length_map, sz_eq]; have := arr_len (v := (u : Int)) (es := es); omega) (lcLoop_gen2 (f := fun k => kvD (k, oth es k u)) fun k hk => ?_)).trans (by rw [List.map_map]; rfl)
  have kl := arr_lt hk
  have ek : (eAt es k).1 + (eAt es k).2.1 - (u : Int) = ((oth es k u : Nat) : Int) := by
    have a := hg _ (eAt_mem kl)
    have m := (List.mem_filter.mp hk).2
    obtain ⟨a1, a2, a3, a4, a5, a6, a7⟩ := a
    unfold oth
    rcases inE_iff.mp m with m | m <;> omega
  exact lc_yes (ρ1 := [some (net s es), some (.int (u : Int)), some (.bl arcs), some (.int (k : Int))]) rfl rfl (tup2 rfl (nx_e ((meth_e rfl (by decide) (a2_e rfl rfl)).trans ((other_ok kl).trans (by rw [ek])))))
theorem steps_ok {s : Int} {es : List Ed} {arcs : Bool} {u : Nat} (hl : es.length ≤ 1000) (hu : (u : Int) < s) (hg : ∀ e ∈ es, Ge s e) : m_steps_from [net s es, .int (u : Int), .bl arcs] = .ok (.lst ((stp arcs es u).map kvD)) := by
  have st : startD 4 [net s es, .int (u : Int), .bl arcs] = [some (net s es), some (.int (u : Int)), some (.bl arcs), none] := rfl
  unfold m_steps_from runB b_steps_from
  rw [st]
  cases arcs with
  | true =>
    rw [ev_stop (tru_b rfl) (ret_e (sl_key hl hu hg))]
    rfl
  | false =>
    rw [ev_skip (tru_b rfl), ret_e (sa_key hl hu hg)]
    rfl
end M
end

/-! text P4 -/
section
set_option maxRecDepth 100000
set_option maxHeartbeats 4000000
namespace M
open PySem DL
theorem pure_e {g : GE} {ρ : EnvD} {d : DV} (h : g ρ = .ok d) : gPure g ρ = .ok (d, ρ) := by rw [ev_pure, h]
theorem setI_e {i : Nat} {gk g : GE} {ρ : EnvD} {x x' k y : DV} (h1 : g ρ = .ok y) (h2 : lk ρ i = .ok x) (h3 : gk ρ = .ok k) (h4 : setD x k y = .ok x') : gSetI i gk (gPure g) ρ = .nx (ρ.set i (some x')) := by
  unfold gSetI
  rw [pure_e h1]
  dsimp only
  rw [h2]
  dsimp only
  rw [h3]
  dsimp only
  rw [h4]
theorem wh_no {c : GT} {b : GS} {n : Nat} {ρ : EnvD} (h : c ρ = .ok false) : whileG c b (n + 1) ρ = .nx ρ := by
  unfold whileG
  rw [h]
theorem wh_nx {c : GT} {b : GS} {n : Nat} {ρ ρ' : EnvD} (h : c ρ = .ok true) (h2 : b ρ = .nx ρ') : whileG c b (n + 1) ρ = whileG c b n ρ' := by
  rw [whileG, h]
  dsimp only
  rw [h2]
theorem wh_rt {c : GT} {b : GS} {n : Nat} {ρ ρ' : EnvD} {d : DV} (h : c ρ = .ok true) (h2 : b ρ = .rt d ρ') : whileG c b (n + 1) ρ = .rt d ρ' := by
  rw [whileG, h]
  dsimp only
  rw [h2]
theorem alike_i : ∀ xs ys : List Int, PySem.W.alikeAll (pys (xs.map DV.int)) (pys (ys.map DV.int)) = true
  | [], ys => by simp [pys, PySem.W.alikeAll]
  | x :: xs, [] => by simp [pys, PySem.W.alikeAll]
  | x :: xs, y :: ys => by
    show PySem.W.alikeAll (py (.int x) :: pys (xs.map DV.int)) (py (.int y) :: pys (ys.map DV.int)) = true
    unfold PySem.W.alikeAll
    rw [alike_i xs ys]
    rfl
theorem alike_di {f t : List Int} : PySem.W.alike (py (di f)) (py (di t)) = true := by
  show PySem.W.alike (.list (pys (f.map DV.int))) (.list (pys (t.map DV.int))) = true
  unfold PySem.W.alike
  exact alike_i f t
theorem lex_toks : ∀ (xs ys : List Int) (r : List (Int ⊕ List Nat)), xs.length = ys.length → PyProof.Rows.lexLt PyProof.Rows.itemOrd (PySem.W.keyToksAll (pys (xs.map DV.int)) ++ r) (PySem.W.keyToksAll (pys (ys.map DV.int)) ++ r) = lexI xs ys
  | [], [], r, _ => PyProof.Rows.lex_irrefl (O := PyProof.Rows.itemOrd) _
  | x :: xs, y :: ys, r, h => by
    have ih := lex_toks xs ys r (by simpa using h)
    have e : ∀ (z : Int) (zs : List Int), PySem.W.keyToksAll (pys ((z :: zs).map DV.int)) ++ r = .inl 1 :: .inl z :: (PySem.W.keyToksAll (pys (zs.map DV.int)) ++ r) := fun z zs => by
      show PySem.W.keyToksAll (py (.int z) :: pys (zs.map DV.int)) ++ r = _
      simp [PySem.W.keyToksAll, py, PySem.W.keyToks]
    rw [e, e, PyProof.Rows.lex_self (O := PyProof.Rows.itemOrd), PyProof.Rows.lex_cons (O := PyProof.Rows.itemOrd), ih]
    rfl
  | [], _ :: _, _, h => by cases h
  | _ :: _, [], _, h => by cases h
theorem eqoks_n : ∀ (xs : List Int) {n : Nat}, eqoks (xs.map DV.int) n = true
  | [], _ => rfl
  | x :: xs, n => by
    show (eqok (.int x) n && eqoks (xs.map DV.int) n) = true
    rw [eqoks_n xs]
    rfl
abbrev lbD (pr : Nat → Int) (p : List Nat) : DV := .tup [.int (psum pr p), .int (p.length : Int), di (isN p)]
def labD (pr : Nat → Int) : Option (List Nat) → DV
  | none => .non
  | some p => lbD pr p
def lsD (pr : Nat → Int) (L : Lbs) : DV := .lst (L.map (labD pr))
theorem lb_eqok {pr : Nat → Int} {p : List Nat} : eqok (lbD pr p) 20 = true := by
  show (eqok (.int (psum pr p)) 19 && (eqok (.int (p.length : Int)) 19 && (eqok (di (isN p)) 19 && true))) = true
  have e : eqok (di (isN p)) 19 = true := by
    show eqoks ((isN p).map DV.int) 18 = true
    exact eqoks_n _
  rw [e]
  rfl
theorem lt_lab {pr : Nat → Int} {p q : List Nat} : dLtD (lbD pr p) (lbD pr q) = .ok (.bl (ltP pr p q)) := by
  have q3 : PySem.W.alike (py (lbD pr p)) (py (lbD pr q)) = true := by
    show PySem.W.alike (.tuple [py (.int (psum pr p)), py (.int (p.length : Int)), py (di (isN p))]) (.tuple [py (.int (psum pr q)), py (.int (q.length : Int)), py (di (isN q))]) = true
    have a := alike_di (f := isN p) (t := isN q)
    simp only [PySem.W.alike, PySem.W.alikeAll, a]
    rfl
  have hq : ordOk (lbD pr p) (lbD pr q) = true := by
    unfold ordOk
    rw [lb_eqok, lb_eqok, q3]
    rfl
  show (if ordOk (lbD pr p) (lbD pr q) = true then _ else _) = _
  rw [if_pos hq]
  have e : ∀ (p : List Nat), PySem.W.keyToks (py (lbD pr p)) = .inl 1 :: .inl (psum pr p) :: .inl 1 :: .inl (p.length : Int) :: .inl 1 :: (PySem.W.keyToksAll (pys ((isN p).map DV.int)) ++ [.inl 0]) := fun p => by
    show PySem.W.keyToksAll [.int (psum pr p), .int (p.length : Int), .list (pys ((isN p).map DV.int))] = _
    simp [PySem.W.keyToksAll, PySem.W.keyToks]
  show Rs.ok (DV.bl (PySem.W.dataLt (py (lbD pr p)) (py (lbD pr q)))) = _
  unfold PySem.W.dataLt ltP
  rw [e, e, PyProof.Rows.lex_self (O := PyProof.Rows.itemOrd), PyProof.Rows.lex_cons (O := PyProof.Rows.itemOrd), PyProof.Rows.lex_self (O := PyProof.Rows.itemOrd), PyProof.Rows.lex_cons (O := PyProof.Rows.itemOrd), PyProof.Rows.lex_self (O := PyProof.Rows.itemOrd)]
  by_cases c : p.length = q.length
  · rw [lex_toks (isN p) (isN q) _ (by rw [isN_len, isN_len, c])]
    rfl
  · by_cases c2 : (p.length : Int) < q.length
    · have d1 : decide ((p.length : Int) < q.length) = true := decide_eq_true c2
      show Rs.ok (DV.bl (decide (psum pr p < psum pr q) || (!decide (psum pr q < psum pr p) && (decide ((p.length : Int) < q.length) || _)))) = _
      rw [d1, Bool.true_or, Bool.true_or]
    · have d1 : decide ((q.length : Int) < p.length) = true := decide_eq_true (by omega)
      show Rs.ok (DV.bl (decide (psum pr p < psum pr q) || (!decide (psum pr q < psum pr p) && (decide ((p.length : Int) < q.length) || (!decide ((q.length : Int) < p.length) && _))))) = _
      rw [d1, Bool.not_true, Bool.false_and, Bool.false_and]
theorem snoc_e {a b : GE} {ρ : EnvD} {p : List Nat} {k : Nat} (h1 : a ρ = .ok (di (isN p))) (h2 : b ρ = .ok (.int (k : Int))) (hl : p.length ≤ 1000000) : gSnoc a b ρ = .ok (di (isN (p ++ [k]))) := by
  unfold gSnoc
  rw [h1]
  dsimp only [Rs.bind]
  rw [h2]
  dsimp only
  rw [if_pos (by rw [List.length_map, isN_len, sz_eq]; omega)]
  unfold isN
  rw [List.map_append, di, List.map_append]
  rfl
theorem ls_ix {pr : Nat → Int} {L : Lbs} {v : Nat} {z : Int} (e : z = (v : Int)) (h : v < L.length) : dIx (lsD pr L) (.int z) = .ok (labD pr (lv L v)) := by
  unfold lv
  rw [getD_lt h]
  exact dIx_g (g := labD pr) v e h
theorem ls_ixY {pr : Nat → Int} {L : Lbs} {v : Nat} {z : Int} (e : z = (v : Int)) (h : v < L.length) : dIxY (lsD pr L) (.int z) = .ok (labD pr (lv L v)) := ls_ix e h
theorem flat_e {g : GE} {ρ : EnvD} {d : DV} (h : g ρ = .ok d) (f : (DL.flat d).isSome = true) : gFlat g ρ = .ok d := by
  unfold gFlat
  rw [h]
  dsimp only [Rs.bind]
  rw [if_pos f]
theorem yg_e {g : GE} {ρ : EnvD} {ds : List DV} (h : g ρ = .ok (.lst ds)) : gYg g ρ = .ok (.lst ds) := by
  unfold gYg
  rw [h]
  try rfl
theorem ygT_e {g : GE} {ρ : EnvD} {ds : List DV} (h : g ρ = .ok (.tup ds)) : gYgT g ρ = .ok (.tup ds) := by
  unfold gYgT
  rw [h]
  try rfl
theorem ls_set {pr : Nat → Int} {L : Lbs} {v : Nat} {p : List Nat} (h : v < L.length) : setD (lsD pr L) (.int (v : Int)) (lbD pr p) = .ok (lsD pr (L.set v (some p))) := by
  unfold lsD setD
  simp only [List.length_map]
  rw [ixN_nat h]
  simp [List.map_set, labD]
theorem isn_lab {pr : Nat → Int} {x : Option (List Nat)} : dIsN (labD pr x) .non = .ok (.bl x.isNone) := by cases x <;> rfl
theorem notn_lab {pr : Nat → Int} {x : Option (List Nat)} : dNotN (labD pr x) .non = .ok (.bl x.isSome) := by cases x <;> rfl
section
variable {n s : Nat} {es : List Ed} {arcs : Bool} {L : Lbs} {mv : Bool} {p : List Nat} {t6 t7 t8 t9 t10 t11 t12 : Option DV}
def eB : GS := (gSeq (gAsg (gPure (gYgT (eTup (aCons (gFlat (gBin dAdd (gVar 7) (gBin dIx (gBin dIx (gVar 3) (gVar 10)) (gC (.int 2))))) (aCons (gFlat (gBin dAdd (gVar 8) (gC (.int 1)))) (aCons (gYg (gSnoc (gVar 9) (gFlat (gVar 10)))) aNil)))))) (gtName 12)) (gIfS (gOr (gB (gBin dIsN (gBin dIxY (gVar 4) (gVar 11)) (gC .non))) (gB (gBin dLtD (gVar 12) (gBin dIxY (gVar 4) (gVar 11))))) (gSeq (gSetI 4 (gVar 11) (gPure (gVar 12))) (gAsg (gPure (gC (.bl true))) (gtName 5))) gNext))
theorem e_turn {k v : Nat} (hk : k < es.length) (hv : v < L.length) (hp : p.length ≤ 1000000) : eB [some (net (n : Int) es), some (.int (s : Int)), some (.bl arcs), some (esD es), some (lsD (prc es) L), some (.bl mv), t6, some (.int (psum (prc es) p)), some (.int (p.length : Int)), some (di (isN p)), some (.int (k : Int)), some (.int (v : Int)), t12] = .nx [some (net (n : Int) es), some (.int (s : Int)), some (.bl arcs), some (esD es), some (lsD (prc es) (rlx (prc es) (L, mv) (p ++ [k]) v).1), some (.bl (rlx (prc es) (L, mv) (p ++ [k]) v).2), t6, some (.int (psum (prc es) p)), some (.int (p.length : Int)), some (di (isN p)), some (.int (k : Int)), some (.int (v : Int)), some (lbD (prc es) (p ++ [k]))] := by
  have lb : ((gYgT (eTup (aCons (gFlat (gBin dAdd (gVar 7) (gBin dIx (gBin dIx (gVar 3) (gVar 10)) (gC (.int 2))))) (aCons (gFlat (gBin dAdd (gVar 8) (gC (.int 1)))) (aCons (gYg (gSnoc (gVar 9) (gFlat (gVar 10)))) aNil)))))) [some (net (n : Int) es), some (.int (s : Int)), some (.bl arcs), some (esD es), some (lsD (prc es) L), some (.bl mv), t6, some (.int (psum (prc es) p)), some (.int (p.length : Int)), some (di (isN p)), some (.int (k : Int)), some (.int (v : Int)), t12] = .ok (lbD (prc es) (p ++ [k])) := by
    have a : ((gFlat (gBin dAdd (gVar 7) (gBin dIx (gBin dIx (gVar 3) (gVar 10)) (gC (.int 2)))))) [some (net (n : Int) es), some (.int (s : Int)), some (.bl arcs), some (esD es), some (lsD (prc es) L), some (.bl mv), t6, some (.int (psum (prc es) p)), some (.int (p.length : Int)), some (di (isN p)), some (.int (k : Int)), some (.int (v : Int)), t12] = .ok (.int (psum (prc es) (p ++ [k]))) := by
      refine flat_e (((bin_e rfl ((bin_e ((bin_e rfl rfl).trans (ix_at rfl hk)) rfl).trans ix3_2)).trans dAdd_i).trans ?_) rfl
      rw [psum_app, psum_one]
      rfl
    have b : ((gFlat (gBin dAdd (gVar 8) (gC (.int 1))))) [some (net (n : Int) es), some (.int (s : Int)), some (.bl arcs), some (esD es), some (lsD (prc es) L), some (.bl mv), t6, some (.int (psum (prc es) p)), some (.int (p.length : Int)), some (di (isN p)), some (.int (k : Int)), some (.int (v : Int)), t12] = .ok (.int ((p ++ [k]).length : Int)) := by
      refine flat_e (((bin_e rfl rfl).trans dAdd_i).trans ?_) rfl
      rw [List.length_append]
      rfl
    exact ygT_e (tup3 a b (yg_e (snoc_e rfl (flat_e rfl rfl) hp)))
  have s1 : (gAsg (gPure (gYgT (eTup (aCons (gFlat (gBin dAdd (gVar 7) (gBin dIx (gBin dIx (gVar 3) (gVar 10)) (gC (.int 2))))) (aCons (gFlat (gBin dAdd (gVar 8) (gC (.int 1)))) (aCons (gYg (gSnoc (gVar 9) (gFlat (gVar 10)))) aNil)))))) (gtName 12)) [some (net (n : Int) es), some (.int (s : Int)), some (.bl arcs), some (esD es), some (lsD (prc es) L), some (.bl mv), t6, some (.int (psum (prc es) p)), some (.int (p.length : Int)), some (di (isN p)), some (.int (k : Int)), some (.int (v : Int)), t12] = .nx [some (net (n : Int) es), some (.int (s : Int)), some (.bl arcs), some (esD es), some (lsD (prc es) L), some (.bl mv), t6, some (.int (psum (prc es) p)), some (.int (p.length : Int)), some (di (isN p)), some (.int (k : Int)), some (.int (v : Int)), some (lbD (prc es) (p ++ [k]))] := set_e (i := 12) lb
  have g : (gBin dIxY (gVar 4) (gVar 11)) [some (net (n : Int) es), some (.int (s : Int)), some (.bl arcs), some (esD es), some (lsD (prc es) L), some (.bl mv), t6, some (.int (psum (prc es) p)), some (.int (p.length : Int)), some (di (isN p)), some (.int (k : Int)), some (.int (v : Int)), some (lbD (prc es) (p ++ [k]))] = .ok (labD (prc es) (lv L v)) := (bin_e rfl rfl).trans (ls_ixY rfl hv)
  have s2 : (gSetI 4 (gVar 11) (gPure (gVar 12))) [some (net (n : Int) es), some (.int (s : Int)), some (.bl arcs), some (esD es), some (lsD (prc es) L), some (.bl mv), t6, some (.int (psum (prc es) p)), some (.int (p.length : Int)), some (di (isN p)), some (.int (k : Int)), some (.int (v : Int)), some (lbD (prc es) (p ++ [k]))] = .nx [some (net (n : Int) es), some (.int (s : Int)), some (.bl arcs), some (esD es), some (lsD (prc es) (L.set v (some (p ++ [k])))), some (.bl mv), t6, some (.int (psum (prc es) p)), some (.int (p.length : Int)), some (di (isN p)), some (.int (k : Int)), some (.int (v : Int)), some (lbD (prc es) (p ++ [k]))] := setI_e rfl rfl rfl (ls_set hv)
  have s3 : (gAsg (gPure (gC (.bl true))) (gtName 5)) [some (net (n : Int) es), some (.int (s : Int)), some (.bl arcs), some (esD es), some (lsD (prc es) (L.set v (some (p ++ [k])))), some (.bl mv), t6, some (.int (psum (prc es) p)), some (.int (p.length : Int)), some (di (isN p)), some (.int (k : Int)), some (.int (v : Int)), some (lbD (prc es) (p ++ [k]))] = .nx [some (net (n : Int) es), some (.int (s : Int)), some (.bl arcs), some (esD es), some (lsD (prc es) (L.set v (some (p ++ [k])))), some (.bl true), t6, some (.int (psum (prc es) p)), some (.int (p.length : Int)), some (di (isN p)), some (.int (k : Int)), some (.int (v : Int)), some (lbD (prc es) (p ++ [k]))] := rfl
  unfold eB rlx
  rw [ev_seq s1]
  dsimp only
  cases h : lv L v with
  | none =>
    rw [h] at g
    have t : ((gOr (gB (gBin dIsN (gBin dIxY (gVar 4) (gVar 11)) (gC .non))) (gB (gBin dLtD (gVar 12) (gBin dIxY (gVar 4) (gVar 11)))))) [some (net (n : Int) es), some (.int (s : Int)), some (.bl arcs), some (esD es), some (lsD (prc es) L), some (.bl mv), t6, some (.int (psum (prc es) p)), some (.int (p.length : Int)), some (di (isN p)), some (.int (k : Int)), some (.int (v : Int)), some (lbD (prc es) (p ++ [k]))] = .ok true := by
      unfold gOr
      rw [b_e ((bin_e g rfl).trans isn_lab)]
      rfl
    rw [ev_ifS t, if_pos rfl, ev_seq s2, s3]
  | some q =>
    rw [h] at g
    have t : ((gOr (gB (gBin dIsN (gBin dIxY (gVar 4) (gVar 11)) (gC .non))) (gB (gBin dLtD (gVar 12) (gBin dIxY (gVar 4) (gVar 11)))))) [some (net (n : Int) es), some (.int (s : Int)), some (.bl arcs), some (esD es), some (lsD (prc es) L), some (.bl mv), t6, some (.int (psum (prc es) p)), some (.int (p.length : Int)), some (di (isN p)), some (.int (k : Int)), some (.int (v : Int)), some (lbD (prc es) (p ++ [k]))] = .ok (ltP (prc es) (p ++ [k]) q) := (or_e (b_e ((bin_e g rfl).trans isn_lab)) (b_e ((bin_e rfl g).trans lt_lab))).trans rfl
    rw [ev_ifS t]
    dsimp only
    cases c : ltP (prc es) (p ++ [k]) q with
    | true => rw [if_pos rfl, if_pos rfl, ev_seq s2, s3]
    | false =>
      rw [if_neg (by decide), if_neg (by decide)]
      rfl
theorem e_for (hp : p.length ≤ 1000000) : ∀ (r : List (Nat × Nat)) (z : Lbs × Bool) (t10 t11 t12 : Option DV), (∀ kv ∈ r, kv.1 < es.length ∧ kv.2 < z.1.length) → ∃ u10 u11 u12 : Option DV, forG (gtTup [10, 11]) eB (r.map kvD) [some (net (n : Int) es), some (.int (s : Int)), some (.bl arcs), some (esD es), some (lsD (prc es) z.1), some (.bl z.2), t6, some (.int (psum (prc es) p)), some (.int (p.length : Int)), some (di (isN p)), t10, t11, t12] = .nx [some (net (n : Int) es), some (.int (s : Int)), some (.bl arcs), some (esD es), some (lsD (prc es) (rfold (prc es) p r z).1), some (.bl (rfold (prc es) p r z).2), t6, some (.int (psum (prc es) p)), some (.int (p.length : Int)), some (di (isN p)), u10, u11, u12]
  | [], z, t10, t11, t12, _ => ⟨t10, t11, t12, rfl⟩
  | kv :: r, z, t10, t11, t12, h => by
    obtain ⟨h1, h2⟩ := h kv List.mem_cons_self
    have e := e_turn (n := n) (s := s) (es := es) (arcs := arcs) (L := z.1) (mv := z.2) (p := p) (t6 := t6) (t12 := t12) (k := kv.1) (v := kv.2) h1 h2 hp
    obtain ⟨u10, u11, u12, ih⟩ := e_for hp r (rlx (prc es) z (p ++ [kv.1]) kv.2) (some (.int (kv.1 : Int))) (some (.int (kv.2 : Int))) (some (lbD (prc es) (p ++ [kv.1]))) fun x hx => by
      rw [rlx_len]
      exact h x (List.mem_cons_of_mem _ hx)
    refine ⟨u10, u11, u12, ?_⟩
    unfold rfold
    rw [List.map_cons, forG_cons rfl e]
    exact ih
def vB : GS := (gIfS (gB (gBin dNotN (gBin dIxY (gVar 4) (gVar 6)) (gC .non))) (gSeq (gAsg (gPure (gBin dIxY (gVar 4) (gVar 6))) (gtTup [7, 8, 9])) (gFor (gSeqI (gCB m_steps_from (aCons (gVar 0) (aCons (gVar 6) (aCons (gVar 2) aNil))))) (gtTup [10, 11]) (gSeq (gAsg (gPure (gYgT (eTup (aCons (gFlat (gBin dAdd (gVar 7) (gBin dIx (gBin dIx (gVar 3) (gVar 10)) (gC (.int 2))))) (aCons (gFlat (gBin dAdd (gVar 8) (gC (.int 1)))) (aCons (gYg (gSnoc (gVar 9) (gFlat (gVar 10)))) aNil)))))) (gtName 12)) (gIfS (gOr (gB (gBin dIsN (gBin dIxY (gVar 4) (gVar 11)) (gC .non))) (gB (gBin dLtD (gVar 12) (gBin dIxY (gVar 4) (gVar 11))))) (gSeq (gSetI 4 (gVar 11) (gPure (gVar 12))) (gAsg (gPure (gC (.bl true))) (gtName 5))) gNext)))) gNext)
def Hyp (n s : Nat) (es : List Ed) : Prop := es.length ≤ 1000 ∧ (∀ e ∈ es, Ge (n : Int) e) ∧ s < n ∧ n ≤ 900
theorem v_turn {u : Nat} (h : Hyp n s es) (hu : u < n) (hl : L.length = n) (hb : ∀ v p, lv L v = some p → p.length ≤ 1000000) : ∃ u7 u8 u9 u10 u11 u12 : Option DV, vB [some (net (n : Int) es), some (.int (s : Int)), some (.bl arcs), some (esD es), some (lsD (prc es) L), some (.bl mv), some (.int ((0 : Int) + (u : Int))), t7, t8, t9, t10, t11, t12] = .nx [some (net (n : Int) es), some (.int (s : Int)), some (.bl arcs), some (esD es), some (lsD (prc es) (rvert (prc es) (stp arcs es) (L, mv) u).1), some (.bl (rvert (prc es) (stp arcs es) (L, mv) u).2), some (.int ((0 : Int) + (u : Int))), u7, u8, u9, u10, u11, u12] := by
  have g : (gBin dIxY (gVar 4) (gVar 6)) [some (net (n : Int) es), some (.int (s : Int)), some (.bl arcs), some (esD es), some (lsD (prc es) L), some (.bl mv), some (.int ((0 : Int) + (u : Int))), t7, t8, t9, t10, t11, t12] = .ok (labD (prc es) (lv L u)) := (bin_e rfl rfl).trans (ls_ixY (by omega) (by omega))
  have t : ((gB (gBin dNotN (gBin dIxY (gVar 4) (gVar 6)) (gC .non)))) [some (net (n : Int) es), some (.int (s : Int)), some (.bl arcs), some (esD es), some (lsD (prc es) L), some (.bl mv), some (.int ((0 : Int) + (u : Int))), t7, t8, t9, t10, t11, t12] = .ok (lv L u).isSome := b_e ((bin_e g rfl).trans notn_lab)
  unfold vB rvert
  rw [ev_ifS t]
  dsimp only
  cases c : lv L u with
  | none => exact ⟨_, _, _, _, _, _, rfl⟩
  | some p =>
    rw [c] at g
    rw [if_pos (show (some p).isSome = true from rfl)]
    have s1 : (gAsg (gPure (gBin dIxY (gVar 4) (gVar 6))) (gtTup [7, 8, 9])) [some (net (n : Int) es), some (.int (s : Int)), some (.bl arcs), some (esD es), some (lsD (prc es) L), some (.bl mv), some (.int ((0 : Int) + (u : Int))), t7, t8, t9, t10, t11, t12] = .nx [some (net (n : Int) es), some (.int (s : Int)), some (.bl arcs), some (esD es), some (lsD (prc es) L), some (.bl mv), some (.int ((0 : Int) + (u : Int))), some (.int (psum (prc es) p)), some (.int (p.length : Int)), some (di (isN p)), t10, t11, t12] := by
      unfold gAsg
      rw [ev_pure, g]
      rfl
    have e : (0 : Int) + (u : Int) = (u : Int) := Int.zero_add _
    have si : (gSeqI (gCB m_steps_from (aCons (gVar 0) (aCons (gVar 6) (aCons (gVar 2) aNil))))) [some (net (n : Int) es), some (.int (s : Int)), some (.bl arcs), some (esD es), some (lsD (prc es) L), some (.bl mv), some (.int ((0 : Int) + (u : Int))), some (.int (psum (prc es) p)), some (.int (p.length : Int)), some (di (isN p)), t10, t11, t12] = .ok ((stp arcs es u).map kvD) := by
      refine seq_raw ((cb3 rfl rfl rfl).trans ?_)
      rw [e]
      exact steps_ok h.1 (by omega) h.2.1
    obtain ⟨u10, u11, u12, f⟩ := e_for (n := n) (s := s) (es := es) (arcs := arcs) (p := p) (t6 := some (.int ((0 : Int) + (u : Int)))) (hb u p c) (stp arcs es u) (L, mv) t10 t11 t12 fun kv hk => by
      rw [hl]
      exact ⟨((stp_iff (k := kv.1) (v := kv.2) h.2.1).mp hk).1, stp_ok h.2.1 u kv hu hk⟩
    refine ⟨some (.int (psum (prc es) p)), some (.int (p.length : Int)), some (di (isN p)), u10, u11, u12, ?_⟩
    rw [ev_seq s1]
    exact ev_for si f
theorem v_for (h : Hyp n s es) : ∀ (us : List Nat) (z : Lbs × Bool) (B : Nat) (t6 t7 t8 t9 t10 t11 t12 : Option DV), z.1.length = n → (∀ u ∈ us, u < n) → (∀ v p, lv z.1 v = some p → p.length ≤ B) → B + us.length ≤ 1000000 → (∃ u6 u7 u8 u9 u10 u11 u12 : Option DV, forG (gtName 6) vB (us.map fun u : Nat => DV.int ((0 : Int) + (u : Int))) [some (net (n : Int) es), some (.int (s : Int)), some (.bl arcs), some (esD es), some (lsD (prc es) z.1), some (.bl z.2), t6, t7, t8, t9, t10, t11, t12] = .nx [some (net (n : Int) es), some (.int (s : Int)), some (.bl arcs), some (esD es), some (lsD (prc es) (rsweep (prc es) (stp arcs es) us z).1), some (.bl (rsweep (prc es) (stp arcs es) us z).2), u6, u7, u8, u9, u10, u11, u12]) ∧ ∀ v p, lv (rsweep (prc es) (stp arcs es) us z).1 v = some p → p.length ≤ B + us.length
  | [], z, B, t6, t7, t8, t9, t10, t11, t12, _, _, hb, _ => ⟨⟨t6, t7, t8, t9, t10, t11, t12, rfl⟩, fun v p h => hb v p h⟩
  | u :: us, z, B, t6, t7, t8, t9, t10, t11, t12, hl, hu, hb, hB => by
    have hu0 := hu u List.mem_cons_self
    rw [List.length_cons] at hB
    obtain ⟨u7, u8, u9, u10, u11, u12, e⟩ := v_turn (arcs := arcs) (mv := z.2) (t7 := t7) (t8 := t8) (t9 := t9) (t10 := t10) (t11 := t11) (t12 := t12) h hu0 hl fun v p q => by have := hb v p q; omega
    have b2 : All (fun _ p => p.length ≤ B + 1) (rvert (prc es) (stp arcs es) z u).1 := rvert_all (P := fun _ p => p.length ≤ B + 1) (stp_ok h.2.1) hl hu0 (fun v p q => by have := hb v p q; omega) fun p q kv _ => by
      have := hb u p q
      rw [List.length_append]
      show p.length + 1 ≤ _
      omega
    obtain ⟨⟨u6', u7', u8', u9', u10', u11', u12', f⟩, b3⟩ := v_for h us (rvert (prc es) (stp arcs es) z u) (B + 1) (some (.int ((0 : Int) + (u : Int)))) u7 u8 u9 u10 u11 u12 (by rw [rvert_len, hl]) (fun x hx => hu x (List.mem_cons_of_mem _ hx)) b2 (by omega)
    refine ⟨⟨u6', u7', u8', u9', u10', u11', u12', ?_⟩, fun v p q => ?_⟩
    · unfold rsweep
      rw [List.map_cons, forG_cons rfl e]
      exact f
    · unfold rsweep at q
      have := b3 v p q
      rw [List.length_cons]
      omega
def wB : GS := (gSeq (gAsg (gPure (gC (.bl false))) (gtName 5)) (gFor (gRng1 (aCons (gNX (gMeth "Network" "size" m_Network_size (gVar 0) aNil)) aNil)) (gtName 6) (gIfS (gB (gBin dNotN (gBin dIxY (gVar 4) (gVar 6)) (gC .non))) (gSeq (gAsg (gPure (gBin dIxY (gVar 4) (gVar 6))) (gtTup [7, 8, 9])) (gFor (gSeqI (gCB m_steps_from (aCons (gVar 0) (aCons (gVar 6) (aCons (gVar 2) aNil))))) (gtTup [10, 11]) (gSeq (gAsg (gPure (gYgT (eTup (aCons (gFlat (gBin dAdd (gVar 7) (gBin dIx (gBin dIx (gVar 3) (gVar 10)) (gC (.int 2))))) (aCons (gFlat (gBin dAdd (gVar 8) (gC (.int 1)))) (aCons (gYg (gSnoc (gVar 9) (gFlat (gVar 10)))) aNil)))))) (gtName 12)) (gIfS (gOr (gB (gBin dIsN (gBin dIxY (gVar 4) (gVar 11)) (gC .non))) (gB (gBin dLtD (gVar 12) (gBin dIxY (gVar 4) (gVar 11))))) (gSeq (gSetI 4 (gVar 11) (gPure (gVar 12))) (gAsg (gPure (gC (.bl true))) (gtName 5))) gNext)))) gNext)))
theorem w_turn (h : Hyp n s es) {B : Nat} (hl : L.length = n) (hb : ∀ v p, lv L v = some p → p.length ≤ B) (hB : B ≤ 900000) : (∃ u6 u7 u8 u9 u10 u11 u12 : Option DV, wB [some (net (n : Int) es), some (.int (s : Int)), some (.bl arcs), some (esD es), some (lsD (prc es) L), some (.bl mv), t6, t7, t8, t9, t10, t11, t12] = .nx [some (net (n : Int) es), some (.int (s : Int)), some (.bl arcs), some (esD es), some (lsD (prc es) (sweep (prc es) (stp arcs es) n L).1), some (.bl (sweep (prc es) (stp arcs es) n L).2), u6, u7, u8, u9, u10, u11, u12]) ∧ ∀ v p, lv (sweep (prc es) (stp arcs es) n L).1 v = some p → p.length ≤ B + n := by
  have h4 := h.2.2.2
  have rl : (List.range n).length = n := List.length_range
  obtain ⟨⟨u6, u7, u8, u9, u10, u11, u12, f⟩, b⟩ := v_for (arcs := arcs) h (List.range n) (L, false) B t6 t7 t8 t9 t10 t11 t12 hl (fun u hu => List.mem_range.mp hu) hb (by rw [rl]; omega)
  refine ⟨⟨u6, u7, u8, u9, u10, u11, u12, ?_⟩, fun v p q => by have := b v p q; rw [rl] at this; exact this⟩
  have s1 : (gAsg (gPure (gC (.bl false))) (gtName 5)) [some (net (n : Int) es), some (.int (s : Int)), some (.bl arcs), some (esD es), some (lsD (prc es) L), some (.bl mv), t6, t7, t8, t9, t10, t11, t12] = .nx [some (net (n : Int) es), some (.int (s : Int)), some (.bl arcs), some (esD es), some (lsD (prc es) L), some (.bl false), t6, t7, t8, t9, t10, t11, t12] := rfl
  unfold wB
  rw [ev_seq s1]
  exact ev_for (rng1_e (n := n) (nx_e ((meth_e rfl (by decide) rfl).trans size_ok)) rfl (by omega)) f
theorem w_loop (h : Hyp n s es) : ∀ (j r : Nat) (t6 t7 t8 t9 t10 t11 t12 : Option DV), r + j = n → (∀ v p, lv (rnd (prc es) (stp arcs es) n s r) v = some p → p.length ≤ r * n) → ∃ (m : Nat) (u6 u7 u8 u9 u10 u11 u12 : Option DV), whileG ((gTru (gVar 5))) wB (j + 2) [some (net (n : Int) es), some (.int (s : Int)), some (.bl arcs), some (esD es), some (lsD (prc es) (rnd (prc es) (stp arcs es) n s r)), some (.bl true), t6, t7, t8, t9, t10, t11, t12] = .nx [some (net (n : Int) es), some (.int (s : Int)), some (.bl arcs), some (esD es), some (lsD (prc es) (rnd (prc es) (stp arcs es) n s m)), some (.bl false), u6, u7, u8, u9, u10, u11, u12] ∧ Opt (prc es) (stp arcs es) s (rnd (prc es) (stp arcs es) n s m)
  | j, r, t6, t7, t8, t9, t10, t11, t12, hj, hb => by
    have h4 := h.2.2.2
    have rn : r * n ≤ 900000 := Nat.le_trans (Nat.mul_le_mul (by omega : r ≤ 900) (Nat.le_refl n)) (by omega)
    obtain ⟨⟨u6, u7, u8, u9, u10, u11, u12, e⟩, b⟩ := w_turn (mv := true) (t6 := t6) (t7 := t7) (t8 := t8) (t9 := t9) (t10 := t10) (t11 := t11) (t12 := t12) (arcs := arcs) h (L := rnd (prc es) (stp arcs es) n s r) rnd_len hb rn
    have w : whileG ((gTru (gVar 5))) wB (j + 1 + 1) [some (net (n : Int) es), some (.int (s : Int)), some (.bl arcs), some (esD es), some (lsD (prc es) (rnd (prc es) (stp arcs es) n s r)), some (.bl true), t6, t7, t8, t9, t10, t11, t12] = whileG ((gTru (gVar 5))) wB (j + 1) [some (net (n : Int) es), some (.int (s : Int)), some (.bl arcs), some (esD es), some (lsD (prc es) (sweep (prc es) (stp arcs es) n (rnd (prc es) (stp arcs es) n s r)).1), some (.bl (sweep (prc es) (stp arcs es) n (rnd (prc es) (stp arcs es) n s r)).2), u6, u7, u8, u9, u10, u11, u12] := wh_nx (tru_b rfl) e
    rw [show j + 2 = j + 1 + 1 from rfl, w]
    cases c : (sweep (prc es) (stp arcs es) n (rnd (prc es) (stp arcs es) n s r)).2 with
    | false =>
      refine ⟨r + 1, u6, u7, u8, u9, u10, u11, u12, wh_no (tru_b rfl), ?_⟩
      have o := stop_opt (stp_ok h.2.1) h.2.2.1 (prc_nn h.2.1) c
      have f : rnd (prc es) (stp arcs es) n s (r + 1) = rnd (prc es) (stp arcs es) n s r := rnd_const c 1
      rw [f]
      exact o
    | true =>
      cases j with
      | zero =>
        exfalso
        have o : Opt (prc es) (stp arcs es) s (rnd (prc es) (stp arcs es) n s r) := rnd_opt (stp_ok h.2.1) h.2.2.1 (prc_nn h.2.1) (by omega)
        rw [opt_still o] at c
        cases c
      | succ j =>
        exact w_loop h j (r + 1) u6 u7 u8 u9 u10 u11 u12 (by omega) fun v p q => by
          have := b v p q
          rw [Nat.add_mul, Nat.one_mul]
          exact this
theorem rep_lab {pr : Nat → Int} {n : Nat} (h : n ≤ 1000) : dRep (.lst [.non]) (.int (n : Int)) = .ok (lsD pr (List.replicate n none)) := by
  unfold dRep lsD
  dsimp only
  rw [if_pos ⟨by rw [Int.toNat_natCast, sz_eq]; show 1 * n ≤ _; omega, by omega, by omega⟩, Int.toNat_natCast]
  congr 2
  induction n with
  | zero => rfl
  | succ n ih =>
    rw [List.replicate_succ, List.flatten_cons, ih (by omega), List.replicate_succ, List.map_cons]
    rfl
theorem labels_ok (h : Hyp n s es) : ∃ L : Lbs, m_told_labels [net (n : Int) es, .int (s : Int), .bl arcs] = .ok (lsD (prc es) L) ∧ L.length = n ∧ Opt (prc es) (stp arcs es) s L := by
  have h4 := h.2.2.2
  have st : startD 13 [net (n : Int) es, .int (s : Int), .bl arcs] = [some (net (n : Int) es), some (.int (s : Int)), some (.bl arcs), none, none, none, none, none, none, none, none, none, none] := rfl
  have s0 : (gAsg (gPure (gNX (gMeth "Network" "edges" m_Network_edges (gVar 0) aNil))) (gtName 3)) [some (net (n : Int) es), some (.int (s : Int)), some (.bl arcs), none, none, none, none, none, none, none, none, none, none] = .nx [some (net (n : Int) es), some (.int (s : Int)), some (.bl arcs), some (esD es), none, none, none, none, none, none, none, none, none] := set_e (i := 3) (nx_e ((meth_e rfl (by decide) rfl).trans edges_ok))
  have s1 : (gAsg (gPure (gBin dRep (eLst (aCons (gFlat (gC .non)) aNil)) (gNX (gMeth "Network" "size" m_Network_size (gVar 0) aNil)))) (gtName 4)) [some (net (n : Int) es), some (.int (s : Int)), some (.bl arcs), some (esD es), none, none, none, none, none, none, none, none, none] = .nx [some (net (n : Int) es), some (.int (s : Int)), some (.bl arcs), some (esD es), some (lsD (prc es) (List.replicate n none)), none, none, none, none, none, none, none, none] := set_e (i := 4) ((bin_e (x := .lst [.non]) rfl (nx_e ((meth_e rfl (by decide) rfl).trans size_ok))).trans (rep_lab (by omega)))
  have s2 : (gSetI 4 (gVar 1) (gPure (gYgT (eTup (aCons (gFlat (gC (.int 0))) (aCons (gFlat (gC (.int 0))) (aCons (gYg (eLst aNil)) aNil))))))) [some (net (n : Int) es), some (.int (s : Int)), some (.bl arcs), some (esD es), some (lsD (prc es) (List.replicate n none)), none, none, none, none, none, none, none, none] = .nx [some (net (n : Int) es), some (.int (s : Int)), some (.bl arcs), some (esD es), some (lsD (prc es) (start0 n s)), none, none, none, none, none, none, none, none] := setI_e (y := lbD (prc es) []) rfl rfl rfl (ls_set (by rw [List.length_replicate]; exact h.2.2.1))
  have s3 : (gAsg (gPure (gC (.bl true))) (gtName 5)) [some (net (n : Int) es), some (.int (s : Int)), some (.bl arcs), some (esD es), some (lsD (prc es) (start0 n s)), none, none, none, none, none, none, none, none] = .nx [some (net (n : Int) es), some (.int (s : Int)), some (.bl arcs), some (esD es), some (lsD (prc es) (start0 n s)), some (.bl true), none, none, none, none, none, none, none] := rfl
  obtain ⟨m, u6, u7, u8, u9, u10, u11, u12, w, op⟩ := w_loop (arcs := arcs) h n 0 none none none none none none none (by omega) fun v p q => by
    have q : lv (start0 n s) v = some p := q
    rw [start_lv h.2.2.1] at q
    by_cases c : v = s
    · rw [if_pos c] at q
      cases q
      simp
    · rw [if_neg c] at q
      cases q
  refine ⟨_, ?_, rnd_len, op⟩
  have s4 : (gWhile (gTru (gVar 5)) wB) [some (net (n : Int) es), some (.int (s : Int)), some (.bl arcs), some (esD es), some (lsD (prc es) (start0 n s)), some (.bl true), none, none, none, none, none, none, none] = _ := gWhile_of (n := n + 2) (Nat.le_trans (by omega : n + 2 ≤ 1002) (by decide)) w (fun z => by cases z)
  unfold m_told_labels runB b_told_labels
  rw [st, ev_seq s0, ev_seq s1, ev_seq s2, ev_seq s3]
  show finB (gSeq (gWhile _ wB) _ _) = _
  rw [ev_seq s4]
  rfl
end
end M
end

/-! text P5 -/
section
set_option maxRecDepth 100000
set_option maxHeartbeats 4000000
namespace M
open PySem DL
theorem for_any {α : Type} {g : α → DV} {tg : GG} {b : GS} {I : EnvD → Prop} {p : α → Bool} : ∀ {xs : List α} {ρ : EnvD}, I ρ → (∀ x ∈ xs, ∀ ρ, I ρ → ∃ ρ1, tg (g x) ρ = .ok ρ1 ∧ (p x = false → ∃ ρ2, b ρ1 = .nx ρ2 ∧ I ρ2) ∧ (p x = true → ∃ ρ2, b ρ1 = .rt (.bl false) ρ2)) →
    (xs.any p = false → ∃ ρ2, forG tg b (xs.map g) ρ = .nx ρ2 ∧ I ρ2) ∧ (xs.any p = true → ∃ ρ2, forG tg b (xs.map g) ρ = .rt (.bl false) ρ2)
  | [], ρ, hi, _ => ⟨fun _ => ⟨ρ, rfl, hi⟩, fun h => by simp at h⟩
  | x :: xs, ρ, hi, h => by
    obtain ⟨ρ1, e1, h1, h2⟩ := h x List.mem_cons_self ρ hi
    rw [List.any_cons, List.map_cons]
    cases hp : p x with
    | true =>
      obtain ⟨ρ2, e2⟩ := h2 hp
      refine ⟨fun z => (by simp at z), fun _ => ⟨ρ2, forG_consR e1 e2⟩⟩
    | false =>
      obtain ⟨ρ2, e2, i2⟩ := h1 hp
      have ih := for_any (xs := xs) i2 fun y hy => h y (List.mem_cons_of_mem _ hy)
      rw [forG_cons e1 e2, Bool.false_or]
      exact ih
def oD : Option Int → DV
  | none => .non
  | some i => .int i
def nsD (N : List (Option Int)) : DV := .lst (N.map oD)
def nb (N : List (Option Int)) (v : Nat) : Option Int := N.getD v none
def paD : Option (List Nat) → DV
  | none => .non
  | some p => di (isN p)
theorem flats_i : ∀ xs : List Int, (flats (xs.map DV.int)).isSome = true
  | [] => rfl
  | x :: xs => by
    have ih := flats_i xs
    obtain ⟨ws, h⟩ := Option.isSome_iff_exists.mp ih
    show (flats (DV.int x :: xs.map DV.int)).isSome = true
    unfold flats
    rw [h]
    rfl
theorem thaw_pa (x : Option (List Nat)) : thawD (paD x) = .ok (paD x) := by
  cases x with
  | none => rfl
  | some p =>
    show (if (flats ((isN p).map DV.int)).isSome = true then _ else _) = _
    rw [if_pos (flats_i _)]
    try rfl
theorem immL_i {g : GE} {ρ : EnvD} {i : Int} (h : g ρ = .ok (.int i)) : gImmL g ρ = .ok (.int i) := by
  unfold gImmL
  rw [h]
  rfl
/-- the prices of labels -/
def lpr (pr : Nat → Int) (L : Lbs) : List (Option Int) := L.map fun x => x.map (psum pr)
theorem nb_lpr {pr : Nat → Int} {L : Lbs} {v : Nat} : nb (lpr pr L) v = (lv L v).map (psum pr) := by
  unfold nb lpr lv
  rw [List.getD_eq_getElem?_getD, List.getD_eq_getElem?_getD, List.getElem?_map]
  cases L[v]? <;> rfl
theorem ns_ix {N : List (Option Int)} {v : Nat} {z : Int} (e : z = (v : Int)) (h : v < N.length) : dIx (nsD N) (.int z) = .ok (oD (nb N v)) := by
  unfold nb
  rw [getD_lt h]
  exact dIx_g (g := oD) v e h
theorem isn_o {x : Option Int} : dIsN (oD x) .non = .ok (.bl x.isNone) := by cases x <;> rfl
theorem notn_o {x : Option Int} : dNotN (oD x) .non = .ok (.bl x.isSome) := by cases x <;> rfl
theorem if_t {t : GT} {a b : GE} {ρ : EnvD} (h : t ρ = .ok true) : gIf t a b ρ = a ρ := by
  rw [ev_if, h]
  rfl
theorem if_f {t : GT} {a b : GE} {ρ : EnvD} (h : t ρ = .ok false) : gIf t a b ρ = b ρ := by
  rw [ev_if, h]
  rfl
theorem or_t {s t : GT} {ρ : EnvD} (h : s ρ = .ok true) : gOr s t ρ = .ok true := by
  unfold gOr
  rw [h]
  rfl
theorem or_f {s t : GT} {ρ : EnvD} (h : s ρ = .ok false) : gOr s t ρ = t ρ := by
  unfold gOr
  rw [h]
  rfl
theorem ne_ie {a b : GE} {ρ : EnvD} {u v : Int} (h : a ρ = .ok (.int u)) (h2 : b ρ = .ok (.int v)) : gB (gBin dNe a b) ρ = .ok (!decide (u = v)) := b_e ((bin_e h h2).trans dNe_i)
theorem vert_e {n v : Nat} {es : List Ed} {ρ : EnvD} {i j : Nat} (h0 : lk ρ i = .ok (net (n : Int) es)) (h1 : lk ρ j = .ok (.int (v : Int))) (hv : v < n) : (gDrop (gPure (gMeth "Network" "check_vertex" m_Network_check_vertex (gVar i) (aCons (gVar j) aNil)))) ρ = .nx ρ := drop_e (d := .non) ((meth_e h0 (by decide) (a1_e h1)).trans (vert_ok (by omega) (by omega)))
section
variable {n s g : Nat} {es : List Ed} {arcs : Bool}
theorem least_of {L : Lbs} (h : Hyp n s es) (hL : m_told_labels [net (n : Int) es, .int (s : Int), .bl arcs] = .ok (lsD (prc es) L)) (hl : L.length = n) : m_least_prices [net (n : Int) es, .int (s : Int), .bl arcs] = .ok (nsD (lpr (prc es) L)) := by
  have h4 := h.2.2.2
  have st : startD 4 [net (n : Int) es, .int (s : Int), .bl arcs] = [some (net (n : Int) es), some (.int (s : Int)), some (.bl arcs), none] := rfl
  have key : (gLc (gSeqI (gCB m_told_labels (aCons (gVar 0) (aCons (gVar 1) (aCons (gVar 2) aNil))))) (gtName 3) gYes (gIf (gB (gBin dIsN (gVar 3) (gC .non))) (gC .non) (gBin dIx (gVar 3) (gC (.int 0)))) [3]) [some (net (n : Int) es), some (.int (s : Int)), some (.bl arcs), none] = .ok (nsD (lpr (prc es) L)) := by
    refine (ev_lc (seq_e (f := labD (prc es)) (xs := L) ((cb3 rfl rfl rfl).trans hL)) (lenG (by omega)) (lcLoop_gen (f := fun x => oD (x.map (psum (prc es)))) fun x _ => ?_)).trans ?_
    · refine lc_yes (ρ1 := [some (net (n : Int) es), some (.int (s : Int)), some (.bl arcs), some (labD (prc es) x)]) rfl rfl ?_
      have t : ((gB (gBin dIsN (gVar 3) (gC .non)))) [some (net (n : Int) es), some (.int (s : Int)), some (.bl arcs), some (labD (prc es) x)] = .ok x.isNone := b_e ((bin_e rfl rfl).trans isn_lab)
      cases x with
      | none => exact (if_t t).trans rfl
      | some p => exact (if_f t).trans rfl
    · unfold nsD lpr
      rw [List.map_map]
      rfl
  unfold m_least_prices runB b_least_prices
  rw [st, ev_seq (vert_e rfl rfl h.2.2.1), ret_e key]
  rfl
theorem path_of {L : Lbs} (h : Hyp n s es) (hg : g < n) (hL : m_told_labels [net (n : Int) es, .int (s : Int), .bl arcs] = .ok (lsD (prc es) L)) (hl : L.length = n) : m_told_path [net (n : Int) es, .int (s : Int), .int (g : Int), .bl arcs] = .ok (paD (lv L g)) := by
  have st : startD 5 [net (n : Int) es, .int (s : Int), .int (g : Int), .bl arcs] = [some (net (n : Int) es), some (.int (s : Int)), some (.int (g : Int)), some (.bl arcs), none] := rfl
  have s2 : (gAsg (gPure (gBin dIx (gYg (gCB m_told_labels (aCons (gVar 0) (aCons (gVar 1) (aCons (gVar 3) aNil))))) (gVar 2))) (gtName 4)) [some (net (n : Int) es), some (.int (s : Int)), some (.int (g : Int)), some (.bl arcs), none] = .nx [some (net (n : Int) es), some (.int (s : Int)), some (.int (g : Int)), some (.bl arcs), some (labD (prc es) (lv L g))] := set_e (i := 4) ((bin_e (yg_e ((cb3 rfl rfl rfl).trans hL)) rfl).trans (ls_ix rfl (by omega)))
  have key : ∀ x, ((gIf (gB (gBin dIsN (gVar 4) (gC .non))) (gFlat (gC .non)) (gBin dIx (gVar 4) (gC (.int 2))))) [some (net (n : Int) es), some (.int (s : Int)), some (.int (g : Int)), some (.bl arcs), some (labD (prc es) x)] = .ok (paD x) := fun x => by
    have t : ((gB (gBin dIsN (gVar 4) (gC .non)))) [some (net (n : Int) es), some (.int (s : Int)), some (.int (g : Int)), some (.bl arcs), some (labD (prc es) x)] = .ok x.isNone := b_e ((bin_e rfl rfl).trans isn_lab)
    cases x with
    | none => exact (if_t t).trans rfl
    | some p => exact (if_f t).trans rfl
  unfold m_told_path thawF runB b_told_path
  rw [st, ev_seq (vert_e rfl rfl h.2.2.1), ev_seq (vert_e rfl rfl hg), ev_seq s2, ret_e (key _)]
  exact thaw_pa _
variable {N : List (Option Int)}
def badK (pr : Nat → Int) (N : List (Option Int)) (u : Nat) (kv : Nat × Nat) : Bool := match nb N u with
  | none => false
  | some a => match nb N kv.2 with
    | none => true
    | some b => decide (a + pr kv.1 < b)
def st0 (N : List (Option Int)) (s : Nat) : Bool := match nb N s with
  | none => false
  | some a => decide (a ≤ 0)
def isBd (pr : Nat → Int) (st : Stp) (n s : Nat) (N : List (Option Int)) : Bool := decide (N.length = n) && (st0 N s && !((List.range n).any fun u => (st u).any (badK pr N u)))
def sbB : GS := (gIfS (gOr (gB (gBin dIsN (gBin dIx (gVar 2) (gVar 7)) (gC .non))) (gB (gBin dGt (gBin dIx (gVar 2) (gVar 7)) (gBin dAdd (gImmL (gBin dIx (gVar 2) (gVar 5))) (gBin dIx (gBin dIx (gVar 4) (gVar 6)) (gC (.int 2))))))) (gRet (gPure (gC (.bl false)))) gNext)
def vbB : GS := (gIfS (gB (gBin dNotN (gBin dIx (gVar 2) (gVar 5)) (gC .non))) (gFor (gSeqI (gCB m_steps_from (aCons (gVar 0) (aCons (gVar 5) (aCons (gVar 3) aNil))))) (gtTup [6, 7]) (gIfS (gOr (gB (gBin dIsN (gBin dIx (gVar 2) (gVar 7)) (gC .non))) (gB (gBin dGt (gBin dIx (gVar 2) (gVar 7)) (gBin dAdd (gImmL (gBin dIx (gVar 2) (gVar 5))) (gBin dIx (gBin dIx (gVar 4) (gVar 6)) (gC (.int 2))))))) (gRet (gPure (gC (.bl false)))) gNext)) gNext)
theorem sb_turn {u : Nat} {kv : Nat × Nat} {a : Int} (hl : N.length = n) (hu : u < n) (h1 : kv.1 < es.length) (h2 : kv.2 < n) (ha : nb N u = some a) : ((gOr (gB (gBin dIsN (gBin dIx (gVar 2) (gVar 7)) (gC .non))) (gB (gBin dGt (gBin dIx (gVar 2) (gVar 7)) (gBin dAdd (gImmL (gBin dIx (gVar 2) (gVar 5))) (gBin dIx (gBin dIx (gVar 4) (gVar 6)) (gC (.int 2)))))))) [some (net (n : Int) es), some (.int (s : Int)), some (nsD N), some (.bl arcs), some (esD es), some (.int ((0 : Int) + (u : Int))), some (.int (kv.1 : Int)), some (.int (kv.2 : Int))] = .ok (badK (prc es) N u kv) := by
  have gu : (gBin dIx (gVar 2) (gVar 5)) [some (net (n : Int) es), some (.int (s : Int)), some (nsD N), some (.bl arcs), some (esD es), some (.int ((0 : Int) + (u : Int))), some (.int (kv.1 : Int)), some (.int (kv.2 : Int))] = .ok (.int a) := (bin_e rfl rfl).trans ((ns_ix (v := u) (by omega) (by omega)).trans (by rw [ha]; rfl))
  have gv : (gBin dIx (gVar 2) (gVar 7)) [some (net (n : Int) es), some (.int (s : Int)), some (nsD N), some (.bl arcs), some (esD es), some (.int ((0 : Int) + (u : Int))), some (.int (kv.1 : Int)), some (.int (kv.2 : Int))] = .ok (oD (nb N kv.2)) := (bin_e rfl rfl).trans (ns_ix (v := kv.2) rfl (by omega))
  have ge : (gBin dIx (gBin dIx (gVar 4) (gVar 6)) (gC (.int 2))) [some (net (n : Int) es), some (.int (s : Int)), some (nsD N), some (.bl arcs), some (esD es), some (.int ((0 : Int) + (u : Int))), some (.int (kv.1 : Int)), some (.int (kv.2 : Int))] = .ok (.int (prc es kv.1)) := (bin_e ((bin_e rfl rfl).trans (ix_at rfl h1)) rfl).trans ix3_2
  unfold badK
  rw [ha]
  dsimp only
  cases c : nb N kv.2 with
  | none =>
    rw [c] at gv
    exact or_t (b_e ((bin_e gv rfl).trans isn_o))
  | some b =>
    rw [c] at gv
    exact (or_f (b_e ((bin_e gv rfl).trans isn_o))).trans (b_e ((bin_e gv ((bin_e (immL_i gu) ge).trans dAdd_i)).trans dGt_i))
def BI (n s : Nat) (es : List Ed) (arcs : Bool) (N : List (Option Int)) (u : Int) (ρ : EnvD) : Prop := ∃ t6 t7 : Option DV, ρ = [some (net (n : Int) es), some (.int (s : Int)), some (nsD N), some (.bl arcs), some (esD es), some (.int u), t6, t7]
theorem vb_turn {u : Nat} {t6 t7 : Option DV} (h : Hyp n s es) (hl : N.length = n) (hu : u < n) : ((stp arcs es u).any (badK (prc es) N u) = false → ∃ ρ, vbB [some (net (n : Int) es), some (.int (s : Int)), some (nsD N), some (.bl arcs), some (esD es), some (.int ((0 : Int) + (u : Int))), t6, t7] = .nx ρ ∧ BI n s es arcs N ((0 : Int) + (u : Int)) ρ) ∧ ((stp arcs es u).any (badK (prc es) N u) = true → ∃ ρ, vbB [some (net (n : Int) es), some (.int (s : Int)), some (nsD N), some (.bl arcs), some (esD es), some (.int ((0 : Int) + (u : Int))), t6, t7] = .rt (.bl false) ρ) := by
  have gu : (gBin dIx (gVar 2) (gVar 5)) [some (net (n : Int) es), some (.int (s : Int)), some (nsD N), some (.bl arcs), some (esD es), some (.int ((0 : Int) + (u : Int))), t6, t7] = .ok (oD (nb N u)) := (bin_e rfl rfl).trans (ns_ix (v := u) (by omega) (by omega))
  have t : ((gB (gBin dNotN (gBin dIx (gVar 2) (gVar 5)) (gC .non)))) [some (net (n : Int) es), some (.int (s : Int)), some (nsD N), some (.bl arcs), some (esD es), some (.int ((0 : Int) + (u : Int))), t6, t7] = .ok (nb N u).isSome := b_e ((bin_e gu rfl).trans notn_o)
  unfold vbB
  rw [ev_ifS t]
  cases c : nb N u with
  | none =>
    have f : (stp arcs es u).any (badK (prc es) N u) = false := List.any_eq_false.mpr fun kv _ => by
      unfold badK
      rw [c]
      exact Bool.false_ne_true
    rw [f, if_neg (by decide)]
    exact ⟨fun _ => ⟨_, rfl, t6, t7, rfl⟩, fun z => by cases z⟩
  | some a =>
    rw [if_pos (show (some a).isSome = true from rfl)]
    have e : (0 : Int) + (u : Int) = (u : Int) := Int.zero_add _
    have si : (gSeqI (gCB m_steps_from (aCons (gVar 0) (aCons (gVar 5) (aCons (gVar 3) aNil))))) [some (net (n : Int) es), some (.int (s : Int)), some (nsD N), some (.bl arcs), some (esD es), some (.int ((0 : Int) + (u : Int))), t6, t7] = .ok ((stp arcs es u).map kvD) := by
      refine seq_raw ((cb3 rfl rfl rfl).trans ?_)
      rw [e]
      exact steps_ok h.1 (by omega) h.2.1
    obtain ⟨f1, f2⟩ := for_any (g := kvD) (tg := gtTup [6, 7]) (b := sbB) (I := BI n s es arcs N ((0 : Int) + (u : Int))) (p := badK (prc es) N u) (xs := stp arcs es u) (ρ := [some (net (n : Int) es), some (.int (s : Int)), some (nsD N), some (.bl arcs), some (esD es), some (.int ((0 : Int) + (u : Int))), t6, t7]) ⟨t6, t7, rfl⟩ fun kv hk ρ hi => by
      obtain ⟨t6, t7, rfl⟩ := hi
      have m := (stp_iff (k := kv.1) (v := kv.2) h.2.1).mp hk
      have q := sb_turn (s := s) (arcs := arcs) hl hu m.1 (stp_ok h.2.1 u kv hu hk) c
      refine ⟨[some (net (n : Int) es), some (.int (s : Int)), some (nsD N), some (.bl arcs), some (esD es), some (.int ((0 : Int) + (u : Int))), some (.int (kv.1 : Int)), some (.int (kv.2 : Int))], rfl, fun z => ⟨[some (net (n : Int) es), some (.int (s : Int)), some (nsD N), some (.bl arcs), some (esD es), some (.int ((0 : Int) + (u : Int))), some (.int (kv.1 : Int)), some (.int (kv.2 : Int))], ?_, some (.int (kv.1 : Int)), some (.int (kv.2 : Int)), rfl⟩, fun z => ⟨[some (net (n : Int) es), some (.int (s : Int)), some (nsD N), some (.bl arcs), some (esD es), some (.int ((0 : Int) + (u : Int))), some (.int (kv.1 : Int)), some (.int (kv.2 : Int))], ?_⟩⟩
      · unfold sbB
        rw [ev_ifS q, z]
        rfl
      · unfold sbB
        rw [ev_ifS q, z]
        rfl
    exact ⟨fun z => by
      obtain ⟨ρ2, k1, k2⟩ := f1 z
      exact ⟨ρ2, ev_for si k1, k2⟩, fun z => by
      obtain ⟨ρ2, k1⟩ := f2 z
      exact ⟨ρ2, ev_forR si k1⟩⟩
theorem bound_ok (h : Hyp n s es) (hl0 : N.length ≤ 1000) : m_is_bound [net (n : Int) es, .int (s : Int), nsD N, .bl arcs] = .ok (.bl (isBd (prc es) (stp arcs es) n s N)) := by
  have h4 := h.2.2.2
  have hs := h.2.2.1
  have st : startD 8 [net (n : Int) es, .int (s : Int), nsD N, .bl arcs] = [some (net (n : Int) es), some (.int (s : Int)), some (nsD N), some (.bl arcs), none, none, none, none] := rfl
  have t0 : ((gB (gBin dNe (gCB dLen (aCons (gVar 2) aNil)) (gNX (gMeth "Network" "size" m_Network_size (gVar 0) aNil))))) [some (net (n : Int) es), some (.int (s : Int)), some (nsD N), some (.bl arcs), none, none, none, none] = .ok (!decide (N.length = n)) := by
    rw [ne_ie (len_e (g := oD) (xs := N) rfl) (nx_e ((meth_e rfl (by decide) rfl).trans size_ok))]
    congr 2
    exact decide_eq_decide.mpr (by omega)
  unfold m_is_bound runB b_is_bound isBd
  rw [st]
  by_cases hl : N.length = n
  · rw [decide_eq_true hl] at t0 ⊢
    have gs : (gBin dIx (gVar 2) (gVar 1)) [some (net (n : Int) es), some (.int (s : Int)), some (nsD N), some (.bl arcs), none, none, none, none] = .ok (oD (nb N s)) := (bin_e rfl rfl).trans (ns_ix (v := s) rfl (by omega))
    have t1 : ((gOr (gB (gBin dNe (gCB dLen (aCons (gVar 2) aNil)) (gNX (gMeth "Network" "size" m_Network_size (gVar 0) aNil)))) (gOr (gB (gBin dIsN (gBin dIx (gVar 2) (gVar 1)) (gC .non))) (gB (gBin dGt (gBin dIx (gVar 2) (gVar 1)) (gC (.int 0))))))) [some (net (n : Int) es), some (.int (s : Int)), some (nsD N), some (.bl arcs), none, none, none, none] = .ok (!st0 N s) := by
      refine (or_f t0).trans ?_
      unfold st0
      cases c : nb N s with
      | none =>
        rw [c] at gs
        exact or_t (b_e ((bin_e gs rfl).trans isn_o))
      | some a =>
        rw [c] at gs
        refine (or_f (b_e ((bin_e gs rfl).trans isn_o))).trans ((b_e ((bin_e gs rfl).trans dGt_i)).trans ?_)
        dsimp only
        by_cases z : a ≤ 0
        · rw [decide_eq_true z, decide_eq_false (by omega)]
          rfl
        · rw [decide_eq_false z, decide_eq_true (by omega)]
          rfl
    cases c : st0 N s with
    | false =>
      rw [c] at t1
      rw [ev_stop t1 (ret_e rfl)]
      rfl
    | true =>
      rw [c] at t1
      have s1 : (gAsg (gPure (gNX (gMeth "Network" "edges" m_Network_edges (gVar 0) aNil))) (gtName 4)) [some (net (n : Int) es), some (.int (s : Int)), some (nsD N), some (.bl arcs), none, none, none, none] = .nx [some (net (n : Int) es), some (.int (s : Int)), some (nsD N), some (.bl arcs), some (esD es), none, none, none] := set_e (i := 4) (nx_e ((meth_e rfl (by decide) rfl).trans edges_ok))
      obtain ⟨f1, f2⟩ := for_any (g := fun u : Nat => DV.int ((0 : Int) + (u : Int))) (tg := gtName 5) (b := vbB) (I := fun ρ => ∃ t5 t6 t7 : Option DV, ρ = [some (net (n : Int) es), some (.int (s : Int)), some (nsD N), some (.bl arcs), some (esD es), t5, t6, t7]) (p := fun u => (stp arcs es u).any (badK (prc es) N u)) (xs := List.range n) (ρ := [some (net (n : Int) es), some (.int (s : Int)), some (nsD N), some (.bl arcs), some (esD es), none, none, none]) ⟨none, none, none, rfl⟩ fun u hu ρ hi => by
        obtain ⟨t5, t6, t7, rfl⟩ := hi
        have q := vb_turn (arcs := arcs) (t6 := t6) (t7 := t7) h hl (List.mem_range.mp hu)
        refine ⟨[some (net (n : Int) es), some (.int (s : Int)), some (nsD N), some (.bl arcs), some (esD es), some (.int ((0 : Int) + (u : Int))), t6, t7], rfl, fun z => ?_, fun z => q.2 z⟩
        obtain ⟨ρ, k1, v6, v7, k2⟩ := q.1 z
        exact ⟨ρ, k1, _, v6, v7, k2⟩
      have it : gRng1 (aCons (gNX (gMeth "Network" "size" m_Network_size (gVar 0) aNil)) aNil) [some (net (n : Int) es), some (.int (s : Int)), some (nsD N), some (.bl arcs), some (esD es), none, none, none] = .ok (rngD 0 n) := rng1_e (n := n) (nx_e ((meth_e rfl (by decide) rfl).trans size_ok)) rfl (by omega)
      rw [ev_skip t1, ev_seq s1]
      show finB (gSeq (gFor _ _ vbB) _ _) = _
      cases c2 : (List.range n).any (fun u => (stp arcs es u).any (badK (prc es) N u)) with
      | true =>
        obtain ⟨ρ, k⟩ := f2 c2
        rw [ev_seqR (ev_forR it k)]
        rfl
      | false =>
        obtain ⟨ρ, k, _⟩ := f1 c2
        rw [ev_seq (ev_for it k)]
        rfl
  · rw [decide_eq_false hl] at t0 ⊢
    rw [ev_stop (or_t t0) (ret_e rfl)]
    rfl
end
end M
end

/-! text P6 -/
section
set_option maxRecDepth 100000
set_option maxHeartbeats 4000000
namespace M
open PySem DL
/-! dicts of steps -/
abbrev kN (sts : List (Nat × Nat)) : List Int := sts.map fun kv => (kv.1 : Int)
abbrev vN (sts : List (Nat × Nat)) : List DV := sts.map fun kv => DV.int (kv.2 : Int)
abbrev wD (sts : List (Nat × Nat)) : DV := .dct ((kN sts).map Sum.inl) (vN sts)
theorem prs_kv : ∀ sts : List (Nat × Nat), prs (sts.map kvD) = some (kN sts, vN sts)
  | [] => rfl
  | kv :: sts => by
    have ih := prs_kv sts
    show prs (.tup [.int (kv.1 : Int), .int (kv.2 : Int)] :: sts.map kvD) = _
    unfold prs
    rw [ih]
    rfl
theorem dict_kv {sts : List (Nat × Nat)} (h : (kN sts).Nodup) : dDict (.lst (sts.map kvD)) = .ok (wD sts) := by
  unfold dDict
  dsimp only
  rw [prs_kv]
  dsimp only
  rw [if_pos h]
def fndK (sts : List (Nat × Nat)) (k : Int) : Option Nat := (sts.find? fun kv => decide ((kv.1 : Int) = k)).map (·.2)
theorem look_kv : ∀ (sts : List (Nat × Nat)) (k : Int), lookD ((kN sts).map Sum.inl) (vN sts) (.inl k) = (fndK sts k).map fun v : Nat => DV.int (v : Int)
  | [], k => rfl
  | kv :: sts, k => by
    have ih := look_kv sts k
    unfold lookD fndK at ih ⊢
    show Option.map _ (List.find? _ (((Sum.inl (kv.1 : Int) : L2.Key) :: (kN sts).map Sum.inl).zip (DV.int (kv.2 : Int) :: vN sts))) = _
    rw [List.zip_cons_cons, List.find?_cons, List.find?_cons]
    by_cases e : (kv.1 : Int) = k
    · rw [show decide ((kv.1 : Int) = k) = true from decide_eq_true e]
      have e2 : decide (((Sum.inl (kv.1 : Int) : L2.Key), DV.int (kv.2 : Int)).1 = Sum.inl k) = true := decide_eq_true (by rw [e])
      rw [e2]
      rfl
    · rw [show decide ((kv.1 : Int) = k) = false from decide_eq_false e]
      have e2 : decide (((Sum.inl (kv.1 : Int) : L2.Key), DV.int (kv.2 : Int)).1 = Sum.inl k) = false := decide_eq_false (fun z => e (Sum.inl.inj z))
      rw [e2]
      exact ih
theorem stp_nd {arcs : Bool} {es : List Ed} {u : Nat} : (kN (stp arcs es u)).Nodup := by
  have key : ∀ p : Nat → Bool, (((List.range es.length).filter p).map fun k => ((k : Nat) : Int)).Nodup := fun p => by
    refine List.pairwise_map.mpr ((List.Pairwise.filter p List.nodup_range).imp fun h e => h (by omega))
  unfold kN stp
  rw [List.map_map]
  cases arcs
  · exact key _
  · exact key _
def nxt (st : Stp) (u : Nat) (k : Int) : Option Nat := fndK (st u) k
theorem nxt_some {arcs : Bool} {es : List Ed} {u v : Nat} {k : Int} (h : nxt (stp arcs es) u k = some v) : ∃ j : Nat, k = (j : Int) ∧ (j, v) ∈ stp arcs es u := by
  unfold nxt fndK at h
  obtain ⟨kv, h1, h2⟩ := Option.map_eq_some_iff.mp h
  have h3 := List.find?_some h1
  have h4 := List.mem_of_find?_eq_some h1
  refine ⟨kv.1, (of_decide_eq_true h3).symm, ?_⟩
  rw [← h2]
  exact h4
theorem nxt_of {arcs : Bool} {es : List Ed} {u v j : Nat} (h : (j, v) ∈ stp arcs es u) : nxt (stp arcs es) u (j : Int) = some v := by
  unfold nxt fndK
  cases c : (stp arcs es u).find? fun kv => decide ((kv.1 : Int) = (j : Int)) with
  | none =>
    have := List.find?_eq_none.mp c _ h
    simp at this
  | some kv =>
    have h3 := List.find?_some c
    have h3 : (kv.1 : Int) = (j : Int) := of_decide_eq_true h3
    have h4 := List.mem_of_find?_eq_some c
    unfold stp at h h4
    obtain ⟨a, _, ea⟩ := List.mem_map.mp h
    obtain ⟨b, _, eb⟩ := List.mem_map.mp h4
    rw [← eb] at h3 ⊢
    injection ea with e1 e2
    have e3 : b = a := by dsimp only at h3; omega
    subst e3
    rw [← e2]
    rfl
def runP (pr : Nat → Int) (st : Stp) : List Int → Nat → Int → Option (Nat × Int)
  | [], u, t => some (u, t)
  | k :: ks, u, t => match nxt st u k with
    | none => none
    | some v => runP pr st ks v (t + pr k.toNat)
def chkP (pr : Nat → Int) (st : Stp) (n s g : Nat) (P : List Int) (N : List (Option Int)) : Bool := isBd pr st n s N && (match runP pr st P s 0 with
  | none => false
  | some z => decide (z.1 = g) && decide (nb N g = some z.2))
theorem eq_o {t : Int} {x : Option Int} : dEq (.int t) (oD x) = .ok (.bl (decide (x = some t))) := by
  cases x with
  | none =>
    rw [decide_eq_false (by simp)]
    rfl
  | some i =>
    show dEq (.int t) (.int i) = _
    rw [dEq_i]
    congr 2
    exact decide_eq_decide.mpr ⟨fun h => by rw [h], fun h => by injection h with h; exact h.symm⟩
theorem cb4 {a b c d : GE} {o : OpA} {ρ : EnvD} {x y z u : DV} (h : a ρ = .ok x) (h2 : b ρ = .ok y) (h3 : c ρ = .ok z) (h4 : d ρ = .ok u) : gCB o (aCons a (aCons b (aCons c (aCons d aNil)))) ρ = o [x, y, z, u] := by
  rw [ev_cb, ev_cons, h, ev_cons, h2, ev_cons, h3, ev_cons, h4]
  rfl
theorem andV_e {a b : GE} {ρ : EnvD} {x y : Bool} (h : a ρ = .ok (.bl x)) (h2 : b ρ = .ok (.bl y)) : gAndV a b ρ = .ok (.bl (x && y)) := by
  rw [ev_andV, h]
  cases x
  · rfl
  · exact h2
theorem dget_e {a b : GE} {ρ : EnvD} {sts : List (Nat × Nat)} {k : Int} {v : Nat} (h1 : a ρ = .ok (wD sts)) (h2 : b ρ = .ok (.int k)) (h3 : fndK sts k = some v) : gBin dDGet a b ρ = .ok (.int (v : Int)) := by
  rw [bin_e h1 h2]
  unfold dDGet
  dsimp only
  rw [look_kv, h3]
  rfl
theorem dnin_e {a b : GE} {ρ : EnvD} {sts : List (Nat × Nat)} {k : Int} (h1 : a ρ = .ok (.int k)) (h2 : b ρ = .ok (wD sts)) : gB (gBin (dDIn true) a b) ρ = .ok (!(fndK sts k).isSome) := by
  refine b_e ((bin_e h1 h2).trans ?_)
  unfold dDIn
  dsimp only
  rw [look_kv, Option.isSome_map, Bool.true_xor]
theorem imms_i : ∀ xs : List Int, imms (xs.map DV.int) = true
  | [] => rfl
  | x :: xs => (Bool.and_eq_true _ _).mpr ⟨rfl, imms_i xs⟩
theorem immI_e {g : GI} {ρ : EnvD} {xs : List Int} (h : g ρ = .ok (xs.map DV.int)) : gImmI g ρ = .ok (xs.map DV.int) := by
  unfold gImmI
  rw [h]
  dsimp only [Rs.bind]
  rw [if_pos (imms_i xs)]
theorem aug_e {i : Nat} {g : GE} {ρ : EnvD} {x y : Int} {f : Int → Int → Int} (h1 : lk ρ i = .ok (.int x)) (h2 : g ρ = .ok (.int y)) : gAug i f g ρ = .nx (ρ.set i (some (.int (f x y)))) := by
  unfold gAug
  rw [h1]
  dsimp only
  rw [h2]
section
variable {n s g : Nat} {es : List Ed} {arcs : Bool} {N : List (Option Int)} {P : List Int}
def pB : GS := (gSeq (gAsg (gPure (gDict (gCB m_steps_from (aCons (gVar 0) (aCons (gVar 7) (aCons (gVar 5) aNil)))))) (gtName 10)) (gSeq (gIfS (gB (gBin (dDIn true) (gVar 9) (gVar 10))) (gRet (gPure (gC (.bl false)))) gNext) (gSeq (gAsg (gPure (gBin dDGet (gVar 10) (gVar 9))) (gtName 7)) (gAug 8 (fun i j => i + j) (gBin dIx (gBin dIx (gVar 6) (gVar 9)) (gC (.int 2)))))))
theorem p_for (h : Hyp n s es) : ∀ (ks : List Int) (u : Nat) (t : Int) (t9 t10 : Option DV), u < n → (runP (prc es) (stp arcs es) ks u t = none → ∃ ρ, forG (gtName 9) pB (ks.map DV.int) [some (net (n : Int) es), some (.int (s : Int)), some (.int (g : Int)), some (di P), some (nsD N), some (.bl arcs), some (esD es), some (.int (u : Int)), some (.int t), t9, t10] = .rt (.bl false) ρ) ∧ ∀ v t', runP (prc es) (stp arcs es) ks u t = some (v, t') → v < n ∧ ∃ u9 u10 : Option DV, forG (gtName 9) pB (ks.map DV.int) [some (net (n : Int) es), some (.int (s : Int)), some (.int (g : Int)), some (di P), some (nsD N), some (.bl arcs), some (esD es), some (.int (u : Int)), some (.int t), t9, t10] = .nx [some (net (n : Int) es), some (.int (s : Int)), some (.int (g : Int)), some (di P), some (nsD N), some (.bl arcs), some (esD es), some (.int (v : Int)), some (.int t'), u9, u10]
  | [], u, t, t9, t10, hu => ⟨fun z => (by cases z), fun v t' z => by
    have z : some (u, t) = some (v, t') := z
    cases z
    exact ⟨hu, t9, t10, rfl⟩⟩
  | k :: ks, u, t, t9, t10, hu => by
    have s0 : (gAsg (gPure (gDict (gCB m_steps_from (aCons (gVar 0) (aCons (gVar 7) (aCons (gVar 5) aNil)))))) (gtName 10)) [some (net (n : Int) es), some (.int (s : Int)), some (.int (g : Int)), some (di P), some (nsD N), some (.bl arcs), some (esD es), some (.int (u : Int)), some (.int t), some (.int k), t10] = .nx [some (net (n : Int) es), some (.int (s : Int)), some (.int (g : Int)), some (di P), some (nsD N), some (.bl arcs), some (esD es), some (.int (u : Int)), some (.int t), some (.int k), some (wD (stp arcs es u))] := by
      refine set_e (i := 10) ?_
      show (gCB m_steps_from (aCons (gVar 0) (aCons (gVar 7) (aCons (gVar 5) aNil))) _).bind dDict = _
      rw [cb3 rfl rfl rfl, steps_ok h.1 (by omega) h.2.1]
      exact dict_kv stp_nd
    have t1 : ((gB (gBin (dDIn true) (gVar 9) (gVar 10)))) [some (net (n : Int) es), some (.int (s : Int)), some (.int (g : Int)), some (di P), some (nsD N), some (.bl arcs), some (esD es), some (.int (u : Int)), some (.int t), some (.int k), some (wD (stp arcs es u))] = .ok (!(fndK (stp arcs es u) k).isSome) := dnin_e rfl rfl
    rw [List.map_cons]
    unfold runP nxt
    cases c : fndK (stp arcs es u) k with
    | none =>
      rw [c] at t1
      refine ⟨fun _ => ⟨[some (net (n : Int) es), some (.int (s : Int)), some (.int (g : Int)), some (di P), some (nsD N), some (.bl arcs), some (esD es), some (.int (u : Int)), some (.int t), some (.int k), some (wD (stp arcs es u))], forG_consR (ρ1 := [some (net (n : Int) es), some (.int (s : Int)), some (.int (g : Int)), some (di P), some (nsD N), some (.bl arcs), some (esD es), some (.int (u : Int)), some (.int t), some (.int k), t10]) rfl ?_⟩, fun v t' z => by cases z⟩
      unfold pB
      rw [ev_seq s0, ev_stop t1 (ret_e rfl)]
    | some v =>
      rw [c] at t1
      have q : nxt (stp arcs es) u k = some v := c
      obtain ⟨j, e, m⟩ := nxt_some q
      subst e
      have jl := ((stp_iff h.2.1).mp m).1
      have vl : v < n := stp_ok h.2.1 u (j, v) hu m
      have s2 : (gAsg (gPure (gBin dDGet (gVar 10) (gVar 9))) (gtName 7)) [some (net (n : Int) es), some (.int (s : Int)), some (.int (g : Int)), some (di P), some (nsD N), some (.bl arcs), some (esD es), some (.int (u : Int)), some (.int t), some (.int (j : Int)), some (wD (stp arcs es u))] = .nx [some (net (n : Int) es), some (.int (s : Int)), some (.int (g : Int)), some (di P), some (nsD N), some (.bl arcs), some (esD es), some (.int (v : Int)), some (.int t), some (.int (j : Int)), some (wD (stp arcs es u))] := set_e (i := 7) (dget_e rfl rfl c)
      have s3 : (gAug 8 (fun i j => i + j) (gBin dIx (gBin dIx (gVar 6) (gVar 9)) (gC (.int 2)))) [some (net (n : Int) es), some (.int (s : Int)), some (.int (g : Int)), some (di P), some (nsD N), some (.bl arcs), some (esD es), some (.int (v : Int)), some (.int t), some (.int (j : Int)), some (wD (stp arcs es u))] = .nx [some (net (n : Int) es), some (.int (s : Int)), some (.int (g : Int)), some (di P), some (nsD N), some (.bl arcs), some (esD es), some (.int (v : Int)), some (.int (t + prc es (j : Int).toNat)), some (.int (j : Int)), some (wD (stp arcs es u))] := aug_e rfl ((bin_e ((bin_e rfl rfl).trans (ix_at rfl jl)) rfl).trans ix3_2)
      have b : pB [some (net (n : Int) es), some (.int (s : Int)), some (.int (g : Int)), some (di P), some (nsD N), some (.bl arcs), some (esD es), some (.int (u : Int)), some (.int t), some (.int (j : Int)), t10] = .nx [some (net (n : Int) es), some (.int (s : Int)), some (.int (g : Int)), some (di P), some (nsD N), some (.bl arcs), some (esD es), some (.int (v : Int)), some (.int (t + prc es (j : Int).toNat)), some (.int (j : Int)), some (wD (stp arcs es u))] := by
        unfold pB
        rw [ev_seq s0, ev_skip t1, ev_seq s2, s3]
      obtain ⟨i1, i2⟩ := p_for h ks v (t + prc es (j : Int).toNat) (some (.int (j : Int))) (some (wD (stp arcs es u))) vl
      refine ⟨fun z => ?_, fun w t' z => ?_⟩
      · obtain ⟨ρ, f⟩ := i1 z
        exact ⟨ρ, by rw [forG_cons (ρ1 := [some (net (n : Int) es), some (.int (s : Int)), some (.int (g : Int)), some (di P), some (nsD N), some (.bl arcs), some (esD es), some (.int (u : Int)), some (.int t), some (.int (j : Int)), t10]) rfl b]; exact f⟩
      · obtain ⟨a, u9, u10, f⟩ := i2 w t' z
        exact ⟨a, u9, u10, by rw [forG_cons (ρ1 := [some (net (n : Int) es), some (.int (s : Int)), some (.int (g : Int)), some (di P), some (nsD N), some (.bl arcs), some (esD es), some (.int (u : Int)), some (.int t), some (.int (j : Int)), t10]) rfl b]; exact f⟩
theorem check_ok (h : Hyp n s es) (hg : g < n) (hl0 : N.length ≤ 1000) : m_check_path [net (n : Int) es, .int (s : Int), .int (g : Int), di P, nsD N, .bl arcs] = .ok (.bl (chkP (prc es) (stp arcs es) n s g P N)) := by
  have st : startD 11 [net (n : Int) es, .int (s : Int), .int (g : Int), di P, nsD N, .bl arcs] = [some (net (n : Int) es), some (.int (s : Int)), some (.int (g : Int)), some (di P), some (nsD N), some (.bl arcs), none, none, none, none, none] := rfl
  have t0 : ((gNot (gB (gCB m_is_bound (aCons (gVar 0) (aCons (gVar 1) (aCons (gVar 4) (aCons (gVar 5) aNil)))))))) [some (net (n : Int) es), some (.int (s : Int)), some (.int (g : Int)), some (di P), some (nsD N), some (.bl arcs), none, none, none, none, none] = .ok (!isBd (prc es) (stp arcs es) n s N) := not_e (b_e ((cb4 rfl rfl rfl rfl).trans (bound_ok h hl0)))
  unfold m_check_path runB b_check_path chkP
  rw [st, ev_seq (vert_e rfl rfl h.2.2.1), ev_seq (vert_e rfl rfl hg)]
  cases c : isBd (prc es) (stp arcs es) n s N with
  | false =>
    rw [c] at t0
    rw [ev_stop t0 (ret_e rfl)]
    rfl
  | true =>
    rw [c] at t0
    have hl : N.length = n := by
      unfold isBd at c
      exact of_decide_eq_true ((Bool.and_eq_true _ _).mp c).1
    have s1 : (gAsg (gPure (gNX (gMeth "Network" "edges" m_Network_edges (gVar 0) aNil))) (gtName 6)) [some (net (n : Int) es), some (.int (s : Int)), some (.int (g : Int)), some (di P), some (nsD N), some (.bl arcs), none, none, none, none, none] = .nx [some (net (n : Int) es), some (.int (s : Int)), some (.int (g : Int)), some (di P), some (nsD N), some (.bl arcs), some (esD es), none, none, none, none] := set_e (i := 6) (nx_e ((meth_e rfl (by decide) rfl).trans edges_ok))
    have s2 : (gAsg (gPure (gVar 1)) (gtName 7)) [some (net (n : Int) es), some (.int (s : Int)), some (.int (g : Int)), some (di P), some (nsD N), some (.bl arcs), some (esD es), none, none, none, none] = .nx [some (net (n : Int) es), some (.int (s : Int)), some (.int (g : Int)), some (di P), some (nsD N), some (.bl arcs), some (esD es), some (.int (s : Int)), none, none, none] := rfl
    have s3 : (gAsg (gPure (gC (.int 0))) (gtName 8)) [some (net (n : Int) es), some (.int (s : Int)), some (.int (g : Int)), some (di P), some (nsD N), some (.bl arcs), some (esD es), some (.int (s : Int)), none, none, none] = .nx [some (net (n : Int) es), some (.int (s : Int)), some (.int (g : Int)), some (di P), some (nsD N), some (.bl arcs), some (esD es), some (.int (s : Int)), some (.int 0), none, none] := rfl
    obtain ⟨f1, f2⟩ := p_for (N := N) (P := P) (g := g) (arcs := arcs) h P s 0 none none h.2.2.1
    have it : gImmI (gSeqI (gVar 3)) [some (net (n : Int) es), some (.int (s : Int)), some (.int (g : Int)), some (di P), some (nsD N), some (.bl arcs), some (esD es), some (.int (s : Int)), some (.int 0), none, none] = .ok (P.map DV.int) := immI_e (seq_raw rfl)
    rw [ev_skip t0, ev_seq s1, ev_seq s2, ev_seq s3]
    show finB (gSeq (gFor _ _ pB) _ _) = _
    cases r : runP (prc es) (stp arcs es) P s 0 with
    | none =>
      obtain ⟨ρ, f⟩ := f1 r
      rw [ev_seqR (ev_forR it f)]
      rfl
    | some z =>
      obtain ⟨v, t⟩ := z
      obtain ⟨hv, u9, u10, f⟩ := f2 v t r
      have l1 : (gBin dEq (gVar 7) (gVar 2)) [some (net (n : Int) es), some (.int (s : Int)), some (.int (g : Int)), some (di P), some (nsD N), some (.bl arcs), some (esD es), some (.int (v : Int)), some (.int t), u9, u10] = .ok (.bl (decide (v = g))) := by
        refine ((bin_e rfl rfl).trans dEq_i).trans ?_
        congr 2
        exact decide_eq_decide.mpr (by omega)
      have l2 : (gBin dEq (gVar 8) (gBin dIx (gVar 4) (gVar 2))) [some (net (n : Int) es), some (.int (s : Int)), some (.int (g : Int)), some (di P), some (nsD N), some (.bl arcs), some (esD es), some (.int (v : Int)), some (.int t), u9, u10] = .ok (.bl (decide (nb N g = some t))) := (bin_e rfl ((bin_e rfl rfl).trans (ns_ix (v := g) rfl (by omega)))).trans eq_o
      rw [ev_seq (ev_for it f), ret_e (andV_e l1 l2)]
      rfl
end
end M
end

/-! text P7 -/
section
set_option maxRecDepth 100000
set_option maxHeartbeats 4000000
namespace M
open PySem DL
abbrev Q4 := Int × Int × Int × Nat
abbrev qD (z : Q4) : DV := .tup [.int z.1, .int z.2.1, .int z.2.2.1, .int (z.2.2.2 : Int)]
def lst1 (arcs : Bool) (es : List Ed) (k : Nat) : List Q4 := ((eAt es k).1, (eAt es k).2.1, (eAt es k).2.2, k) :: if arcs = true then [] else [((eAt es k).2.1, (eAt es k).1, (eAt es k).2.2, k)]
def lstp (arcs : Bool) (es : List Ed) : List Q4 := (List.range es.length).flatMap (lst1 arcs es)
theorem tup4 {a b c d : GE} {ρ : EnvD} {x y z u : DV} (h1 : a ρ = .ok x) (h2 : b ρ = .ok y) (h3 : c ρ = .ok z) (h4 : d ρ = .ok u) : eTup (aCons a (aCons b (aCons c (aCons d aNil)))) ρ = .ok (.tup [x, y, z, u]) := by
  rw [ev_tup, ev_cons, h1, ev_cons, h2, ev_cons, h3, ev_cons, h4]
  show (if 0 + 1 + 1 + 1 + 1 ≤ sizeLine then _ else _) = _
  rw [if_pos (by decide)]
theorem flat_len {arcs : Bool} {es : List Ed} : ∀ i, ((List.range i).flatMap (lst1 arcs es)).length ≤ 2 * i
  | 0 => by simp
  | i + 1 => by
    have ih := flat_len (arcs := arcs) (es := es) i
    rw [List.range_succ, List.flatMap_append, List.length_append]
    have : (List.flatMap (lst1 arcs es) [i]).length ≤ 2 := by
      simp only [List.flatMap_cons, List.flatMap_nil, List.append_nil]
      unfold lst1
      cases arcs <;> simp
    omega
def lB : GS := (gSeq (gAsg (gPure (gBin dIx (gVar 0) (gVar 3))) (gtTup [4, 5, 6])) (gSeq (gDrop (gApp 2 (gPure (eTup (aCons (gVar 4) (aCons (gVar 5) (aCons (gVar 6) (aCons (gVar 3) aNil)))))))) (gIfS (gNot (gTru (gVar 1))) (gDrop (gApp 2 (gPure (eTup (aCons (gVar 5) (aCons (gVar 4) (aCons (gVar 6) (aCons (gVar 3) aNil)))))))) gNext)))
theorem l_turn {es : List Ed} {arcs : Bool} {i : Nat} {t3 t4 t5 t6 : Option DV} (hi : i < es.length) (hl : es.length ≤ 400) : lB [some (esD es), some (.bl arcs), some (.lst (((List.range i).flatMap (lst1 arcs es)).map qD)), some (.int ((0 : Int) + (i : Int))), t4, t5, t6] = .nx [some (esD es), some (.bl arcs), some (.lst (((List.range (i + 1)).flatMap (lst1 arcs es)).map qD)), some (.int ((0 : Int) + (i : Int))), some (.int (eAt es i).1), some (.int (eAt es i).2.1), some (.int (eAt es i).2.2)] := by
  have e : (0 : Int) + (i : Int) = (i : Int) := Int.zero_add _
  have fl := flat_len (arcs := arcs) (es := es) i
  have s0 : (gAsg (gPure (gBin dIx (gVar 0) (gVar 3))) (gtTup [4, 5, 6])) [some (esD es), some (.bl arcs), some (.lst (((List.range i).flatMap (lst1 arcs es)).map qD)), some (.int ((0 : Int) + (i : Int))), t4, t5, t6] = .nx [some (esD es), some (.bl arcs), some (.lst (((List.range i).flatMap (lst1 arcs es)).map qD)), some (.int ((0 : Int) + (i : Int))), some (.int (eAt es i).1), some (.int (eAt es i).2.1), some (.int (eAt es i).2.2)] := by
    unfold gAsg
    rw [ev_pure, (bin_e rfl rfl).trans (ix_at (es := es) (i := i) (by omega) hi)]
    rfl
  have s1 : (gDrop (gApp 2 (gPure (eTup (aCons (gVar 4) (aCons (gVar 5) (aCons (gVar 6) (aCons (gVar 3) aNil)))))))) [some (esD es), some (.bl arcs), some (.lst (((List.range i).flatMap (lst1 arcs es)).map qD)), some (.int ((0 : Int) + (i : Int))), some (.int (eAt es i).1), some (.int (eAt es i).2.1), some (.int (eAt es i).2.2)] = .nx [some (esD es), some (.bl arcs), some (.lst (((List.range i).flatMap (lst1 arcs es) ++ [((eAt es i).1, (eAt es i).2.1, (eAt es i).2.2, i)]).map qD)), some (.int ((0 : Int) + (i : Int))), some (.int (eAt es i).1), some (.int (eAt es i).2.1), some (.int (eAt es i).2.2)] := app_g (g := qD) (x := ((eAt es i).1, (eAt es i).2.1, (eAt es i).2.2, i)) rfl (tup4 rfl rfl rfl (Eq.trans (rfl : _ = Rs.ok (DV.int ((0 : Int) + (i : Int)))) (by rw [e]))) (by omega)
  have t : ((gNot (gTru (gVar 1)))) [some (esD es), some (.bl arcs), some (.lst (((List.range i).flatMap (lst1 arcs es) ++ [((eAt es i).1, (eAt es i).2.1, (eAt es i).2.2, i)]).map qD)), some (.int ((0 : Int) + (i : Int))), some (.int (eAt es i).1), some (.int (eAt es i).2.1), some (.int (eAt es i).2.2)] = .ok (!arcs) := not_e (tru_b rfl)
  unfold lB
  rw [ev_seq s0, ev_seq s1, ev_ifS t]
  have q : (List.range (i + 1)).flatMap (lst1 arcs es) = (List.range i).flatMap (lst1 arcs es) ++ lst1 arcs es i := by
    rw [List.range_succ, List.flatMap_append]
    simp
  rw [q]
  cases arcs with
  | true => rfl
  | false =>
    have s2 : (gDrop (gApp 2 (gPure (eTup (aCons (gVar 5) (aCons (gVar 4) (aCons (gVar 6) (aCons (gVar 3) aNil)))))))) [some (esD es), some (.bl false), some (.lst (((List.range i).flatMap (lst1 false es) ++ [((eAt es i).1, (eAt es i).2.1, (eAt es i).2.2, i)]).map qD)), some (.int ((0 : Int) + (i : Int))), some (.int (eAt es i).1), some (.int (eAt es i).2.1), some (.int (eAt es i).2.2)] = .nx [some (esD es), some (.bl false), some (.lst (((List.range i).flatMap (lst1 false es) ++ [((eAt es i).1, (eAt es i).2.1, (eAt es i).2.2, i)] ++ [((eAt es i).2.1, (eAt es i).1, (eAt es i).2.2, i)]).map qD)), some (.int ((0 : Int) + (i : Int))), some (.int (eAt es i).1), some (.int (eAt es i).2.1), some (.int (eAt es i).2.2)] := app_g (g := qD) (x := ((eAt es i).2.1, (eAt es i).1, (eAt es i).2.2, i)) rfl (tup4 rfl rfl rfl (Eq.trans (rfl : _ = Rs.ok (DV.int ((0 : Int) + (i : Int)))) (by rw [e]))) (by rw [List.length_append]; show _ + 1 ≤ _; omega)
    rw [if_pos (show (!false) = true from rfl), s2]
    rw [List.append_assoc]
    rfl
theorem lsteps_ok {es : List Ed} {arcs : Bool} (hl : es.length ≤ 400) : m__law_steps [esD es, .bl arcs] = .ok (.lst ((lstp arcs es).map qD)) := by
  have st : startD 7 [esD es, .bl arcs] = [some (esD es), some (.bl arcs), none, none, none, none, none] := rfl
  have s0 : (gAsg (gPure (eLst aNil)) (gtName 2)) [some (esD es), some (.bl arcs), none, none, none, none, none] = .nx [some (esD es), some (.bl arcs), some (.lst []), none, none, none, none] := rfl
  obtain ⟨ρ', f, t3, t4, t5, t6, e⟩ := forG_rngB (tg := gtName 3) (b := lB) es.length (fun i ρ => ∃ t3 t4 t5 t6 : Option DV, ρ = [some (esD es), some (.bl arcs), some (.lst (((List.range i).flatMap (lst1 arcs es)).map qD)), t3, t4, t5, t6]) (fun i ρ hi h => by
    obtain ⟨t3, t4, t5, t6, rfl⟩ := h
    exact ⟨_, _, rfl, l_turn (t3 := t3) hi hl, _, _, _, _, rfl⟩) es.length 0 [some (esD es), some (.bl arcs), some (.lst []), none, none, none, none] (by omega) ⟨none, none, none, none, rfl⟩
  have s1 : gFor (gRng1 (aCons (gCB dLen (aCons (gVar 0) aNil)) aNil)) (gtName 3) lB [some (esD es), some (.bl arcs), some (.lst []), none, none, none, none] = .nx ρ' := ev_for (rng1_e (len_e (g := eD) (xs := es) rfl) rfl (by omega)) (by rw [rngD_eq]; exact f)
  unfold m__law_steps runB b__law_steps
  rw [st, ev_seq s0]
  show finB (gSeq (gFor _ _ lB) _ _) = _
  rw [ev_seq s1, e, Nat.zero_add]
  rfl
/-- what the law's steps are -/
theorem lstp_iff {s : Int} {es : List Ed} {arcs : Bool} (hg : ∀ e ∈ es, Ge s e) {z : Q4} : z ∈ lstp arcs es ↔ ∃ u k v : Nat, z = ((u : Int), (v : Int), prc es k, k) ∧ IsSt arcs es u k v := by
  unfold lstp
  rw [List.mem_flatMap]
  constructor
  · rintro ⟨k, hk, hz⟩
    have hk := List.mem_range.mp hk
    obtain ⟨a1, a2, a3, a4, a5, a6, a7⟩ := hg _ (eAt_mem hk)
    unfold lst1 at hz
    rcases List.mem_cons.mp hz with e | e
    · refine ⟨(eAt es k).1.toNat, k, (eAt es k).2.1.toNat, ?_, hk, .inl ⟨by omega, by omega⟩⟩
      rw [e, show (((eAt es k).1.toNat : Nat) : Int) = (eAt es k).1 by omega, show (((eAt es k).2.1.toNat : Nat) : Int) = (eAt es k).2.1 by omega]
      rfl
    · cases arcs with
      | true => rw [if_pos rfl] at e; cases e
      | false =>
        rw [if_neg (by decide)] at e
        have e := List.mem_singleton.mp e
        refine ⟨(eAt es k).2.1.toNat, k, (eAt es k).1.toNat, ?_, hk, .inr ⟨rfl, by omega, by omega⟩⟩
        rw [e, show (((eAt es k).1.toNat : Nat) : Int) = (eAt es k).1 by omega, show (((eAt es k).2.1.toNat : Nat) : Int) = (eAt es k).2.1 by omega]
        rfl
  · rintro ⟨u, k, v, rfl, hk, h⟩
    refine ⟨k, List.mem_range.mpr hk, ?_⟩
    unfold lst1 prc
    rcases h with ⟨h1, h2⟩ | ⟨h0, h1, h2⟩
    · rw [h1, h2]
      exact List.mem_cons_self
    · subst h0
      rw [h1, h2, if_neg (by decide)]
      exact List.mem_cons_of_mem _ List.mem_cons_self
end M
end

/-! text Q1 -/
section
set_option maxRecDepth 100000
set_option maxHeartbeats 4000000
/-! layers of walks by their number of edges; the best of them -/
namespace M
open PySem DL
section
variable {pr : Nat → Int} {n s : Nat} {es : List Ed} {arcs : Bool} {L L' B : Lbs} {p q : List Nat} {u v k : Nat}
/-- one step of the law: from the layer to the one behind it -/
def lay1 (pr : Nat → Int) (Y A : Lbs) (z : Q4) : Lbs := match lv Y z.1.toNat with
  | none => A
  | some p => (rlx pr (A, false) (p ++ [z.2.2.2]) z.2.1.toNat).1
def layF (pr : Nat → Int) (Y : Lbs) : List Q4 → Lbs → Lbs
  | [], A => A
  | z :: zs, A => layF pr Y zs (lay1 pr Y A z)
def none0 (n : Nat) : Lbs := List.replicate n none
theorem none_lv : lv (none0 n) v = none := by
  unfold lv none0
  rw [List.getD_eq_getElem?_getD, List.getElem?_replicate]
  split <;> rfl
theorem none_len : (none0 n).length = n := List.length_replicate ..
theorem lay1_len {Y A : Lbs} {z : Q4} : (lay1 pr Y A z).length = A.length := by
  unfold lay1
  split
  · rfl
  · exact rlx_len
theorem lay1_dec {Y A : Lbs} {z : Q4} (h : z.2.1.toNat < A.length) : Dec pr A (lay1 pr Y A z) := by
  unfold lay1
  split
  · exact Dec.refl _
  · exact rlx_dec (z := (A, false)) h
theorem layF_len {Y : Lbs} : ∀ {zs : List Q4} {A : Lbs}, (layF pr Y zs A).length = A.length
  | [], A => rfl
  | z :: zs, A => by
    unfold layF
    rw [layF_len (zs := zs), lay1_len]
theorem layF_dec {Y : Lbs} : ∀ {zs : List Q4} {A : Lbs}, (∀ z ∈ zs, z.2.1.toNat < n) → A.length = n → Dec pr A (layF pr Y zs A)
  | [], A, _, _ => Dec.refl A
  | z :: zs, A, h, hl => by
    unfold layF
    exact (lay1_dec (by rw [hl]; exact h z List.mem_cons_self)).trans (layF_dec (zs := zs) (fun x hx => h x (List.mem_cons_of_mem _ hx)) (by rw [lay1_len, hl]))
theorem layF_at {Y : Lbs} : ∀ {zs : List Q4} {A : Lbs}, (∀ z ∈ zs, z.2.1.toNat < n) → A.length = n → ∀ z ∈ zs, ∀ p, lv Y z.1.toNat = some p → ∃ q, lv (layF pr Y zs A) z.2.1.toNat = some q ∧ LE pr q (p ++ [z.2.2.2])
  | [], A, _, _, z, hz, _, _ => by cases hz
  | w :: zs, A, h, hl, z, hz, p, hp => by
    unfold layF
    have h2 : ∀ z ∈ zs, z.2.1.toNat < n := fun x hx => h x (List.mem_cons_of_mem _ hx)
    have hl2 : (lay1 pr Y A w).length = n := by rw [lay1_len, hl]
    have hw := h w List.mem_cons_self
    rcases List.mem_cons.mp hz with e | e
    · subst e
      have h3 : ∃ q, lv (lay1 pr Y A z) z.2.1.toNat = some q ∧ LE pr q (p ++ [z.2.2.2]) := by
        unfold lay1
        rw [hp]
        exact rlx_at (z := (A, false)) (by rw [hl]; exact hw)
      obtain ⟨q, h4, h5⟩ := h3
      obtain ⟨q2, h6, h7⟩ := layF_dec (pr := pr) (Y := Y) h2 hl2 _ q h4
      exact ⟨q2, h6, LE_trans pr h7 h5⟩
    · exact layF_at (zs := zs) h2 hl2 z e p hp
theorem layF_all {P : Nat → List Nat → Prop} {Y : Lbs} : ∀ {zs : List Q4} {A : Lbs}, (∀ z ∈ zs, z.2.1.toNat < n) → A.length = n → (∀ z ∈ zs, ∀ p, lv Y z.1.toNat = some p → P z.2.1.toNat (p ++ [z.2.2.2])) → All P A → All P (layF pr Y zs A)
  | [], A, _, _, _, a => a
  | z :: zs, A, h, hl, b, a => by
    unfold layF
    refine layF_all (zs := zs) (fun x hx => h x (List.mem_cons_of_mem _ hx)) (by rw [lay1_len, hl]) (fun x hx => b x (List.mem_cons_of_mem _ hx)) ?_
    unfold lay1
    split
    · exact a
    · rename_i p e
      exact rlx_all (z := (A, false)) (by rw [hl]; exact h z List.mem_cons_self) a (b z List.mem_cons_self p e)
/-- the least walks of c edges -/
def Exact (pr : Nat → Int) (st : Stp) (s c : Nat) (Y : Lbs) : Prop := (∀ v p, lv Y v = some p → Wf st s p v ∧ p.length = c) ∧ ∀ v p, Wf st s p v → p.length = c → ∃ q, lv Y v = some q ∧ LE pr q p
theorem lstp_lt (hg : ∀ e ∈ es, Ge (n : Int) e) : ∀ z ∈ lstp arcs es, z.2.1.toNat < n := fun z hz => by
  obtain ⟨u, k, v, rfl, h3⟩ := (lstp_iff hg).mp hz
  obtain ⟨a1, a2, a3, a4, a5, a6, a7⟩ := hg _ (eAt_mem h3.1)
  show ((v : Int)).toNat < n
  rcases h3.2 with ⟨b1, b2⟩ | ⟨_, b1, b2⟩ <;> omega
theorem exact_0 (hs : s < n) {st : Stp} : Exact pr st s 0 (start0 n s) := by
  refine ⟨fun v p h => ?_, fun v p h hl => ?_⟩
  · rw [start_lv hs] at h
    by_cases c : v = s
    · rw [if_pos c] at h
      cases h
      exact ⟨c.symm, rfl⟩
    · rw [if_neg c] at h
      cases h
  · have e : p = [] := List.length_eq_zero_iff.mp hl
    subst e
    cases h
    exact ⟨[], by rw [start_lv hs, if_pos rfl], LE_refl pr _⟩
theorem exact_s (h : Hyp n s es) {Y : Lbs} {c : Nat} (hY : Exact (prc es) (stp arcs es) s c Y) : Exact (prc es) (stp arcs es) s (c + 1) (layF (prc es) Y (lstp arcs es) (none0 n)) := by
  have lt := lstp_lt (arcs := arcs) h.2.1
  refine ⟨fun v p hp => ?_, fun v p w hl => ?_⟩
  · refine layF_all (P := fun v p => Wf (stp arcs es) s p v ∧ p.length = c + 1) lt none_len (fun z hz p hp => ?_) (fun v p h => ?_) v p hp
    · obtain ⟨u, k, v, rfl, h3⟩ := (lstp_iff h.2.1).mp hz
      obtain ⟨h4, h5⟩ := hY.1 u p hp
      exact ⟨(Wf_snoc _).mpr ⟨u, h4, (stp_iff h.2.1).mpr h3⟩, by rw [List.length_append, h5]; rfl⟩
    · rw [none_lv] at h
      cases h
  · have c0 : p ≠ [] := fun z => by rw [z] at hl; cases hl
    have e := List.dropLast_concat_getLast c0
    rw [← e] at w
    obtain ⟨u, h1, h2⟩ := (Wf_snoc _).mp w
    obtain ⟨q, h3, h4⟩ := hY.2 u p.dropLast h1 (by rw [List.length_dropLast]; omega)
    have m := (lstp_iff (arcs := arcs) h.2.1).mpr ⟨u, p.getLast c0, v, rfl, (stp_iff h.2.1).mp h2⟩
    obtain ⟨q2, h5, h6⟩ := layF_at (pr := prc es) lt (none_len (n := n)) _ m q h3
    refine ⟨q2, h5, LE_trans _ h6 ?_⟩
    have := LE_app (prc es) (p.getLast c0) h4
    rw [e] at this
    exact this
/-- the best with a layer -/
def best1 (pr : Nat → Int) (Y B : Lbs) (v : Nat) : Lbs := match lv Y v with
  | none => B
  | some p => (rlx pr (B, false) p v).1
def bestF (pr : Nat → Int) (Y : Lbs) : List Nat → Lbs → Lbs
  | [], B => B
  | v :: vs, B => bestF pr Y vs (best1 pr Y B v)
theorem best1_len {Y B : Lbs} : (best1 pr Y B v).length = B.length := by
  unfold best1
  split
  · rfl
  · exact rlx_len
theorem bestF_len {Y : Lbs} : ∀ {vs : List Nat} {B : Lbs}, (bestF pr Y vs B).length = B.length
  | [], B => rfl
  | v :: vs, B => by
    unfold bestF
    rw [bestF_len (vs := vs), best1_len]
theorem best1_dec {Y B : Lbs} (h : v < B.length) : Dec pr B (best1 pr Y B v) := by
  unfold best1
  split
  · exact Dec.refl _
  · exact rlx_dec (z := (B, false)) h
theorem bestF_dec {Y : Lbs} : ∀ {vs : List Nat} {B : Lbs}, (∀ v ∈ vs, v < n) → B.length = n → Dec pr B (bestF pr Y vs B)
  | [], B, _, _ => Dec.refl B
  | v :: vs, B, h, hl => by
    unfold bestF
    exact (best1_dec (by rw [hl]; exact h v List.mem_cons_self)).trans (bestF_dec (vs := vs) (fun x hx => h x (List.mem_cons_of_mem _ hx)) (by rw [best1_len, hl]))
theorem bestF_at {Y : Lbs} : ∀ {vs : List Nat} {B : Lbs}, (∀ v ∈ vs, v < n) → B.length = n → ∀ v ∈ vs, ∀ p, lv Y v = some p → ∃ q, lv (bestF pr Y vs B) v = some q ∧ LE pr q p
  | [], B, _, _, v, hv, _, _ => by cases hv
  | w :: vs, B, h, hl, v, hv, p, hp => by
    unfold bestF
    have h2 : ∀ v ∈ vs, v < n := fun x hx => h x (List.mem_cons_of_mem _ hx)
    have hl2 : (best1 pr Y B w).length = n := by rw [best1_len, hl]
    rcases List.mem_cons.mp hv with e | e
    · subst e
      have h3 : ∃ q, lv (best1 pr Y B v) v = some q ∧ LE pr q p := by
        unfold best1
        rw [hp]
        exact rlx_at (z := (B, false)) (by rw [hl]; exact h v List.mem_cons_self)
      obtain ⟨q, h4, h5⟩ := h3
      obtain ⟨q2, h6, h7⟩ := bestF_dec (pr := pr) (Y := Y) h2 hl2 v q h4
      exact ⟨q2, h6, LE_trans pr h7 h5⟩
    · exact bestF_at (vs := vs) h2 hl2 v e p hp
theorem bestF_all {P : Nat → List Nat → Prop} {Y : Lbs} : ∀ {vs : List Nat} {B : Lbs}, (∀ v ∈ vs, v < n) → B.length = n → (∀ v p, lv Y v = some p → P v p) → All P B → All P (bestF pr Y vs B)
  | [], B, _, _, _, a => a
  | v :: vs, B, h, hl, b, a => by
    unfold bestF
    refine bestF_all (vs := vs) (fun x hx => h x (List.mem_cons_of_mem _ hx)) (by rw [best1_len, hl]) b ?_
    unfold best1
    split
    · exact a
    · rename_i p e
      exact rlx_all (z := (B, false)) (by rw [hl]; exact h v List.mem_cons_self) a (b v p e)
/-- the least walks of less than c edges -/
def Less (pr : Nat → Int) (st : Stp) (s c : Nat) (B : Lbs) : Prop := (∀ v p, lv B v = some p → Wf st s p v) ∧ ∀ v p, Wf st s p v → p.length < c → ∃ q, lv B v = some q ∧ LE pr q p
theorem less_0 {st : Stp} : Less pr st s 0 (none0 n) := ⟨fun v p h => (by rw [none_lv] at h; cases h), fun v p _ h => absurd h (Nat.not_lt_zero _)⟩
theorem less_s {st : Stp} (ok : Ok st n) (hs : s < n) {Y : Lbs} {c : Nat} (hY : Exact pr st s c Y) (hl : B.length = n) (hB : Less pr st s c B) : Less pr st s (c + 1) (bestF pr Y (List.range n) B) := by
  have lt : ∀ v ∈ List.range n, v < n := fun v hv => List.mem_range.mp hv
  refine ⟨bestF_all (P := fun v p => Wf st s p v) lt hl (fun v p h => (hY.1 v p h).1) hB.1, fun v p w hp => ?_⟩
  by_cases c1 : p.length = c
  · obtain ⟨q, h1, h2⟩ := hY.2 v p w c1
    obtain ⟨q2, h3, h4⟩ := bestF_at (pr := pr) lt hl v (List.mem_range.mpr (Wf_lt st ok hs w)) q h1
    exact ⟨q2, h3, LE_trans pr h4 h2⟩
  · obtain ⟨q, h1, h2⟩ := hB.2 v p w (by omega)
    obtain ⟨q2, h3, h4⟩ := bestF_dec (pr := pr) (Y := Y) lt hl v q h1
    exact ⟨q2, h3, LE_trans pr h4 h2⟩
theorem less_opt {st : Stp} (ok : Ok st n) (hs : s < n) (hp : ∀ k, 0 ≤ pr k) (hB : Less pr st s n B) : Opt pr st s B := by
  refine ⟨hB.1, fun v p w => ?_⟩
  obtain ⟨q, h1, h2, h3⟩ := simple st hp ok hs p.length rfl w
  obtain ⟨q2, h4, h5⟩ := hB.2 v q h1 h3
  exact ⟨q2, h4, LE_trans pr h5 h2⟩
/-- there is but one -/
theorem opt_eq {st : Stp} (a : Opt pr st s L) (b : Opt pr st s B) (hl : L.length = B.length) : L = B := by
  have key : ∀ v, lv L v = lv B v := fun v => by
    cases c : lv L v with
    | none =>
      cases d : lv B v with
      | none => rfl
      | some q =>
        obtain ⟨x, h1, _⟩ := a.2 v q (b.1 v q d)
        rw [c] at h1
        cases h1
    | some p =>
      obtain ⟨q, h1, h2⟩ := b.2 v p (a.1 v p c)
      obtain ⟨x, h3, h4⟩ := a.2 v q (b.1 v q h1)
      rw [c] at h3
      cases h3
      rw [h1, LE_anti pr h2 h4]
  refine List.ext_getElem hl fun i h1 h2 => ?_
  have := key i
  unfold lv at this
  rw [getD_lt h1, getD_lt h2] at this
  exact this
end
end M
end

/-! text Q2 -/
section
set_option maxRecDepth 100000
set_option maxHeartbeats 4000000
namespace M
open PySem DL
abbrev yD (pr : Nat → Int) (p : List Nat) : DV := .tup [.int (psum pr p), di (isN p)]
def lyD (pr : Nat → Int) : Option (List Nat) → DV
  | none => .non
  | some p => yD pr p
def lsY (pr : Nat → Int) (L : Lbs) : DV := .lst (L.map (lyD pr))
theorem lt_uD {w v : Int} {l t : List Int} (h : l.length = t.length) : dLtD (.tup [.int w, di l]) (.tup [.int v, di t]) = .ok (.bl (decide (w < v) || (!decide (v < w) && lexI l t))) := by
  have q1 : eqok (.tup [.int w, di l]) 20 = true := by
    show (eqok (.int w) 19 && (eqok (di l) 19 && true)) = true
    have e : eqok (di l) 19 = true := by
      show eqoks (l.map DV.int) 18 = true
      exact eqoks_n l
    rw [e]
    rfl
  have q2 : eqok (.tup [.int v, di t]) 20 = true := by
    show (eqok (.int v) 19 && (eqok (di t) 19 && true)) = true
    have e : eqok (di t) 19 = true := by
      show eqoks (t.map DV.int) 18 = true
      exact eqoks_n t
    rw [e]
    rfl
  have q3 : PySem.W.alike (py (.tup [.int w, di l])) (py (.tup [.int v, di t])) = true := by
    show PySem.W.alike (.tuple [py (.int w), py (di l)]) (.tuple [py (.int v), py (di t)]) = true
    have a := alike_di (f := l) (t := t)
    simp only [PySem.W.alike, PySem.W.alikeAll, a]
    rfl
  have q : ordOk (.tup [.int w, di l]) (.tup [.int v, di t]) = true := by
    unfold ordOk
    rw [q1, q2, q3]
    rfl
  show (if ordOk (.tup [.int w, di l]) (.tup [.int v, di t]) = true then _ else _) = _
  rw [if_pos q]
  have e : ∀ (z : Int) (zs : List Int), PySem.W.keyToks (py (.tup [.int z, di zs])) = .inl 1 :: .inl z :: .inl 1 :: (PySem.W.keyToksAll (pys (zs.map DV.int)) ++ [.inl 0]) := fun z zs => by
    show PySem.W.keyToksAll [.int z, .list (pys (zs.map DV.int))] = _
    simp [PySem.W.keyToksAll, PySem.W.keyToks]
  show Rs.ok (DV.bl (PySem.W.dataLt (py (.tup [.int w, di l])) (py (.tup [.int v, di t])))) = _
  unfold PySem.W.dataLt
  rw [e, e, PyProof.Rows.lex_self (O := PyProof.Rows.itemOrd), PyProof.Rows.lex_cons (O := PyProof.Rows.itemOrd), PyProof.Rows.lex_self (O := PyProof.Rows.itemOrd), lex_toks l t _ h]
  rfl
theorem lt_ly {pr : Nat → Int} {p q : List Nat} (h : p.length = q.length) : dLtD (yD pr p) (yD pr q) = .ok (.bl (ltP pr p q)) := by
  have e := lt_uD (w := psum pr p) (v := psum pr q) (l := isN p) (t := isN q) (by rw [isN_len, isN_len, h])
  refine e.trans ?_
  unfold ltP
  rw [decide_eq_false (by omega : ¬ (p.length : Int) < q.length), decide_eq_false (by omega : ¬ (q.length : Int) < p.length)]
  rfl
theorem ly_ix {pr : Nat → Int} {L : Lbs} {v : Nat} {z : Int} (e : z = (v : Int)) (h : v < L.length) : dIx (lsY pr L) (.int z) = .ok (lyD pr (lv L v)) := by
  unfold lv
  rw [getD_lt h]
  exact dIx_g (g := lyD pr) v e h
theorem ly_set {pr : Nat → Int} {L : Lbs} {v : Nat} {p : List Nat} (h : v < L.length) : setD (lsY pr L) (.int (v : Int)) (yD pr p) = .ok (lsY pr (L.set v (some p))) := by
  unfold lsY setD
  simp only [List.length_map]
  rw [ixN_nat h]
  simp [List.map_set, lyD]
theorem isn_ly {pr : Nat → Int} {x : Option (List Nat)} : dIsN (lyD pr x) .non = .ok (.bl x.isNone) := by cases x <;> rfl
theorem notn_ly {pr : Nat → Int} {x : Option (List Nat)} : dNotN (lyD pr x) .non = .ok (.bl x.isSome) := by cases x <;> rfl
theorem rep_ly {pr : Nat → Int} {n : Nat} (h : n ≤ 1000) : dRep (.lst [.non]) (.int (n : Int)) = .ok (lsY pr (none0 n)) := by
  unfold dRep lsY none0
  dsimp only
  rw [if_pos ⟨by rw [Int.toNat_natCast, sz_eq]; show 1 * n ≤ _; omega, by omega, by omega⟩, Int.toNat_natCast]
  congr 2
  induction n with
  | zero => rfl
  | succ n ih =>
    rw [List.replicate_succ, List.flatten_cons, ih (by omega), List.replicate_succ, List.map_cons]
    rfl
theorem ls_set2 {pr : Nat → Int} {L : Lbs} {v : Nat} {p : List Nat} {z : Int} (e : z = (v : Int)) (h : v < L.length) : setD (lsD pr L) (.int z) (lbD pr p) = .ok (lsD pr (L.set v (some p))) := by
  subst e
  exact ls_set h
theorem one_d {a : GE} {ρ : EnvD} {x : DV} (h : a ρ = .ok x) : eLst (aCons a aNil) ρ = .ok (.lst [x]) := by
  rw [ev_lst, ev_cons, h]
  show (if 0 + 1 ≤ sizeLine then _ else _) = _
  rw [if_pos (by decide)]
theorem cat_di {xs ys : List Int} (h : xs.length + ys.length ≤ 100000) : dAdd (di xs) (di ys) = .ok (di (xs ++ ys)) := by
  have : (xs.map DV.int).length + (ys.map DV.int).length ≤ sizeLine := by rw [List.length_map, List.length_map, sz_eq]; omega
  show (match (match (Rs.stuck : Rs DV) with | .stuck => (match dCat (di xs) (di ys) with | .stuck => dCatS (di xs) (di ys) | r => r) | r => r) with | r => r) = _
  simp only [dCat, this, if_true]
  simp [List.map_append]
section
variable {n s : Nat} {es : List Ed} {arcs : Bool} {Y B A : Lbs} {c : Nat} {t6 t7 t8 t9 t10 t11 t12 t13 : Option DV}
def vbL : GS := (gIfS (gB (gBin dNotN (gBin dIx (gVar 5) (gVar 7)) (gC .non))) (gSeq (gAsg (gPure (eTup (aCons (gBin dIx (gBin dIx (gVar 5) (gVar 7)) (gC (.int 0))) (aCons (gVar 6) (aCons (gBin dIx (gBin dIx (gVar 5) (gVar 7)) (gC (.int 1))) aNil))))) (gtName 8)) (gIfS (gOr (gB (gBin dIsN (gBin dIx (gVar 4) (gVar 7)) (gC .non))) (gB (gBin dLtD (gVar 8) (gBin dIx (gVar 4) (gVar 7))))) (gSetI 4 (gVar 7) (gPure (gVar 8))) gNext)) gNext)
theorem vL_turn {v : Nat} (hv : v < n) (hY : Y.length = n) (hB : B.length = n) (hc : ∀ v p, lv Y v = some p → p.length = c) : ∃ u8 : Option DV, vbL [some (.int (n : Int)), some (esD es), some (.int (s : Int)), some (.bl arcs), some (lsD (prc es) B), some (lsY (prc es) Y), some (.int ((0 : Int) + (c : Int))), some (.int ((0 : Int) + (v : Int))), t8, t9, t10, t11, t12, t13] = .nx [some (.int (n : Int)), some (esD es), some (.int (s : Int)), some (.bl arcs), some (lsD (prc es) (best1 (prc es) Y B v)), some (lsY (prc es) Y), some (.int ((0 : Int) + (c : Int))), some (.int ((0 : Int) + (v : Int))), u8, t9, t10, t11, t12, t13] := by
  have g : (gBin dIx (gVar 5) (gVar 7)) [some (.int (n : Int)), some (esD es), some (.int (s : Int)), some (.bl arcs), some (lsD (prc es) B), some (lsY (prc es) Y), some (.int ((0 : Int) + (c : Int))), some (.int ((0 : Int) + (v : Int))), t8, t9, t10, t11, t12, t13] = .ok (lyD (prc es) (lv Y v)) := (bin_e rfl rfl).trans (ly_ix (by omega) (by omega))
  have t : ((gB (gBin dNotN (gBin dIx (gVar 5) (gVar 7)) (gC .non)))) [some (.int (n : Int)), some (esD es), some (.int (s : Int)), some (.bl arcs), some (lsD (prc es) B), some (lsY (prc es) Y), some (.int ((0 : Int) + (c : Int))), some (.int ((0 : Int) + (v : Int))), t8, t9, t10, t11, t12, t13] = .ok (lv Y v).isSome := b_e ((bin_e g rfl).trans notn_ly)
  unfold vbL best1
  rw [ev_ifS t]
  cases h : lv Y v with
  | none => exact ⟨t8, rfl⟩
  | some p =>
    rw [h] at g
    have pl := hc v p h
    have s1 : (gAsg (gPure (eTup (aCons (gBin dIx (gBin dIx (gVar 5) (gVar 7)) (gC (.int 0))) (aCons (gVar 6) (aCons (gBin dIx (gBin dIx (gVar 5) (gVar 7)) (gC (.int 1))) aNil))))) (gtName 8)) [some (.int (n : Int)), some (esD es), some (.int (s : Int)), some (.bl arcs), some (lsD (prc es) B), some (lsY (prc es) Y), some (.int ((0 : Int) + (c : Int))), some (.int ((0 : Int) + (v : Int))), t8, t9, t10, t11, t12, t13] = .nx [some (.int (n : Int)), some (esD es), some (.int (s : Int)), some (.bl arcs), some (lsD (prc es) B), some (lsY (prc es) Y), some (.int ((0 : Int) + (c : Int))), some (.int ((0 : Int) + (v : Int))), some (lbD (prc es) p), t9, t10, t11, t12, t13] := by
      refine set_e (i := 8) (tup3 ((bin_e g rfl).trans rfl) ?_ ((bin_e g rfl).trans rfl))
      rw [pl]
      exact (rfl : _ = Rs.ok (DV.int ((0 : Int) + (c : Int)))).trans (by rw [Int.zero_add])
    have gb : (gBin dIx (gVar 4) (gVar 7)) [some (.int (n : Int)), some (esD es), some (.int (s : Int)), some (.bl arcs), some (lsD (prc es) B), some (lsY (prc es) Y), some (.int ((0 : Int) + (c : Int))), some (.int ((0 : Int) + (v : Int))), some (lbD (prc es) p), t9, t10, t11, t12, t13] = .ok (labD (prc es) (lv B v)) := (bin_e rfl rfl).trans (ls_ix (by omega) (by omega))
    have s2 : (gSetI 4 (gVar 7) (gPure (gVar 8))) [some (.int (n : Int)), some (esD es), some (.int (s : Int)), some (.bl arcs), some (lsD (prc es) B), some (lsY (prc es) Y), some (.int ((0 : Int) + (c : Int))), some (.int ((0 : Int) + (v : Int))), some (lbD (prc es) p), t9, t10, t11, t12, t13] = .nx [some (.int (n : Int)), some (esD es), some (.int (s : Int)), some (.bl arcs), some (lsD (prc es) (B.set v (some p))), some (lsY (prc es) Y), some (.int ((0 : Int) + (c : Int))), some (.int ((0 : Int) + (v : Int))), some (lbD (prc es) p), t9, t10, t11, t12, t13] := setI_e rfl rfl rfl (ls_set2 (by omega) (by omega))
    refine ⟨some (lbD (prc es) p), ?_⟩
    dsimp only
    rw [if_pos (show (some p).isSome = true from rfl), ev_seq s1]
    unfold rlx
    dsimp only
    cases h2 : lv B v with
    | none =>
      rw [h2] at gb
      have t2 : ((gOr (gB (gBin dIsN (gBin dIx (gVar 4) (gVar 7)) (gC .non))) (gB (gBin dLtD (gVar 8) (gBin dIx (gVar 4) (gVar 7)))))) [some (.int (n : Int)), some (esD es), some (.int (s : Int)), some (.bl arcs), some (lsD (prc es) B), some (lsY (prc es) Y), some (.int ((0 : Int) + (c : Int))), some (.int ((0 : Int) + (v : Int))), some (lbD (prc es) p), t9, t10, t11, t12, t13] = .ok true := or_t (b_e ((bin_e gb rfl).trans isn_lab))
      rw [ev_ifS t2, if_pos rfl, s2]
    | some q =>
      rw [h2] at gb
      have t2 : ((gOr (gB (gBin dIsN (gBin dIx (gVar 4) (gVar 7)) (gC .non))) (gB (gBin dLtD (gVar 8) (gBin dIx (gVar 4) (gVar 7)))))) [some (.int (n : Int)), some (esD es), some (.int (s : Int)), some (.bl arcs), some (lsD (prc es) B), some (lsY (prc es) Y), some (.int ((0 : Int) + (c : Int))), some (.int ((0 : Int) + (v : Int))), some (lbD (prc es) p), t9, t10, t11, t12, t13] = .ok (ltP (prc es) p q) := (or_f (b_e ((bin_e gb rfl).trans isn_lab))).trans (b_e ((bin_e rfl gb).trans lt_lab))
      rw [ev_ifS t2]
      dsimp only
      cases h3 : ltP (prc es) p q with
      | true => rw [if_pos rfl, if_pos rfl, s2]
      | false =>
        rw [if_neg (by decide), if_neg (by decide)]
        rfl
theorem vL_for (hY : Y.length = n) (hc : ∀ v p, lv Y v = some p → p.length = c) : ∀ (vs : List Nat) (B : Lbs) (t7 t8 : Option DV), (∀ v ∈ vs, v < n) → B.length = n → ∃ u7 u8 : Option DV, forG (gtName 7) vbL (vs.map fun v : Nat => DV.int ((0 : Int) + (v : Int))) [some (.int (n : Int)), some (esD es), some (.int (s : Int)), some (.bl arcs), some (lsD (prc es) B), some (lsY (prc es) Y), some (.int ((0 : Int) + (c : Int))), t7, t8, t9, t10, t11, t12, t13] = .nx [some (.int (n : Int)), some (esD es), some (.int (s : Int)), some (.bl arcs), some (lsD (prc es) (bestF (prc es) Y vs B)), some (lsY (prc es) Y), some (.int ((0 : Int) + (c : Int))), u7, u8, t9, t10, t11, t12, t13]
  | [], B, t7, t8, _, _ => ⟨t7, t8, rfl⟩
  | v :: vs, B, t7, t8, h, hB => by
    obtain ⟨u8, e⟩ := vL_turn (s := s) (es := es) (arcs := arcs) (t8 := t8) (t9 := t9) (t10 := t10) (t11 := t11) (t12 := t12) (t13 := t13) (h v List.mem_cons_self) hY hB hc
    obtain ⟨u7', u8', f⟩ := vL_for hY hc vs (best1 (prc es) Y B v) (some (.int ((0 : Int) + (v : Int)))) u8 (fun x hx => h x (List.mem_cons_of_mem _ hx)) (by rw [best1_len, hB])
    refine ⟨u7', u8', ?_⟩
    unfold bestF
    rw [List.map_cons, forG_cons rfl e]
    exact f
def sbL : GS := (gIfS (gB (gBin dNotN (gBin dIx (gVar 5) (gVar 10)) (gC .non))) (gSeq (gAsg (gPure (eTup (aCons (gBin dAdd (gBin dIx (gBin dIx (gVar 5) (gVar 10)) (gC (.int 0))) (gVar 12)) (aCons (gBin dAdd (gBin dIx (gBin dIx (gVar 5) (gVar 10)) (gC (.int 1))) (eLst (aCons (gVar 13) aNil))) aNil)))) (gtName 8)) (gIfS (gOr (gB (gBin dIsN (gBin dIx (gVar 9) (gVar 11)) (gC .non))) (gB (gBin dLtD (gVar 8) (gBin dIx (gVar 9) (gVar 11))))) (gSetI 9 (gVar 11) (gPure (gVar 8))) gNext)) gNext)
theorem sL_turn {z : Q4} (hg : ∀ e ∈ es, Ge (n : Int) e) (hz : z ∈ lstp arcs es) (hY : Y.length = n) (hA : A.length = n) (hc : ∀ v p, lv Y v = some p → p.length = c) (ha : ∀ v p, lv A v = some p → p.length = c + 1) (hc1 : c ≤ 1000) : ∃ u8 : Option DV, sbL [some (.int (n : Int)), some (esD es), some (.int (s : Int)), some (.bl arcs), some (lsD (prc es) B), some (lsY (prc es) Y), some (.int ((0 : Int) + (c : Int))), t7, t8, some (lsY (prc es) A), some (.int z.1), some (.int z.2.1), some (.int (z.2.2.1)), some (.int (z.2.2.2 : Int))] = .nx [some (.int (n : Int)), some (esD es), some (.int (s : Int)), some (.bl arcs), some (lsD (prc es) B), some (lsY (prc es) Y), some (.int ((0 : Int) + (c : Int))), t7, u8, some (lsY (prc es) (lay1 (prc es) Y A z)), some (.int z.1), some (.int z.2.1), some (.int (z.2.2.1)), some (.int (z.2.2.2 : Int))] := by
  obtain ⟨u, k, v, rfl, h3⟩ := (lstp_iff hg).mp hz
  have uv : u < n ∧ v < n := by
    obtain ⟨a1, a2, a3, a4, a5, a6, a7⟩ := hg _ (eAt_mem h3.1)
    rcases h3.2 with ⟨b1, b2⟩ | ⟨_, b1, b2⟩ <;> omega
  have g : (gBin dIx (gVar 5) (gVar 10)) [some (.int (n : Int)), some (esD es), some (.int (s : Int)), some (.bl arcs), some (lsD (prc es) B), some (lsY (prc es) Y), some (.int ((0 : Int) + (c : Int))), t7, t8, some (lsY (prc es) A), some (.int (u : Int)), some (.int (v : Int)), some (.int (prc es k)), some (.int (k : Int))] = .ok (lyD (prc es) (lv Y u)) := (bin_e rfl rfl).trans (ly_ix rfl (by omega))
  have t : ((gB (gBin dNotN (gBin dIx (gVar 5) (gVar 10)) (gC .non)))) [some (.int (n : Int)), some (esD es), some (.int (s : Int)), some (.bl arcs), some (lsD (prc es) B), some (lsY (prc es) Y), some (.int ((0 : Int) + (c : Int))), t7, t8, some (lsY (prc es) A), some (.int (u : Int)), some (.int (v : Int)), some (.int (prc es k)), some (.int (k : Int))] = .ok (lv Y u).isSome := b_e ((bin_e g rfl).trans notn_ly)
  have q0 : lay1 (prc es) Y A ((u : Int), (v : Int), prc es k, k) = match lv Y u with | none => A | some p => (rlx (prc es) (A, false) (p ++ [k]) v).1 := rfl
  show ∃ u8 : Option DV, sbL [some (.int (n : Int)), some (esD es), some (.int (s : Int)), some (.bl arcs), some (lsD (prc es) B), some (lsY (prc es) Y), some (.int ((0 : Int) + (c : Int))), t7, t8, some (lsY (prc es) A), some (.int (u : Int)), some (.int (v : Int)), some (.int (prc es k)), some (.int (k : Int))] = .nx [some (.int (n : Int)), some (esD es), some (.int (s : Int)), some (.bl arcs), some (lsD (prc es) B), some (lsY (prc es) Y), some (.int ((0 : Int) + (c : Int))), t7, u8, some (lsY (prc es) (lay1 (prc es) Y A ((u : Int), (v : Int), prc es k, k))), some (.int (u : Int)), some (.int (v : Int)), some (.int (prc es k)), some (.int (k : Int))]
  unfold sbL
  rw [ev_ifS t, q0]
  cases h : lv Y u with
  | none => exact ⟨t8, rfl⟩
  | some p =>
    rw [h] at g
    have pl := hc u p h
    have s1 : (gAsg (gPure (eTup (aCons (gBin dAdd (gBin dIx (gBin dIx (gVar 5) (gVar 10)) (gC (.int 0))) (gVar 12)) (aCons (gBin dAdd (gBin dIx (gBin dIx (gVar 5) (gVar 10)) (gC (.int 1))) (eLst (aCons (gVar 13) aNil))) aNil)))) (gtName 8)) [some (.int (n : Int)), some (esD es), some (.int (s : Int)), some (.bl arcs), some (lsD (prc es) B), some (lsY (prc es) Y), some (.int ((0 : Int) + (c : Int))), t7, t8, some (lsY (prc es) A), some (.int (u : Int)), some (.int (v : Int)), some (.int (prc es k)), some (.int (k : Int))] = .nx [some (.int (n : Int)), some (esD es), some (.int (s : Int)), some (.bl arcs), some (lsD (prc es) B), some (lsY (prc es) Y), some (.int ((0 : Int) + (c : Int))), t7, some (yD (prc es) (p ++ [k])), some (lsY (prc es) A), some (.int (u : Int)), some (.int (v : Int)), some (.int (prc es k)), some (.int (k : Int))] := by
      have a : ((gBin dAdd (gBin dIx (gBin dIx (gVar 5) (gVar 10)) (gC (.int 0))) (gVar 12))) [some (.int (n : Int)), some (esD es), some (.int (s : Int)), some (.bl arcs), some (lsD (prc es) B), some (lsY (prc es) Y), some (.int ((0 : Int) + (c : Int))), t7, t8, some (lsY (prc es) A), some (.int (u : Int)), some (.int (v : Int)), some (.int (prc es k)), some (.int (k : Int))] = .ok (.int (psum (prc es) (p ++ [k]))) := by
        refine ((bin_e ((bin_e g rfl).trans rfl) rfl).trans dAdd_i).trans ?_
        rw [psum_app, psum_one]
      have b : ((gBin dAdd (gBin dIx (gBin dIx (gVar 5) (gVar 10)) (gC (.int 1))) (eLst (aCons (gVar 13) aNil)))) [some (.int (n : Int)), some (esD es), some (.int (s : Int)), some (.bl arcs), some (lsD (prc es) B), some (lsY (prc es) Y), some (.int ((0 : Int) + (c : Int))), t7, t8, some (lsY (prc es) A), some (.int (u : Int)), some (.int (v : Int)), some (.int (prc es k)), some (.int (k : Int))] = .ok (di (isN (p ++ [k]))) := by
        refine ((bin_e ((bin_e g rfl).trans rfl) (one_d rfl)).trans (cat_di (xs := isN p) (ys := [(k : Int)]) (by rw [isN_len]; show p.length + 1 ≤ _; omega))).trans ?_
        unfold isN
        rw [List.map_append]
        rfl
      exact set_e (i := 8) (tup2 a b)
    have gb : (gBin dIx (gVar 9) (gVar 11)) [some (.int (n : Int)), some (esD es), some (.int (s : Int)), some (.bl arcs), some (lsD (prc es) B), some (lsY (prc es) Y), some (.int ((0 : Int) + (c : Int))), t7, some (yD (prc es) (p ++ [k])), some (lsY (prc es) A), some (.int (u : Int)), some (.int (v : Int)), some (.int (prc es k)), some (.int (k : Int))] = .ok (lyD (prc es) (lv A v)) := (bin_e rfl rfl).trans (ly_ix rfl (by omega))
    have s2 : (gSetI 9 (gVar 11) (gPure (gVar 8))) [some (.int (n : Int)), some (esD es), some (.int (s : Int)), some (.bl arcs), some (lsD (prc es) B), some (lsY (prc es) Y), some (.int ((0 : Int) + (c : Int))), t7, some (yD (prc es) (p ++ [k])), some (lsY (prc es) A), some (.int (u : Int)), some (.int (v : Int)), some (.int (prc es k)), some (.int (k : Int))] = .nx [some (.int (n : Int)), some (esD es), some (.int (s : Int)), some (.bl arcs), some (lsD (prc es) B), some (lsY (prc es) Y), some (.int ((0 : Int) + (c : Int))), t7, some (yD (prc es) (p ++ [k])), some (lsY (prc es) (A.set v (some (p ++ [k])))), some (.int (u : Int)), some (.int (v : Int)), some (.int (prc es k)), some (.int (k : Int))] := setI_e rfl rfl rfl (ly_set (by omega))
    refine ⟨some (yD (prc es) (p ++ [k])), ?_⟩
    rw [if_pos (show (some p).isSome = true from rfl), ev_seq s1]
    dsimp only
    unfold rlx
    dsimp only
    cases h2 : lv A v with
    | none =>
      rw [h2] at gb
      have t2 : ((gOr (gB (gBin dIsN (gBin dIx (gVar 9) (gVar 11)) (gC .non))) (gB (gBin dLtD (gVar 8) (gBin dIx (gVar 9) (gVar 11)))))) [some (.int (n : Int)), some (esD es), some (.int (s : Int)), some (.bl arcs), some (lsD (prc es) B), some (lsY (prc es) Y), some (.int ((0 : Int) + (c : Int))), t7, some (yD (prc es) (p ++ [k])), some (lsY (prc es) A), some (.int (u : Int)), some (.int (v : Int)), some (.int (prc es k)), some (.int (k : Int))] = .ok true := or_t (b_e ((bin_e gb rfl).trans isn_ly))
      rw [ev_ifS t2, if_pos rfl, s2]
    | some q =>
      rw [h2] at gb
      have ql := ha v q h2
      have t2 : ((gOr (gB (gBin dIsN (gBin dIx (gVar 9) (gVar 11)) (gC .non))) (gB (gBin dLtD (gVar 8) (gBin dIx (gVar 9) (gVar 11)))))) [some (.int (n : Int)), some (esD es), some (.int (s : Int)), some (.bl arcs), some (lsD (prc es) B), some (lsY (prc es) Y), some (.int ((0 : Int) + (c : Int))), t7, some (yD (prc es) (p ++ [k])), some (lsY (prc es) A), some (.int (u : Int)), some (.int (v : Int)), some (.int (prc es k)), some (.int (k : Int))] = .ok (ltP (prc es) (p ++ [k]) q) := (or_f (b_e ((bin_e gb rfl).trans isn_ly))).trans (b_e ((bin_e rfl gb).trans (lt_ly (by rw [List.length_append, ql, pl]; rfl))))
      rw [ev_ifS t2]
      dsimp only
      cases h3 : ltP (prc es) (p ++ [k]) q with
      | true => rw [if_pos rfl, if_pos rfl, s2]
      | false =>
        rw [if_neg (by decide), if_neg (by decide)]
        rfl
theorem sL_for (hg : ∀ e ∈ es, Ge (n : Int) e) (hY : Y.length = n) (hc : ∀ v p, lv Y v = some p → p.length = c) (hc1 : c ≤ 1000) : ∀ (zs : List Q4) (A : Lbs) (t8 t10 t11 t12 t13 : Option DV), (∀ z ∈ zs, z ∈ lstp arcs es) → A.length = n → (∀ v p, lv A v = some p → p.length = c + 1) → ∃ u8 u10 u11 u12 u13 : Option DV, forG (gtTup [10, 11, 12, 13]) sbL (zs.map qD) [some (.int (n : Int)), some (esD es), some (.int (s : Int)), some (.bl arcs), some (lsD (prc es) B), some (lsY (prc es) Y), some (.int ((0 : Int) + (c : Int))), t7, t8, some (lsY (prc es) A), t10, t11, t12, t13] = .nx [some (.int (n : Int)), some (esD es), some (.int (s : Int)), some (.bl arcs), some (lsD (prc es) B), some (lsY (prc es) Y), some (.int ((0 : Int) + (c : Int))), t7, u8, some (lsY (prc es) (layF (prc es) Y zs A)), u10, u11, u12, u13]
  | [], A, t8, t10, t11, t12, t13, _, _, _ => ⟨t8, t10, t11, t12, t13, rfl⟩
  | z :: zs, A, t8, t10, t11, t12, t13, h, hA, ha => by
    have hz := h z List.mem_cons_self
    obtain ⟨u8, e⟩ := sL_turn (s := s) (B := B) (t7 := t7) (t8 := t8) hg hz hY hA hc ha hc1
    have lt := lstp_lt (arcs := arcs) hg
    have ha2 : ∀ v p, lv (lay1 (prc es) Y A z) v = some p → p.length = c + 1 := by
      unfold lay1
      split
      · exact ha
      · rename_i p hp
        exact rlx_all (P := fun _ p => p.length = c + 1) (z := (A, false)) (by rw [hA]; exact lt z hz) ha (by rw [List.length_append, hc _ p hp]; rfl)
    obtain ⟨v8, v10, v11, v12, v13, f⟩ := sL_for hg hY hc hc1 zs (lay1 (prc es) Y A z) u8 (some (.int z.1)) (some (.int z.2.1)) (some (.int z.2.2.1)) (some (.int (z.2.2.2 : Int))) (fun x hx => h x (List.mem_cons_of_mem _ hx)) (by rw [lay1_len, hA]) ha2
    refine ⟨v8, v10, v11, v12, v13, ?_⟩
    unfold layF
    rw [List.map_cons, forG_cons rfl e]
    exact f
def cB : GS := (gSeq (gFor (gRng1 (aCons (gVar 0) aNil)) (gtName 7) (gIfS (gB (gBin dNotN (gBin dIx (gVar 5) (gVar 7)) (gC .non))) (gSeq (gAsg (gPure (eTup (aCons (gBin dIx (gBin dIx (gVar 5) (gVar 7)) (gC (.int 0))) (aCons (gVar 6) (aCons (gBin dIx (gBin dIx (gVar 5) (gVar 7)) (gC (.int 1))) aNil))))) (gtName 8)) (gIfS (gOr (gB (gBin dIsN (gBin dIx (gVar 4) (gVar 7)) (gC .non))) (gB (gBin dLtD (gVar 8) (gBin dIx (gVar 4) (gVar 7))))) (gSetI 4 (gVar 7) (gPure (gVar 8))) gNext)) gNext)) (gSeq (gAsg (gPure (gBin dRep (eLst (aCons (gC .non) aNil)) (gVar 0))) (gtName 9)) (gSeq (gFor (gSeqI (gCB m__law_steps (aCons (gVar 1) (aCons (gVar 3) aNil)))) (gtTup [10, 11, 12, 13]) (gIfS (gB (gBin dNotN (gBin dIx (gVar 5) (gVar 10)) (gC .non))) (gSeq (gAsg (gPure (eTup (aCons (gBin dAdd (gBin dIx (gBin dIx (gVar 5) (gVar 10)) (gC (.int 0))) (gVar 12)) (aCons (gBin dAdd (gBin dIx (gBin dIx (gVar 5) (gVar 10)) (gC (.int 1))) (eLst (aCons (gVar 13) aNil))) aNil)))) (gtName 8)) (gIfS (gOr (gB (gBin dIsN (gBin dIx (gVar 9) (gVar 11)) (gC .non))) (gB (gBin dLtD (gVar 8) (gBin dIx (gVar 9) (gVar 11))))) (gSetI 9 (gVar 11) (gPure (gVar 8))) gNext)) gNext)) (gAsg (gMove 9) (gtName 5)))))
theorem cL_turn (h : Hyp n s es) (he : es.length ≤ 400) (hc1 : c ≤ 1000) (hY : Y.length = n) (hB : B.length = n) (ex : Exact (prc es) (stp arcs es) s c Y) : ∃ u7 u8 u10 u11 u12 u13 : Option DV, cB [some (.int (n : Int)), some (esD es), some (.int (s : Int)), some (.bl arcs), some (lsD (prc es) B), some (lsY (prc es) Y), some (.int ((0 : Int) + (c : Int))), t7, t8, t9, t10, t11, t12, t13] = .nx [some (.int (n : Int)), some (esD es), some (.int (s : Int)), some (.bl arcs), some (lsD (prc es) (bestF (prc es) Y (List.range n) B)), some (lsY (prc es) (layF (prc es) Y (lstp arcs es) (none0 n))), some (.int ((0 : Int) + (c : Int))), u7, u8, none, u10, u11, u12, u13] := by
  have h4 := h.2.2.2
  have hc : ∀ v p, lv Y v = some p → p.length = c := fun v p e => (ex.1 v p e).2
  obtain ⟨u7, u8, f1⟩ := vL_for (s := s) (es := es) (arcs := arcs) (c := c) (t9 := t9) (t10 := t10) (t11 := t11) (t12 := t12) (t13 := t13) hY hc (List.range n) B t7 t8 (fun v hv => List.mem_range.mp hv) hB
  have s1 : gFor (gRng1 (aCons (gVar 0) aNil)) (gtName 7) vbL [some (.int (n : Int)), some (esD es), some (.int (s : Int)), some (.bl arcs), some (lsD (prc es) B), some (lsY (prc es) Y), some (.int ((0 : Int) + (c : Int))), t7, t8, t9, t10, t11, t12, t13] = .nx [some (.int (n : Int)), some (esD es), some (.int (s : Int)), some (.bl arcs), some (lsD (prc es) (bestF (prc es) Y (List.range n) B)), some (lsY (prc es) Y), some (.int ((0 : Int) + (c : Int))), u7, u8, t9, t10, t11, t12, t13] := ev_for (rng1_e (n := n) rfl rfl (by omega)) f1
  have s2 : (gAsg (gPure (gBin dRep (eLst (aCons (gC .non) aNil)) (gVar 0))) (gtName 9)) [some (.int (n : Int)), some (esD es), some (.int (s : Int)), some (.bl arcs), some (lsD (prc es) (bestF (prc es) Y (List.range n) B)), some (lsY (prc es) Y), some (.int ((0 : Int) + (c : Int))), u7, u8, t9, t10, t11, t12, t13] = .nx [some (.int (n : Int)), some (esD es), some (.int (s : Int)), some (.bl arcs), some (lsD (prc es) (bestF (prc es) Y (List.range n) B)), some (lsY (prc es) Y), some (.int ((0 : Int) + (c : Int))), u7, u8, some (lsY (prc es) (none0 n)), t10, t11, t12, t13] := set_e (i := 9) ((bin_e (x := .lst [.non]) rfl rfl).trans (rep_ly (by omega)))
  obtain ⟨v8, v10, v11, v12, v13, f2⟩ := sL_for (s := s) (arcs := arcs) (B := bestF (prc es) Y (List.range n) B) (c := c) (t7 := u7) h.2.1 hY hc hc1 (lstp arcs es) (none0 n) u8 t10 t11 t12 t13 (fun z hz => hz) none_len (fun v p e => by rw [none_lv] at e; cases e)
  have s3 : gFor (gSeqI (gCB m__law_steps (aCons (gVar 1) (aCons (gVar 3) aNil)))) (gtTup [10, 11, 12, 13]) sbL [some (.int (n : Int)), some (esD es), some (.int (s : Int)), some (.bl arcs), some (lsD (prc es) (bestF (prc es) Y (List.range n) B)), some (lsY (prc es) Y), some (.int ((0 : Int) + (c : Int))), u7, u8, some (lsY (prc es) (none0 n)), t10, t11, t12, t13] = .nx [some (.int (n : Int)), some (esD es), some (.int (s : Int)), some (.bl arcs), some (lsD (prc es) (bestF (prc es) Y (List.range n) B)), some (lsY (prc es) Y), some (.int ((0 : Int) + (c : Int))), u7, v8, some (lsY (prc es) (layF (prc es) Y (lstp arcs es) (none0 n))), v10, v11, v12, v13] := ev_for (seq_raw ((cb2 rfl rfl).trans (lsteps_ok he))) f2
  refine ⟨u7, v8, v10, v11, v12, v13, ?_⟩
  unfold cB
  show gSeq (gFor _ _ vbL) (gSeq _ (gSeq (gFor _ _ sbL) _)) _ = _
  rw [ev_seq s1, ev_seq s2, ev_seq s3]
  rfl
theorem llabels_ok (h : Hyp n s es) (he : es.length ≤ 400) : ∃ B : Lbs, m__law_labels [.int (n : Int), esD es, .int (s : Int), .bl arcs] = .ok (lsD (prc es) B) ∧ B.length = n ∧ Opt (prc es) (stp arcs es) s B := by
  have h4 := h.2.2.2
  have st : startD 14 [.int (n : Int), esD es, .int (s : Int), .bl arcs] = [some (.int (n : Int)), some (esD es), some (.int (s : Int)), some (.bl arcs), none, none, none, none, none, none, none, none, none, none] := rfl
  have s0 : (gAsg (gPure (gBin dRep (eLst (aCons (gC .non) aNil)) (gVar 0))) (gtName 4)) [some (.int (n : Int)), some (esD es), some (.int (s : Int)), some (.bl arcs), none, none, none, none, none, none, none, none, none, none] = .nx [some (.int (n : Int)), some (esD es), some (.int (s : Int)), some (.bl arcs), some (lsD (prc es) (none0 n)), none, none, none, none, none, none, none, none, none] := set_e (i := 4) ((bin_e (x := .lst [.non]) rfl rfl).trans (rep_lab (by omega)))
  have s1 : (gAsg (gPure (gBin dRep (eLst (aCons (gC .non) aNil)) (gVar 0))) (gtName 5)) [some (.int (n : Int)), some (esD es), some (.int (s : Int)), some (.bl arcs), some (lsD (prc es) (none0 n)), none, none, none, none, none, none, none, none, none] = .nx [some (.int (n : Int)), some (esD es), some (.int (s : Int)), some (.bl arcs), some (lsD (prc es) (none0 n)), some (lsY (prc es) (none0 n)), none, none, none, none, none, none, none, none] := set_e (i := 5) ((bin_e (x := .lst [.non]) rfl rfl).trans (rep_ly (by omega)))
  have s2 : (gSetI 5 (gVar 2) (gPure (eTup (aCons (gC (.int 0)) (aCons (eLst aNil) aNil))))) [some (.int (n : Int)), some (esD es), some (.int (s : Int)), some (.bl arcs), some (lsD (prc es) (none0 n)), some (lsY (prc es) (none0 n)), none, none, none, none, none, none, none, none] = .nx [some (.int (n : Int)), some (esD es), some (.int (s : Int)), some (.bl arcs), some (lsD (prc es) (none0 n)), some (lsY (prc es) (start0 n s)), none, none, none, none, none, none, none, none] := setI_e (y := yD (prc es) []) rfl rfl rfl (ly_set (by rw [none_len]; exact h.2.2.1))
  obtain ⟨ρ', f, Y, B, t6, t7, t8, t10, t11, t12, t13, e, hY, hB, ex, ls⟩ := forG_rngB (tg := gtName 6) (b := cB) n (fun c ρ => ∃ (Y B : Lbs) (t6 t7 t8 t10 t11 t12 t13 : Option DV), ρ = [some (.int (n : Int)), some (esD es), some (.int (s : Int)), some (.bl arcs), some (lsD (prc es) B), some (lsY (prc es) Y), t6, t7, t8, none, t10, t11, t12, t13] ∧ Y.length = n ∧ B.length = n ∧ Exact (prc es) (stp arcs es) s c Y ∧ Less (prc es) (stp arcs es) s c B) (fun c ρ hc hh => by
    obtain ⟨Y, B, t6, t7, t8, t10, t11, t12, t13, rfl, hY, hB, ex, ls⟩ := hh
    obtain ⟨u7, u8, u10, u11, u12, u13, k⟩ := cL_turn (t7 := t7) (t8 := t8) (t9 := none) (t10 := t10) (t11 := t11) (t12 := t12) (t13 := t13) h he (by omega : c ≤ 1000) hY hB ex
    exact ⟨_, _, rfl, k, _, _, some (.int ((0 : Int) + (c : Int))), u7, u8, u10, u11, u12, u13, rfl, by rw [layF_len, none_len], by rw [bestF_len, hB], exact_s h ex, less_s (stp_ok h.2.1) h.2.2.1 ex hB ls⟩) n 0 [some (.int (n : Int)), some (esD es), some (.int (s : Int)), some (.bl arcs), some (lsD (prc es) (none0 n)), some (lsY (prc es) (start0 n s)), none, none, none, none, none, none, none, none] (by omega) ⟨start0 n s, none0 n, none, none, none, none, none, none, none, rfl, rnd_len (pr := prc es) (st := stp arcs es) (r := 0), none_len, exact_0 h.2.2.1, less_0⟩
  have s3 : gFor (gRng1 (aCons (gVar 0) aNil)) (gtName 6) cB [some (.int (n : Int)), some (esD es), some (.int (s : Int)), some (.bl arcs), some (lsD (prc es) (none0 n)), some (lsY (prc es) (start0 n s)), none, none, none, none, none, none, none, none] = .nx ρ' := ev_for (rng1_e (n := n) rfl rfl (by omega)) (by rw [rngD_eq]; exact f)
  rw [Nat.zero_add] at ls
  refine ⟨B, ?_, hB, less_opt (stp_ok h.2.1) h.2.2.1 (prc_nn h.2.1) ls⟩
  unfold m__law_labels runB b__law_labels
  rw [st, ev_seq s0, ev_seq s1, ev_seq s2]
  show finB (gSeq (gFor _ _ cB) _ _) = _
  rw [ev_seq s3, e]
  rfl
end
end M
end

/-! text Q3 -/
section
set_option maxRecDepth 100000
set_option maxHeartbeats 4000000
namespace M
open PySem DL
theorem and_ff {s t : GT} {ρ : EnvD} (h : s ρ = .ok false) : gAnd s t ρ = .ok false := by
  unfold gAnd
  rw [h]
  rfl
theorem and_tt {s t : GT} {ρ : EnvD} (h : s ρ = .ok true) : gAnd s t ρ = t ρ := by
  unfold gAnd
  rw [h]
  rfl
theorem nb_set (h : v < S.length) : nb (S.set v (some x)) u = if u = v then some x else nb S u := by
  unfold nb
  rw [List.getD_eq_getElem?_getD, List.getD_eq_getElem?_getD, List.getElem?_set]
  by_cases e : v = u
  · subst e
    rw [if_pos rfl, if_pos rfl, if_pos h]
    rfl
  · rw [if_neg e, if_neg (fun x => e x.symm)]
theorem ns_set {N : List (Option Int)} {v : Nat} {x : Int} (h : v < N.length) : setD (nsD N) (.int (v : Int)) (.int x) = .ok (nsD (N.set v (some x))) := by
  unfold nsD setD
  simp only [List.length_map]
  rw [ixN_nat h]
  simp [List.map_set, oD]
theorem rep_o {n : Nat} (h : n ≤ 1000) : dRep (.lst [.non]) (.int (n : Int)) = .ok (nsD (List.replicate n none)) := by
  unfold dRep nsD
  dsimp only
  rw [if_pos ⟨by rw [Int.toNat_natCast, sz_eq]; show 1 * n ≤ _; omega, by omega, by omega⟩, Int.toNat_natCast]
  congr 2
  induction n with
  | zero => rfl
  | succ n ih =>
    rw [List.replicate_succ, List.flatten_cons, ih (by omega), List.replicate_succ, List.map_cons]
    rfl
/-! data that are equal to themselves -/
structure Rf (k : Nat) (d : DV) : Prop where
  eq : ∀ n, k ≤ n → eqok d n = true
  rf : PyData.eqv (py d) (py d) = true
theorem Rf.int {i : Int} : Rf 0 (.int i) := ⟨fun n _ => rfl, by simp [py, PyData.eqv]⟩
theorem Rf.non : Rf 0 .non := ⟨fun n _ => rfl, rfl⟩
theorem Rf.mono {k k' : Nat} {d : DV} (h : Rf k d) (e : k ≤ k') : Rf k' d := ⟨fun n hn => h.eq n (Nat.le_trans e hn), h.rf⟩
theorem Rf.alls {k : Nat} : ∀ {ds : List DV}, (∀ d ∈ ds, Rf k d) → (∀ n, k ≤ n → eqoks ds n = true) ∧ PyData.eqvAll (pys ds) (pys ds) = true
  | [], _ => ⟨fun _ _ => rfl, by simp [pys, PyData.eqvAll]⟩
  | d :: ds, h => by
    obtain ⟨a, b⟩ := Rf.alls (ds := ds) fun x hx => h x (List.mem_cons_of_mem _ hx)
    have hd := h d List.mem_cons_self
    refine ⟨fun n hn => ?_, ?_⟩
    · show (eqok d n && eqoks ds n) = true
      rw [hd.eq n hn, a n hn]
      rfl
    · show PyData.eqvAll (py d :: pys ds) (py d :: pys ds) = true
      unfold PyData.eqvAll
      rw [hd.rf, b]
      rfl
theorem Rf.lst {k : Nat} {ds : List DV} (h : ∀ d ∈ ds, Rf k d) : Rf (k + 1) (.lst ds) := by
  obtain ⟨a, b⟩ := Rf.alls h
  refine ⟨fun n hn => ?_, ?_⟩
  · cases n with
    | zero => omega
    | succ n => exact a n (by omega)
  · show PyData.eqv (.list (pys ds)) (.list (pys ds)) = true
    unfold PyData.eqv
    exact b
theorem Rf.map {α : Type} {k : Nat} {g : α → DV} {xs : List α} (h : ∀ x ∈ xs, Rf k (g x)) : Rf (k + 1) (.lst (xs.map g)) := Rf.lst fun d hd => by
  obtain ⟨x, hx, e⟩ := List.mem_map.mp hd
  rw [← e]
  exact h x hx
theorem ne_rf {k : Nat} {d : DV} (h : Rf k d) (hk : k ≤ 20) : dNe d d = .ok (.bl false) := by
  unfold dNe
  rw [h.eq 20 hk, if_pos (by rfl)]
  have e : eqv d d = true := h.rf
  rw [e]
  rfl
theorem eq_rf {k : Nat} {d : DV} (h : Rf k d) (hk : k ≤ 20) : dEq d d = .ok (.bl true) := by
  unfold dEq
  rw [h.eq 20 hk, if_pos (by rfl)]
  have e : eqv d d = true := h.rf
  rw [e]
theorem oD_rf {x : Option Int} : Rf 0 (oD x) := by
  cases x with
  | none => exact Rf.non
  | some i => exact Rf.int
theorem nsD_rf {N : List (Option Int)} : Rf 1 (nsD N) := Rf.map fun x _ => oD_rf
theorem di_rf {xs : List Int} : Rf 1 (di xs) := Rf.map fun x _ => Rf.int
section
variable {n s g : Nat} {es : List Ed} {arcs : Bool} {L B : Lbs} {N : List (Option Int)}
theorem nb_ext {N M : List (Option Int)} (hl : N.length = M.length) (h : ∀ j, nb N j = nb M j) : N = M := by
  refine List.ext_getElem hl fun i h1 h2 => ?_
  have := h i
  unfold nb at this
  rw [getD_lt h1, getD_lt h2] at this
  exact this
theorem run_of : ∀ {q : List Nat} {u v : Nat} {t : Int}, Wf (stp arcs es) u q v → runP (prc es) (stp arcs es) (isN q) u t = some (v, t + psum (prc es) q)
  | [], u, v, t, h => by
    cases h
    show some (u, t) = some (u, t + 0)
    rw [Int.add_zero]
  | k :: q, u, v, t, ⟨w, h1, h2⟩ => by
    have e := nxt_of h1
    have ih := run_of (t := t + prc es ((k : Int)).toNat) h2
    show (match nxt (stp arcs es) u (k : Int) with | none => none | some v => runP (prc es) (stp arcs es) (isN q) v (t + prc es ((k : Int)).toNat)) = _
    rw [e]
    dsimp only
    rw [ih]
    congr 2
    unfold psum
    rw [List.map_cons, List.foldr_cons, Int.toNat_natCast]
    omega
theorem cb6 {a b c d e f : GE} {o : OpA} {ρ : EnvD} {x1 x2 x3 x4 x5 x6 : DV} (h1 : a ρ = .ok x1) (h2 : b ρ = .ok x2) (h3 : c ρ = .ok x3) (h4 : d ρ = .ok x4) (h5 : e ρ = .ok x5) (h6 : f ρ = .ok x6) : gCB o (aCons a (aCons b (aCons c (aCons d (aCons e (aCons f aNil)))))) ρ = o [x1, x2, x3, x4, x5, x6] := by
  rw [ev_cb, ev_cons, h1, ev_cons, h2, ev_cons, h3, ev_cons, h4, ev_cons, h5, ev_cons, h6]
  rfl
theorem opt_chk (h : Hyp n s es) {L : Lbs} (op : Opt (prc es) (stp arcs es) s L) (hl : L.length = n) {p : List Nat} (hp : lv L g = some p) : chkP (prc es) (stp arcs es) n s g (isN p) (lpr (prc es) L) = true := by
  have ll : (lpr (prc es) L).length = n := by unfold lpr; rw [List.length_map, hl]
  have b : isBd (prc es) (stp arcs es) n s (lpr (prc es) L) = true := by
    unfold isBd
    have h0 : st0 (lpr (prc es) L) s = true := by
      obtain ⟨q, h1, h2⟩ := op.2 s [] rfl
      unfold st0
      rw [nb_lpr, h1]
      have := LE_psum _ h2
      exact decide_eq_true (by simpa [psum] using this)
    have h1 : ((List.range n).any fun u => (stp arcs es u).any (badK (prc es) (lpr (prc es) L) u)) = false := by
      refine List.any_eq_false.mpr fun u hu => ?_
      rw [Bool.not_eq_true]
      refine List.any_eq_false.mpr fun kv hk => ?_
      unfold badK
      rw [nb_lpr, nb_lpr]
      cases c : lv L u with
      | none => exact Bool.false_ne_true
      | some p =>
        obtain ⟨q, h2, h3⟩ := op.2 kv.2 (p ++ [kv.1]) ((Wf_snoc _).mpr ⟨u, op.1 u p c, hk⟩)
        rw [h2]
        have := LE_psum _ h3
        rw [psum_app, psum_one] at this
        show ¬ decide (psum (prc es) p + prc es kv.1 < psum (prc es) q) = true
        rw [decide_eq_false (by omega)]
        exact Bool.false_ne_true
    rw [decide_eq_true ll, h0, h1]
    rfl
  unfold chkP
  rw [b, run_of (op.1 g p hp)]
  dsimp only
  rw [nb_lpr, hp, decide_eq_true rfl, Int.zero_add]
  show (true && (true && decide (some (psum (prc es) p) = some (psum (prc es) p)))) = true
  rw [decide_eq_true rfl]
  rfl
variable {t7 t8 t9 t10 : Option DV}
def duB : GS := (gIfS (gB (gBin dNotN (gBin dIx (gVar 5) (gVar 7)) (gC .non))) (gSetI 6 (gVar 7) (gPure (gBin dIx (gBin dIx (gVar 5) (gVar 7)) (gC (.int 0))))) gNext)
theorem du_turn {i : Nat} (hi : i < n) (hL : L.length = n) (hN : N.length = n) : duB [some (net (n : Int) es), some (.int (n : Int)), some (esD es), some (.int (s : Int)), some (.bl arcs), some (lsD (prc es) L), some (nsD N), some (.int ((0 : Int) + (i : Int))), none, none, none] = .nx [some (net (n : Int) es), some (.int (n : Int)), some (esD es), some (.int (s : Int)), some (.bl arcs), some (lsD (prc es) L), some (nsD (match lv L i with | none => N | some p => N.set i (some (psum (prc es) p)))), some (.int ((0 : Int) + (i : Int))), none, none, none] := by
  have g : (gBin dIx (gVar 5) (gVar 7)) [some (net (n : Int) es), some (.int (n : Int)), some (esD es), some (.int (s : Int)), some (.bl arcs), some (lsD (prc es) L), some (nsD N), some (.int ((0 : Int) + (i : Int))), none, none, none] = .ok (labD (prc es) (lv L i)) := (bin_e rfl rfl).trans (ls_ix (by omega) (by omega))
  have t : ((gB (gBin dNotN (gBin dIx (gVar 5) (gVar 7)) (gC .non)))) [some (net (n : Int) es), some (.int (n : Int)), some (esD es), some (.int (s : Int)), some (.bl arcs), some (lsD (prc es) L), some (nsD N), some (.int ((0 : Int) + (i : Int))), none, none, none] = .ok (lv L i).isSome := b_e ((bin_e g rfl).trans notn_lab)
  unfold duB
  rw [ev_ifS t]
  cases c : lv L i with
  | none => rfl
  | some p =>
    rw [c] at g
    rw [if_pos (show (some p).isSome = true from rfl)]
    refine setI_e (y := .int (psum (prc es) p)) ((bin_e g rfl).trans rfl) rfl rfl ?_
    have e : (0 : Int) + (i : Int) = (i : Int) := Int.zero_add _
    rw [e]
    exact ns_set (by omega)
theorem due_nb {i j : Nat} (hi : i < n) (hN : N.length = n) (h : ∀ j, nb N j = if j < i then nb (lpr (prc es) L) j else none) : nb (match lv L i with | none => N | some p => N.set i (some (psum (prc es) p))) j = if j < i + 1 then nb (lpr (prc es) L) j else none := by
  cases c : lv L i with
  | none =>
    dsimp only
    rw [h j]
    by_cases e : j = i
    · subst e
      rw [if_neg (Nat.lt_irrefl _), if_pos (Nat.lt_succ_self _), nb_lpr, c]
      rfl
    · by_cases e2 : j < i
      · rw [if_pos e2, if_pos (by omega)]
      · rw [if_neg e2, if_neg (by omega)]
  | some p =>
    dsimp only
    rw [nb_set (by omega), h j]
    by_cases e : j = i
    · subst e
      rw [if_pos rfl, if_pos (Nat.lt_succ_self _), nb_lpr, c]
      rfl
    · rw [if_neg e]
      by_cases e2 : j < i
      · rw [if_pos e2, if_pos (by omega)]
      · rw [if_neg e2, if_neg (by omega)]
def gpB : GS := (gSeq (gAsg (gPure (gCB m_told_path (aCons (gVar 0) (aCons (gVar 3) (aCons (gVar 9) (aCons (gVar 4) aNil)))))) (gtName 10)) (gSeq (gIfS (gB (gBin dIsN (gBin dIx (gVar 5) (gVar 9)) (gC .non))) (gIfS (gB (gBin dNotN (gVar 10) (gC .non))) (gRet (gPure (gC (.bl false)))) gNext) (gIfS (gOr (gB (gBin dNe (gVar 10) (gBin dIx (gBin dIx (gVar 5) (gVar 9)) (gC (.int 2))))) (gB (gBin dNotB (gCB m_check_path (aCons (gVar 0) (aCons (gVar 3) (aCons (gVar 9) (aCons (gVar 10) (aCons (gVar 8) (aCons (gVar 4) aNil))))))) (gC (.bl true))))) (gRet (gPure (gC (.bl false)))) gNext)) (gIfS (gB (gBin dNotN (gVar 10) (gC .non))) (gDrop (gApp 10 (gPure (gC (.int 0))))) gNext)))
theorem gp_turn (h : Hyp n s es) {i : Nat} (hi : i < n) (hL : L.length = n) (op : Opt (prc es) (stp arcs es) s L) (eL : m_told_labels [net (n : Int) es, .int (s : Int), .bl arcs] = .ok (lsD (prc es) L)) : ∃ u10 : Option DV, gpB [some (net (n : Int) es), some (.int (n : Int)), some (esD es), some (.int (s : Int)), some (.bl arcs), some (lsD (prc es) L), some (nsD (lpr (prc es) L)), t7, some (nsD (lpr (prc es) L)), some (.int ((0 : Int) + (i : Int))), t10] = .nx [some (net (n : Int) es), some (.int (n : Int)), some (esD es), some (.int (s : Int)), some (.bl arcs), some (lsD (prc es) L), some (nsD (lpr (prc es) L)), t7, some (nsD (lpr (prc es) L)), some (.int ((0 : Int) + (i : Int))), u10] := by
  have h4 := h.2.2.2
  have e : (0 : Int) + (i : Int) = (i : Int) := Int.zero_add _
  have s0 : (gAsg (gPure (gCB m_told_path (aCons (gVar 0) (aCons (gVar 3) (aCons (gVar 9) (aCons (gVar 4) aNil)))))) (gtName 10)) [some (net (n : Int) es), some (.int (n : Int)), some (esD es), some (.int (s : Int)), some (.bl arcs), some (lsD (prc es) L), some (nsD (lpr (prc es) L)), t7, some (nsD (lpr (prc es) L)), some (.int ((0 : Int) + (i : Int))), t10] = .nx [some (net (n : Int) es), some (.int (n : Int)), some (esD es), some (.int (s : Int)), some (.bl arcs), some (lsD (prc es) L), some (nsD (lpr (prc es) L)), t7, some (nsD (lpr (prc es) L)), some (.int ((0 : Int) + (i : Int))), some (paD (lv L i))] := by
    refine set_e (i := 10) ((cb4 rfl rfl rfl rfl).trans ?_)
    rw [e]
    exact path_of h hi eL hL
  have gl : (gBin dIx (gVar 5) (gVar 9)) [some (net (n : Int) es), some (.int (n : Int)), some (esD es), some (.int (s : Int)), some (.bl arcs), some (lsD (prc es) L), some (nsD (lpr (prc es) L)), t7, some (nsD (lpr (prc es) L)), some (.int ((0 : Int) + (i : Int))), some (paD (lv L i))] = .ok (labD (prc es) (lv L i)) := (bin_e rfl rfl).trans (ls_ix (by omega) (by omega))
  have ti : ((gB (gBin dIsN (gBin dIx (gVar 5) (gVar 9)) (gC .non)))) [some (net (n : Int) es), some (.int (n : Int)), some (esD es), some (.int (s : Int)), some (.bl arcs), some (lsD (prc es) L), some (nsD (lpr (prc es) L)), t7, some (nsD (lpr (prc es) L)), some (.int ((0 : Int) + (i : Int))), some (paD (lv L i))] = .ok (lv L i).isNone := b_e ((bin_e gl rfl).trans isn_lab)
  have tn : ∀ (x : Option (List Nat)) (a b : Option DV), (gB (gBin dNotN (gVar 10) (gC .non))) [some (net (n : Int) es), some (.int (n : Int)), some (esD es), some (.int (s : Int)), some (.bl arcs), some (lsD (prc es) L), some (nsD (lpr (prc es) L)), t7, a, b, some (paD x)] = .ok x.isSome := fun x a b => b_e ((bin_e rfl rfl).trans (by cases x <;> rfl))
  unfold gpB
  rw [ev_seq s0]
  cases c : lv L i with
  | none =>
    rw [c] at ti
    have a1 : (gIfS (gB (gBin dIsN (gBin dIx (gVar 5) (gVar 9)) (gC .non))) (gIfS (gB (gBin dNotN (gVar 10) (gC .non))) (gRet (gPure (gC (.bl false)))) gNext) (gIfS (gOr (gB (gBin dNe (gVar 10) (gBin dIx (gBin dIx (gVar 5) (gVar 9)) (gC (.int 2))))) (gB (gBin dNotB (gCB m_check_path (aCons (gVar 0) (aCons (gVar 3) (aCons (gVar 9) (aCons (gVar 10) (aCons (gVar 8) (aCons (gVar 4) aNil))))))) (gC (.bl true))))) (gRet (gPure (gC (.bl false)))) gNext)) [some (net (n : Int) es), some (.int (n : Int)), some (esD es), some (.int (s : Int)), some (.bl arcs), some (lsD (prc es) L), some (nsD (lpr (prc es) L)), t7, some (nsD (lpr (prc es) L)), some (.int ((0 : Int) + (i : Int))), some (paD none)] = .nx [some (net (n : Int) es), some (.int (n : Int)), some (esD es), some (.int (s : Int)), some (.bl arcs), some (lsD (prc es) L), some (nsD (lpr (prc es) L)), t7, some (nsD (lpr (prc es) L)), some (.int ((0 : Int) + (i : Int))), some (paD none)] := by
      rw [ev_ifS ti, if_pos (show (none : Option (List Nat)).isNone = true from rfl), ev_ifS (tn none _ _)]
      rfl
    refine ⟨some (paD none), ?_⟩
    rw [ev_seq a1, ev_ifS (tn none _ _)]
    rfl
  | some p =>
    rw [c] at gl ti
    have pl := opt_short (stp_ok h.2.1) h.2.2.1 (prc_nn h.2.1) op c
    have lq : (lpr (prc es) L).length ≤ 1000 := by unfold lpr; rw [List.length_map]; omega
    have ck : ((gCB m_check_path (aCons (gVar 0) (aCons (gVar 3) (aCons (gVar 9) (aCons (gVar 10) (aCons (gVar 8) (aCons (gVar 4) aNil)))))))) [some (net (n : Int) es), some (.int (n : Int)), some (esD es), some (.int (s : Int)), some (.bl arcs), some (lsD (prc es) L), some (nsD (lpr (prc es) L)), t7, some (nsD (lpr (prc es) L)), some (.int ((0 : Int) + (i : Int))), some (paD (some p))] = .ok (.bl true) := by
      refine (cb6 rfl rfl rfl rfl rfl rfl).trans ?_
      rw [e]
      refine (check_ok (P := isN p) h hi lq).trans ?_
      rw [opt_chk h op hL c]
    have ne : ((gB (gBin dNe (gVar 10) (gBin dIx (gBin dIx (gVar 5) (gVar 9)) (gC (.int 2)))))) [some (net (n : Int) es), some (.int (n : Int)), some (esD es), some (.int (s : Int)), some (.bl arcs), some (lsD (prc es) L), some (nsD (lpr (prc es) L)), t7, some (nsD (lpr (prc es) L)), some (.int ((0 : Int) + (i : Int))), some (paD (some p))] = .ok false := b_e ((bin_e (x := di (isN p)) rfl ((bin_e gl rfl).trans ix3_2)).trans (ne_rf (k := 1) di_rf (by decide)))
    have nb' : ((gB (gBin dNotB (gCB m_check_path (aCons (gVar 0) (aCons (gVar 3) (aCons (gVar 9) (aCons (gVar 10) (aCons (gVar 8) (aCons (gVar 4) aNil))))))) (gC (.bl true))))) [some (net (n : Int) es), some (.int (n : Int)), some (esD es), some (.int (s : Int)), some (.bl arcs), some (lsD (prc es) L), some (nsD (lpr (prc es) L)), t7, some (nsD (lpr (prc es) L)), some (.int ((0 : Int) + (i : Int))), some (paD (some p))] = .ok false := b_e ((bin_e ck rfl).trans rfl)
    have a1 : (gIfS (gB (gBin dIsN (gBin dIx (gVar 5) (gVar 9)) (gC .non))) (gIfS (gB (gBin dNotN (gVar 10) (gC .non))) (gRet (gPure (gC (.bl false)))) gNext) (gIfS (gOr (gB (gBin dNe (gVar 10) (gBin dIx (gBin dIx (gVar 5) (gVar 9)) (gC (.int 2))))) (gB (gBin dNotB (gCB m_check_path (aCons (gVar 0) (aCons (gVar 3) (aCons (gVar 9) (aCons (gVar 10) (aCons (gVar 8) (aCons (gVar 4) aNil))))))) (gC (.bl true))))) (gRet (gPure (gC (.bl false)))) gNext)) [some (net (n : Int) es), some (.int (n : Int)), some (esD es), some (.int (s : Int)), some (.bl arcs), some (lsD (prc es) L), some (nsD (lpr (prc es) L)), t7, some (nsD (lpr (prc es) L)), some (.int ((0 : Int) + (i : Int))), some (paD (some p))] = .nx [some (net (n : Int) es), some (.int (n : Int)), some (esD es), some (.int (s : Int)), some (.bl arcs), some (lsD (prc es) L), some (nsD (lpr (prc es) L)), t7, some (nsD (lpr (prc es) L)), some (.int ((0 : Int) + (i : Int))), some (paD (some p))] := by
      rw [ev_ifS ti, if_neg (by show ¬ (some p).isNone = true; exact Bool.false_ne_true), ev_ifS ((or_f ne).trans nb')]
      rfl
    have a2 : (gDrop (gApp 10 (gPure (gC (.int 0))))) [some (net (n : Int) es), some (.int (n : Int)), some (esD es), some (.int (s : Int)), some (.bl arcs), some (lsD (prc es) L), some (nsD (lpr (prc es) L)), t7, some (nsD (lpr (prc es) L)), some (.int ((0 : Int) + (i : Int))), some (paD (some p))] = .nx [some (net (n : Int) es), some (.int (n : Int)), some (esD es), some (.int (s : Int)), some (.bl arcs), some (lsD (prc es) L), some (nsD (lpr (prc es) L)), t7, some (nsD (lpr (prc es) L)), some (.int ((0 : Int) + (i : Int))), some (.lst ((isN p).map DV.int ++ [.int 0]))] := app_raw (ds := (isN p).map DV.int) rfl rfl (by rw [List.length_map, isN_len]; omega)
    refine ⟨some (.lst ((isN p).map DV.int ++ [.int 0])), ?_⟩
    rw [ev_seq a1, ev_ifS (tn (some p) _ _), if_pos (show (some p).isSome = true from rfl)]
    exact a2
theorem start_ok (h : Hyp n s es) (he : es.length ≤ 400) : m__law_start_right [net (n : Int) es, .int (n : Int), esD es, .int (s : Int), .bl arcs] = .ok (.bl true) := by
  have h4 := h.2.2.2
  obtain ⟨L, eL, hL, op⟩ := labels_ok (arcs := arcs) h
  obtain ⟨B, eB, hB, ob⟩ := llabels_ok (arcs := arcs) h he
  have eq := opt_eq op ob (by rw [hL, hB])
  subst eq
  have least := least_of h eL hL
  have lq : (lpr (prc es) L).length = n := by unfold lpr; rw [List.length_map, hL]
  have st : startD 11 [net (n : Int) es, .int (n : Int), esD es, .int (s : Int), .bl arcs] = [some (net (n : Int) es), some (.int (n : Int)), some (esD es), some (.int (s : Int)), some (.bl arcs), none, none, none, none, none, none] := rfl
  have s0 : (gAsg (gPure (gCB m__law_labels (aCons (gVar 1) (aCons (gVar 2) (aCons (gVar 3) (aCons (gVar 4) aNil)))))) (gtName 5)) [some (net (n : Int) es), some (.int (n : Int)), some (esD es), some (.int (s : Int)), some (.bl arcs), none, none, none, none, none, none] = .nx [some (net (n : Int) es), some (.int (n : Int)), some (esD es), some (.int (s : Int)), some (.bl arcs), some (lsD (prc es) L), none, none, none, none, none] := set_e (i := 5) ((cb4 rfl rfl rfl rfl).trans eB)
  have s1 : (gAsg (gPure (gBin dRep (eLst (aCons (gC .non) aNil)) (gVar 1))) (gtName 6)) [some (net (n : Int) es), some (.int (n : Int)), some (esD es), some (.int (s : Int)), some (.bl arcs), some (lsD (prc es) L), none, none, none, none, none] = .nx [some (net (n : Int) es), some (.int (n : Int)), some (esD es), some (.int (s : Int)), some (.bl arcs), some (lsD (prc es) L), some (nsD (List.replicate n none)), none, none, none, none] := set_e (i := 6) ((bin_e (x := .lst [.non]) rfl rfl).trans (rep_o (by omega)))
  obtain ⟨ρ', f, N, t7, e, hN, hq⟩ := forG_rngB (tg := gtName 7) (b := duB) n (fun i ρ => ∃ (N : List (Option Int)) (t7 : Option DV), ρ = [some (net (n : Int) es), some (.int (n : Int)), some (esD es), some (.int (s : Int)), some (.bl arcs), some (lsD (prc es) L), some (nsD N), t7, none, none, none] ∧ N.length = n ∧ ∀ j, nb N j = if j < i then nb (lpr (prc es) L) j else none) (fun i ρ hi hh => by
    obtain ⟨N, t7, rfl, hN, hq⟩ := hh
    refine ⟨_, _, rfl, du_turn (s := s) (arcs := arcs) hi hL hN, _, some (.int ((0 : Int) + (i : Int))), rfl, ?_, fun j => due_nb hi hN hq⟩
    split
    · exact hN
    · rw [List.length_set, hN]) n 0 [some (net (n : Int) es), some (.int (n : Int)), some (esD es), some (.int (s : Int)), some (.bl arcs), some (lsD (prc es) L), some (nsD (List.replicate n none)), none, none, none, none] (by omega) ⟨List.replicate n none, none, rfl, List.length_replicate .., fun j => by
      rw [if_neg (Nat.not_lt_zero _)]
      unfold nb
      rw [List.getD_eq_getElem?_getD, List.getElem?_replicate]
      split <;> rfl⟩
  have s2 : gFor (gRng1 (aCons (gVar 1) aNil)) (gtName 7) duB [some (net (n : Int) es), some (.int (n : Int)), some (esD es), some (.int (s : Int)), some (.bl arcs), some (lsD (prc es) L), some (nsD (List.replicate n none)), none, none, none, none] = .nx ρ' := ev_for (rng1_e (n := n) rfl rfl (by omega)) (by rw [rngD_eq]; exact f)
  have eN : N = lpr (prc es) L := nb_ext (by rw [hN, lq]) fun j => by
    rw [hq j, Nat.zero_add]
    by_cases c : j < n
    · rw [if_pos c]
    · rw [if_neg c]
      unfold nb
      rw [List.getD_eq_getElem?_getD, List.getElem?_eq_none (by omega)]
      rfl
  subst eN
  have s3 : (gAsg (gPure (gCB m_least_prices (aCons (gVar 0) (aCons (gVar 3) (aCons (gVar 4) aNil))))) (gtName 8)) [some (net (n : Int) es), some (.int (n : Int)), some (esD es), some (.int (s : Int)), some (.bl arcs), some (lsD (prc es) L), some (nsD (lpr (prc es) L)), t7, none, none, none] = .nx [some (net (n : Int) es), some (.int (n : Int)), some (esD es), some (.int (s : Int)), some (.bl arcs), some (lsD (prc es) L), some (nsD (lpr (prc es) L)), t7, some (nsD (lpr (prc es) L)), none, none] := set_e (i := 8) ((cb3 rfl rfl rfl).trans least)
  have t4 : ((gB (gBin dNe (gVar 8) (gVar 6)))) [some (net (n : Int) es), some (.int (n : Int)), some (esD es), some (.int (s : Int)), some (.bl arcs), some (lsD (prc es) L), some (nsD (lpr (prc es) L)), t7, some (nsD (lpr (prc es) L)), none, none] = .ok false := b_e ((bin_e rfl rfl).trans (ne_rf (k := 1) nsD_rf (by decide)))
  obtain ⟨ρ2, f2, t9, t10, e2⟩ := forG_rngB (tg := gtName 9) (b := gpB) n (fun i ρ => ∃ t9 t10 : Option DV, ρ = [some (net (n : Int) es), some (.int (n : Int)), some (esD es), some (.int (s : Int)), some (.bl arcs), some (lsD (prc es) L), some (nsD (lpr (prc es) L)), t7, some (nsD (lpr (prc es) L)), t9, t10]) (fun i ρ hi hh => by
    obtain ⟨t9, t10, rfl⟩ := hh
    obtain ⟨u10, k⟩ := gp_turn (t7 := t7) (t10 := t10) h hi hL op eL
    exact ⟨_, _, rfl, k, some (.int ((0 : Int) + (i : Int))), u10, rfl⟩) n 0 [some (net (n : Int) es), some (.int (n : Int)), some (esD es), some (.int (s : Int)), some (.bl arcs), some (lsD (prc es) L), some (nsD (lpr (prc es) L)), t7, some (nsD (lpr (prc es) L)), none, none] (by omega) ⟨none, none, rfl⟩
  have s5 : gFor (gRng1 (aCons (gVar 1) aNil)) (gtName 9) gpB [some (net (n : Int) es), some (.int (n : Int)), some (esD es), some (.int (s : Int)), some (.bl arcs), some (lsD (prc es) L), some (nsD (lpr (prc es) L)), t7, some (nsD (lpr (prc es) L)), none, none] = .nx ρ2 := ev_for (rng1_e (n := n) rfl rfl (by omega)) (by rw [rngD_eq]; exact f2)
  have s6 : (gDrop (gApp 8 (gPure (gC (.int 5))))) [some (net (n : Int) es), some (.int (n : Int)), some (esD es), some (.int (s : Int)), some (.bl arcs), some (lsD (prc es) L), some (nsD (lpr (prc es) L)), t7, some (nsD (lpr (prc es) L)), t9, t10] = .nx [some (net (n : Int) es), some (.int (n : Int)), some (esD es), some (.int (s : Int)), some (.bl arcs), some (lsD (prc es) L), some (nsD (lpr (prc es) L)), t7, some (.lst ((lpr (prc es) L).map oD ++ [.int 5])), t9, t10] := app_raw (ds := (lpr (prc es) L).map oD) rfl rfl (by rw [List.length_map, lq]; omega)
  have r : ((gBin dEq (gCB m_least_prices (aCons (gVar 0) (aCons (gVar 3) (aCons (gVar 4) aNil)))) (gVar 6))) [some (net (n : Int) es), some (.int (n : Int)), some (esD es), some (.int (s : Int)), some (.bl arcs), some (lsD (prc es) L), some (nsD (lpr (prc es) L)), t7, some (.lst ((lpr (prc es) L).map oD ++ [.int 5])), t9, t10] = .ok (.bl true) := (bin_e ((cb3 rfl rfl rfl).trans least) rfl).trans (eq_rf (k := 1) nsD_rf (by decide))
  unfold m__law_start_right runB b__law_start_right
  rw [st, ev_seq s0, ev_seq s1]
  show finB (gSeq (gFor _ _ duB) _ _) = _
  rw [ev_seq s2, e, ev_seq s3, ev_skip t4]
  show finB (gSeq (gFor _ _ gpB) _ _) = _
  rw [ev_seq s5, e2, ev_seq s6, ret_e r]
  rfl
end
end M
end

/-! text Q4 -/
section
set_option maxRecDepth 100000
set_option maxHeartbeats 4000000
namespace M
open PySem DL
section
variable {n s g v : Nat} {es : List Ed} {arcs : Bool}
/-- the least labels and prices of a vertex, edges as edges -/
def labV (es : List Ed) (n v : Nat) : Lbs := rnd (prc es) (stp false es) n v n
def row (es : List Ed) (n v : Nat) : List (Option Int) := lpr (prc es) (labV es n v)
def HypN (n : Nat) (es : List Ed) : Prop := es.length ≤ 400 ∧ (∀ e ∈ es, Ge (n : Int) e) ∧ n ≤ 40
theorem HypN.hyp (h : HypN n es) (hv : v < n) : Hyp n v es := ⟨Nat.le_trans h.1 (by decide), h.2.1, hv, Nat.le_trans h.2.2 (by decide)⟩
theorem labV_opt (h : HypN n es) (hv : v < n) : Opt (prc es) (stp false es) v (labV es n v) := rnd_opt (stp_ok h.2.1) hv (prc_nn h.2.1) (Nat.le_succ n)
theorem labV_len : (labV es n v).length = n := rnd_len
theorem row_len : (row es n v).length = n := by unfold row lpr; rw [List.length_map, labV_len]
theorem least_v (h : HypN n es) (hv : v < n) : m_least_prices [net (n : Int) es, .int (v : Int), .bl false] = .ok (nsD (row es n v)) := by
  obtain ⟨L, e, l, o⟩ := labels_ok (arcs := false) (h.hyp hv)
  have eq := opt_eq o (labV_opt h hv) (by rw [l, labV_len])
  subst eq
  exact least_of (h.hyp hv) e l
theorem llab_v (h : HypN n es) (hv : v < n) : m__law_labels [.int (n : Int), esD es, .int (v : Int), .bl false] = .ok (lsD (prc es) (labV es n v)) := by
  obtain ⟨L, e, l, o⟩ := llabels_ok (arcs := false) (h.hyp hv) h.1
  have eq := opt_eq o (labV_opt h hv) (by rw [l, labV_len])
  rw [← eq]
  exact e
/-! groups -/
def rch (es : List Ed) (u v : Nat) : Prop := ∃ p, Wf (stp false es) u p v
def grp (es : List Ed) (n v : Nat) : List Nat := (List.range n).filter fun o => (nb (row es n v) o).isSome
theorem st_sym (hg : ∀ e ∈ es, Ge (n : Int) e) {u k : Nat} (h : (k, v) ∈ stp false es u) : (k, u) ∈ stp false es v := by
  obtain ⟨h1, h2⟩ := (stp_iff hg).mp h
  refine (stp_iff hg).mpr ⟨h1, ?_⟩
  rcases h2 with ⟨a, b⟩ | ⟨_, a, b⟩
  · exact .inr ⟨rfl, b, a⟩
  · exact .inl ⟨b, a⟩
theorem rch_sym (hg : ∀ e ∈ es, Ge (n : Int) e) : ∀ {p : List Nat} {u v : Nat}, Wf (stp false es) u p v → rch es v u
  | [], u, v, h => ⟨[], (show u = v from h).symm⟩
  | k :: p, u, v, ⟨w, h1, h2⟩ => by
    obtain ⟨q, h3⟩ := rch_sym hg h2
    exact ⟨q ++ [k], (Wf_snoc _).mpr ⟨w, h3, st_sym hg h1⟩⟩
theorem rch_trans {u w : Nat} (h : rch es u v) (k : rch es v w) : rch es u w := by
  obtain ⟨p, h⟩ := h
  obtain ⟨q, k⟩ := k
  exact ⟨p ++ q, (Wf_app _).mpr ⟨v, h, k⟩⟩
theorem some_iff (h : HypN n es) (hv : v < n) {o : Nat} : (nb (row es n v) o).isSome = true ↔ rch es v o := by
  have op := labV_opt h hv
  unfold row
  rw [nb_lpr]
  constructor
  · intro z
    cases c : lv (labV es n v) o with
    | none => rw [c] at z; cases z
    | some p => exact ⟨p, op.1 o p c⟩
  · rintro ⟨p, w⟩
    obtain ⟨q, h1, _⟩ := op.2 o p w
    rw [h1]
    rfl
theorem grp_iff (h : HypN n es) (hv : v < n) {o : Nat} : o ∈ grp es n v ↔ o < n ∧ rch es v o := by
  unfold grp
  rw [List.mem_filter, List.mem_range, some_iff h hv]
theorem grp_eq (h : HypN n es) {u : Nat} (hu : u < n) (hm : v ∈ grp es n u) : grp es n v = grp es n u := by
  obtain ⟨hv, r⟩ := (grp_iff h hu).mp hm
  have r2 : rch es v u := by
    obtain ⟨p, w⟩ := r
    exact rch_sym h.2.1 w
  unfold grp
  refine List.filter_congr fun o _ => ?_
  rw [Bool.eq_iff_iff, some_iff h hv, some_iff h hu]
  exact ⟨fun z => rch_trans r z, fun z => rch_trans r2 z⟩
theorem grp_self (h : HypN n es) (hv : v < n) : v ∈ grp es n v := (grp_iff h hv).mpr ⟨hv, [], rfl⟩
def compF (es : List Ed) (n : Nat) : Nat → List (List Nat)
  | 0 => []
  | i + 1 => if i ∈ (compF es n i).flatten then compF es n i else compF es n i ++ [grp es n i]
theorem compF_all : ∀ {i : Nat}, i ≤ n → ∀ f ∈ compF es n i, ∃ u, u < n ∧ f = grp es n u
  | 0, _, f, hf => by cases hf
  | i + 1, hi, f, hf => by
    unfold compF at hf
    split at hf
    · exact compF_all (i := i) (by omega) f hf
    · rcases List.mem_append.mp hf with z | z
      · exact compF_all (i := i) (by omega) f z
      · exact ⟨i, by omega, List.mem_singleton.mp z⟩
theorem compF_mem (h : HypN n es) {i : Nat} (hi : i < n) : i ∈ (compF es n i).flatten ↔ grp es n i ∈ compF es n i := by
  constructor
  · intro z
    obtain ⟨f, h1, h2⟩ := List.mem_flatten.mp z
    obtain ⟨u, hu, e⟩ := compF_all (by omega) f h1
    rw [e] at h2
    rw [grp_eq h hu h2, ← e]
    exact h1
  · intro z
    exact List.mem_flatten.mpr ⟨_, z, grp_self h hi⟩
theorem grp_len : (grp es n v).length ≤ n := by
  have := List.length_filter_le (fun o => (nb (row es n v) o).isSome) (List.range n)
  rw [List.length_range] at this
  exact this
theorem compF_len : ∀ {i : Nat}, (compF es n i).length ≤ i ∧ (compF es n i).flatten.length ≤ i * n
  | 0 => ⟨Nat.le_refl _, Nat.zero_le _⟩
  | i + 1 => by
    obtain ⟨a, b⟩ := compF_len (i := i)
    have c := grp_len (es := es) (n := n) (v := i)
    unfold compF
    split
    · exact ⟨by omega, by rw [Nat.add_mul]; omega⟩
    · rw [List.length_append, List.flatten_append, List.length_append]
      have e : ([grp es n i] : List (List Nat)).flatten = grp es n i := by simp
      rw [e, Nat.add_mul]
      exact ⟨by show _ + 1 ≤ _; omega, by omega⟩
/-! in lists -/
theorem nin_i {x : Int} {xs : List Int} : dNotIn (.int x) (di xs) = .ok (.bl (!decide (x ∈ xs))) := by
  unfold dNotIn dInB
  dsimp only
  rw [if_pos (by rw [(di_rf (xs := xs)).eq 20 (by decide)]; rfl)]
  dsimp only [Rs.bind]
  congr 3
  rw [List.any_map, Bool.eq_iff_iff, List.any_eq_true, decide_eq_true_eq]
  constructor
  · rintro ⟨y, h1, h2⟩
    have h2 : eqv (.int y) (.int x) = true := h2
    rw [eqv_i, decide_eq_true_eq] at h2
    rw [← h2]
    exact h1
  · intro h
    exact ⟨x, h, by show eqv (.int x) (.int x) = true; rw [eqv_i, decide_eq_true_eq]⟩
theorem eqvA_n : ∀ (a b : List Nat), PyData.eqvAll (pys (a.map fun i : Nat => DV.int (i : Int))) (pys (b.map fun i : Nat => DV.int (i : Int))) = decide (a = b)
  | [], [] => by simp [pys, PyData.eqvAll]
  | [], y :: b => by simp [pys, PyData.eqvAll]
  | x :: a, [] => by simp [pys, PyData.eqvAll]
  | x :: a, y :: b => by
    have ih := eqvA_n a b
    show PyData.eqvAll (py (.int (x : Int)) :: pys (a.map fun i : Nat => DV.int (i : Int))) (py (.int (y : Int)) :: pys (b.map fun i : Nat => DV.int (i : Int))) = _
    unfold PyData.eqvAll
    rw [ih]
    have e : PyData.eqv (py (.int (x : Int))) (py (.int (y : Int))) = decide ((x : Int) = (y : Int)) := eqv_i
    rw [e]
    by_cases c : x = y
    · subst c
      rw [decide_eq_true rfl, Bool.true_and]
      by_cases d : a = b
      · rw [decide_eq_true d, decide_eq_true (by rw [d])]
      · rw [decide_eq_false d, decide_eq_false (fun z => d (List.cons.inj z).2)]
    · rw [decide_eq_false (by omega : ¬ (x : Int) = y), decide_eq_false (fun z => c (List.cons.inj z).1)]
      rfl
theorem nD_rf {ks : List Nat} : Rf 1 (nD ks) := Rf.map fun x _ => Rf.int
abbrev fD (F : List (List Nat)) : DV := .lst (F.map nD)
theorem fD_rf {F : List (List Nat)} : Rf 2 (fD F) := Rf.map fun x _ => nD_rf
theorem nin_g {x : List Nat} {F : List (List Nat)} : dNotIn (nD x) (fD F) = .ok (.bl (!decide (x ∈ F))) := by
  unfold dNotIn dInB
  dsimp only
  rw [if_pos (by rw [(fD_rf (F := F)).eq 20 (by decide), (nD_rf (ks := x)).eq 20 (by decide)]; rfl)]
  dsimp only [Rs.bind]
  congr 3
  have key : ∀ y : List Nat, eqv (nD y) (nD x) = decide (y = x) := fun y => by
    show PyData.eqv (.list (pys (y.map fun i : Nat => DV.int (i : Int)))) (.list (pys (x.map fun i : Nat => DV.int (i : Int)))) = _
    unfold PyData.eqv
    exact eqvA_n y x
  rw [List.any_map, Bool.eq_iff_iff, List.any_eq_true, decide_eq_true_eq]
  constructor
  · rintro ⟨y, h1, h2⟩
    have h2 : eqv (nD y) (nD x) = true := h2
    rw [key, decide_eq_true_eq] at h2
    rw [← h2]
    exact h1
  · intro h
    exact ⟨x, h, by show eqv (nD x) (nD x) = true; rw [key, decide_eq_true_eq]⟩
theorem ix_last {α : Type} {g : α → DV} {xs : List α} {x : α} : dIx (.lst ((xs ++ [x]).map g)) (.int (-1)) = .ok (g x) := by
  unfold dIx L2.atI
  simp only [List.length_map, List.length_append, List.length_singleton]
  have e : L2.ixN (xs.length + 1) (-1) = some xs.length := by
    unfold L2.ixN
    simp
    omega
  rw [e]
  simp [ofO]
theorem nD_di {ks : List Nat} : nD ks = di (isN ks) := by
  unfold di isN
  rw [List.map_map]
  rfl
theorem ext_di {i : Nat} {ge : GE} {ρ : EnvD} {xs ys : List Int} (h1 : lk ρ i = .ok (di xs)) (h2 : ge ρ = .ok (di ys)) (h : xs.length + ys.length ≤ 100000) : gDrop (gExt i (gPure ge)) ρ = .nx (ρ.set i (some (di (xs ++ ys)))) := by
  have e : gExt i (gPure ge) ρ = .ok (.non, ρ.set i (some (di (xs ++ ys)))) := by
    unfold gExt
    rw [h1]
    dsimp only
    rw [ev_pure, h2]
    dsimp only [Rs.bind]
    rw [h1]
    unfold extD
    dsimp only
    rw [List.length_map, List.length_map, if_pos (by rw [sz_eq]; omega), ← List.map_append]
  unfold gDrop
  rw [e]
def dsD (es : List Ed) (n : Nat) : DV := .lst ((List.range n).map fun v => nsD (row es n v))
theorem dsD_rf : Rf 2 (dsD es n) := Rf.map fun x _ => nsD_rf
theorem dist_ok (h : HypN n es) : m_distances [net (n : Int) es] = .ok (dsD es n) := by
  have n40 := h.2.2
  have st : startD 2 [net (n : Int) es] = [some (net (n : Int) es), none] := rfl
  have k : (gLc (gRng1 (aCons (gMeth "Network" "size" m_Network_size (gVar 0) aNil) aNil)) (gtName 1) gYes (gCB m_least_prices (aCons (gVar 0) (aCons (gVar 1) (aCons (gC (.bl false)) aNil)))) [1]) [some (net (n : Int) es), none] = .ok (dsD es n) := ev_lc (rng1_e (n := n) ((meth_e rfl (by decide) rfl).trans size_ok) rfl (by omega)) (rngD_len (by omega)) (lcLoop_rng fun i hi => by
    refine lc_yes (ρ1 := [some (net (n : Int) es), some (.int ((0 : Int) + (i : Int)))]) rfl rfl ((cb3 rfl rfl rfl).trans ?_)
    rw [Int.zero_add]
    exact least_v h hi)
  unfold m_distances runB b_distances
  rw [st, ret_e k]
  rfl
variable {t3 t4 t5 : Option DV} {i : Nat}
theorem int_zero {i : Nat} : (0 : Int) + (i : Int) = (i : Int) := Int.zero_add _
theorem m1_e {ρ : EnvD} : gUn dNeg (gC (.int 1)) ρ = .ok (.int (-1)) := rfl
def cpB : GS := (gIfS (gB (gBin dNotIn (gVar 3) (gVar 2))) (gSeq (gAsg (gPure (gCB m_least_prices (aCons (gVar 0) (aCons (gVar 3) (aCons (gC (.bl false)) aNil))))) (gtName 4)) (gSeq (gDrop (gApp 1 (gPure (gLc (gRng1 (aCons (gMeth "Network" "size" m_Network_size (gVar 0) aNil) aNil)) (gtName 5) (gB (gBin dNotN (gBin dIx (gVar 4) (gVar 5)) (gC .non))) (gVar 5) [5])))) (gDrop (gExt 2 (gPure (gBin dIx (gVar 1) (gUn dNeg (gC (.int 1))))))))) gNext)
theorem cp_turn (h : HypN n es) {F : List (List Nat)} (hi : i < n) (hF : F.length ≤ 100) (hf : F.flatten.length ≤ 10000) : ∃ u4 : Option DV, cpB [some (net (n : Int) es), some (fD F), some (di (isN F.flatten)), some (.int ((0 : Int) + (i : Int))), t4, none] = .nx [some (net (n : Int) es), some (fD (if i ∈ F.flatten then F else F ++ [grp es n i])), some (di (isN (if i ∈ F.flatten then F else F ++ [grp es n i]).flatten)), some (.int ((0 : Int) + (i : Int))), u4, none] := by
  have n40 := h.2.2
  have gle := grp_len (es := es) (n := n) (v := i)
  have t : ((gB (gBin dNotIn (gVar 3) (gVar 2)))) [some (net (n : Int) es), some (fD F), some (di (isN F.flatten)), some (.int ((0 : Int) + (i : Int))), t4, none] = .ok (!decide (i ∈ F.flatten)) := by
    refine b_e ((bin_e rfl rfl).trans (nin_i.trans ?_))
    congr 3
    rw [int_zero, decide_eq_decide]
    unfold isN
    rw [List.mem_map]
    constructor
    · rintro ⟨a, h1, h2⟩
      rw [← show a = i by omega]
      exact h1
    · intro z
      exact ⟨i, z, rfl⟩
  unfold cpB
  rw [ev_ifS t]
  by_cases c : i ∈ F.flatten
  · refine ⟨t4, ?_⟩
    rw [decide_eq_true c, if_pos c]
    rfl
  · rw [decide_eq_false c, if_neg c, if_pos (show (!false) = true from rfl)]
    have s1 : (gAsg (gPure (gCB m_least_prices (aCons (gVar 0) (aCons (gVar 3) (aCons (gC (.bl false)) aNil))))) (gtName 4)) [some (net (n : Int) es), some (fD F), some (di (isN F.flatten)), some (.int ((0 : Int) + (i : Int))), t4, none] = .nx [some (net (n : Int) es), some (fD F), some (di (isN F.flatten)), some (.int ((0 : Int) + (i : Int))), some (nsD (row es n i)), none] := by
      refine set_e (i := 4) ((cb3 rfl rfl rfl).trans ?_)
      rw [int_zero]
      exact least_v h hi
    have k : (gLc (gRng1 (aCons (gMeth "Network" "size" m_Network_size (gVar 0) aNil) aNil)) (gtName 5) (gB (gBin dNotN (gBin dIx (gVar 4) (gVar 5)) (gC .non))) (gVar 5) [5]) [some (net (n : Int) es), some (fD F), some (di (isN F.flatten)), some (.int ((0 : Int) + (i : Int))), some (nsD (row es n i)), none] = .ok (nD (grp es n i)) := ev_lc (rng1_e (n := n) ((meth_e rfl (by decide) rfl).trans size_ok) rfl (by omega)) (rngD_len (by omega)) (lcLoop_flt (p := fun o => (nb (row es n i) o).isSome) fun o ho => by
      have ho := List.mem_range.mp ho
      have g : (gBin dIx (gVar 4) (gVar 5)) [some (net (n : Int) es), some (fD F), some (di (isN F.flatten)), some (.int ((0 : Int) + (i : Int))), some (nsD (row es n i)), some (.int ((0 : Int) + (o : Int)))] = .ok (oD (nb (row es n i) o)) := (bin_e rfl rfl).trans (ns_ix (v := o) (by omega) (by rw [row_len]; exact ho))
      refine (lc_b (ρ1 := [some (net (n : Int) es), some (fD F), some (di (isN F.flatten)), some (.int ((0 : Int) + (i : Int))), some (nsD (row es n i)), some (.int ((0 : Int) + (o : Int)))]) rfl (b_e ((bin_e g rfl).trans notn_o)) rfl).trans ?_
      rw [int_zero])
    have s2 : (gDrop (gApp 1 (gPure (gLc (gRng1 (aCons (gMeth "Network" "size" m_Network_size (gVar 0) aNil) aNil)) (gtName 5) (gB (gBin dNotN (gBin dIx (gVar 4) (gVar 5)) (gC .non))) (gVar 5) [5])))) [some (net (n : Int) es), some (fD F), some (di (isN F.flatten)), some (.int ((0 : Int) + (i : Int))), some (nsD (row es n i)), none] = .nx [some (net (n : Int) es), some (fD (F ++ [grp es n i])), some (di (isN F.flatten)), some (.int ((0 : Int) + (i : Int))), some (nsD (row es n i)), none] := app_g (g := nD) (x := grp es n i) rfl k (by omega)
    have s3 : (gDrop (gExt 2 (gPure (gBin dIx (gVar 1) (gUn dNeg (gC (.int 1))))))) [some (net (n : Int) es), some (fD (F ++ [grp es n i])), some (di (isN F.flatten)), some (.int ((0 : Int) + (i : Int))), some (nsD (row es n i)), none] = .nx [some (net (n : Int) es), some (fD (F ++ [grp es n i])), some (di (isN F.flatten ++ isN (grp es n i))), some (.int ((0 : Int) + (i : Int))), some (nsD (row es n i)), none] := ext_di (xs := isN F.flatten) (ys := isN (grp es n i)) rfl (((bin_e rfl m1_e).trans (ix_last (g := nD) (xs := F) (x := grp es n i))).trans (by rw [nD_di])) (by rw [isN_len, isN_len]; omega)
    refine ⟨some (nsD (row es n i)), ?_⟩
    rw [ev_seq s1, ev_seq s2, s3]
    have e : (F ++ [grp es n i]).flatten = F.flatten ++ grp es n i := by simp
    rw [e]
    unfold isN
    rw [List.map_append]
    try rfl
theorem comp_ok (h : HypN n es) : m_components [net (n : Int) es] = .ok (fD (compF es n n)) := by
  have n40 := h.2.2
  have st : startD 6 [net (n : Int) es] = [some (net (n : Int) es), none, none, none, none, none] := rfl
  have s0 : (gAsg (gPure (eLst aNil)) (gtName 1)) [some (net (n : Int) es), none, none, none, none, none] = .nx [some (net (n : Int) es), some (fD []), none, none, none, none] := rfl
  have s1 : (gAsg (gPure (eLst aNil)) (gtName 2)) [some (net (n : Int) es), some (fD []), none, none, none, none] = .nx [some (net (n : Int) es), some (fD []), some (di (isN [])), none, none, none] := rfl
  obtain ⟨ρ', f, t3, t4, e⟩ := forG_rngB (tg := gtName 3) (b := cpB) n (fun i ρ => ∃ t3 t4 : Option DV, ρ = [some (net (n : Int) es), some (fD (compF es n i)), some (di (isN (compF es n i).flatten)), t3, t4, none]) (fun i ρ hi hh => by
    obtain ⟨t3, t4, rfl⟩ := hh
    obtain ⟨a, b⟩ := compF_len (es := es) (n := n) (i := i)
    have b2 : i * n ≤ 40 * 40 := Nat.mul_le_mul (by omega) (by omega)
    obtain ⟨u4, k⟩ := cp_turn (t4 := t4) h (F := compF es n i) hi (by omega) (by omega)
    exact ⟨_, _, rfl, k, some (.int ((0 : Int) + (i : Int))), u4, rfl⟩) n 0 [some (net (n : Int) es), some (fD []), some (di (isN [])), none, none, none] (by omega) ⟨none, none, rfl⟩
  have s2 : gFor (gRng1 (aCons (gMeth "Network" "size" m_Network_size (gVar 0) aNil) aNil)) (gtName 3) cpB [some (net (n : Int) es), some (fD []), some (di (isN [])), none, none, none] = .nx ρ' := ev_for (rng1_e (n := n) ((meth_e rfl (by decide) rfl).trans size_ok) rfl (by omega)) (by rw [rngD_eq]; exact f)
  unfold m_components runB b_components
  rw [st, ev_seq s0, ev_seq s1]
  show finB (gSeq (gFor _ _ cpB) _ _) = _
  rw [ev_seq s2, e, Nat.zero_add]
  rfl
def lcB : GS := (gSeq (gAsg (gPure (gLc (gRng1 (aCons (gCB dLen (aCons (gVar 0) aNil)) aNil)) (gtName 4) (gB (gBin dNotN (gBin dIx (gBin dIx (gVar 0) (gVar 2)) (gVar 4)) (gC .non))) (gVar 4) [4])) (gtName 3)) (gIfS (gB (gBin dNotIn (gVar 3) (gVar 1))) (gDrop (gApp 1 (gPure (gVar 3)))) gNext))
theorem ds_ix {z : Int} (e : z = (v : Int)) (h : v < n) : dIx (dsD es n) (.int z) = .ok (nsD (row es n v)) := by
  have l : v < (List.range n).length := by rw [List.length_range]; exact h
  refine (dIx_g (g := fun v => nsD (row es n v)) (xs := List.range n) v e l).trans ?_
  rw [List.getElem_range]
theorem ds_len {ρ : EnvD} {i : Nat} (e : lk ρ i = .ok (dsD es n)) : gCB dLen (aCons (gVar i) aNil) ρ = .ok (.int (n : Int)) := by
  rw [len_e (g := fun v => nsD (row es n v)) (xs := List.range n) e, List.length_range]
theorem lc_turn (h : HypN n es) (hi : i < n) : lcB [some (dsD es n), some (fD (compF es n i)), some (.int ((0 : Int) + (i : Int))), t3, none] = .nx [some (dsD es n), some (fD (compF es n (i + 1))), some (.int ((0 : Int) + (i : Int))), some (nD (grp es n i)), none] := by
  have n40 := h.2.2
  have k : (gLc (gRng1 (aCons (gCB dLen (aCons (gVar 0) aNil)) aNil)) (gtName 4) (gB (gBin dNotN (gBin dIx (gBin dIx (gVar 0) (gVar 2)) (gVar 4)) (gC .non))) (gVar 4) [4]) [some (dsD es n), some (fD (compF es n i)), some (.int ((0 : Int) + (i : Int))), t3, none] = .ok (nD (grp es n i)) := ev_lc (rng1_e (n := n) (ds_len rfl) rfl (by omega)) (rngD_len (by omega)) (lcLoop_flt (p := fun o => (nb (row es n i) o).isSome) fun o ho => by
    have ho := List.mem_range.mp ho
    have g : (gBin dIx (gBin dIx (gVar 0) (gVar 2)) (gVar 4)) [some (dsD es n), some (fD (compF es n i)), some (.int ((0 : Int) + (i : Int))), t3, some (.int ((0 : Int) + (o : Int)))] = .ok (oD (nb (row es n i) o)) := (bin_e ((bin_e rfl rfl).trans (ds_ix (v := i) int_zero hi)) rfl).trans (ns_ix (v := o) (by omega) (by rw [row_len]; exact ho))
    refine (lc_b (ρ1 := [some (dsD es n), some (fD (compF es n i)), some (.int ((0 : Int) + (i : Int))), t3, some (.int ((0 : Int) + (o : Int)))]) rfl (b_e ((bin_e g rfl).trans notn_o)) rfl).trans ?_
    rw [int_zero])
  have s1 : (gAsg (gPure (gLc (gRng1 (aCons (gCB dLen (aCons (gVar 0) aNil)) aNil)) (gtName 4) (gB (gBin dNotN (gBin dIx (gBin dIx (gVar 0) (gVar 2)) (gVar 4)) (gC .non))) (gVar 4) [4])) (gtName 3)) [some (dsD es n), some (fD (compF es n i)), some (.int ((0 : Int) + (i : Int))), t3, none] = .nx [some (dsD es n), some (fD (compF es n i)), some (.int ((0 : Int) + (i : Int))), some (nD (grp es n i)), none] := set_e (i := 3) k
  have t : ((gB (gBin dNotIn (gVar 3) (gVar 1)))) [some (dsD es n), some (fD (compF es n i)), some (.int ((0 : Int) + (i : Int))), some (nD (grp es n i)), none] = .ok (!decide (grp es n i ∈ compF es n i)) := b_e ((bin_e rfl rfl).trans nin_g)
  unfold lcB
  have q : compF es n (i + 1) = if i ∈ (compF es n i).flatten then compF es n i else compF es n i ++ [grp es n i] := rfl
  rw [ev_seq s1, ev_ifS t, q]
  have m := compF_mem h hi
  by_cases c : i ∈ (compF es n i).flatten
  · rw [decide_eq_true (m.mp c), if_pos c]
    rfl
  · rw [decide_eq_false (fun z => c (m.mpr z)), if_neg c, if_pos (show (!false) = true from rfl)]
    exact app_g (g := nD) (xs := compF es n i) (x := grp es n i) rfl rfl (Nat.le_trans compF_len.1 (by omega))
theorem lcomp_ok (h : HypN n es) : m__law_components [dsD es n] = .ok (fD (compF es n n)) := by
  have n40 := h.2.2
  have st : startD 5 [dsD es n] = [some (dsD es n), none, none, none, none] := rfl
  have s0 : (gAsg (gPure (eLst aNil)) (gtName 1)) [some (dsD es n), none, none, none, none] = .nx [some (dsD es n), some (fD []), none, none, none] := rfl
  obtain ⟨ρ', f, t2, t3, e⟩ := forG_rngB (tg := gtName 2) (b := lcB) n (fun i ρ => ∃ t2 t3 : Option DV, ρ = [some (dsD es n), some (fD (compF es n i)), t2, t3, none]) (fun i ρ hi hh => by
    obtain ⟨t2, t3, rfl⟩ := hh
    exact ⟨_, _, rfl, lc_turn (t3 := t3) h hi, some (.int ((0 : Int) + (i : Int))), some (nD (grp es n i)), rfl⟩) n 0 [some (dsD es n), some (fD []), none, none, none] (by omega) ⟨none, none, rfl⟩
  have s1 : gFor (gRng1 (aCons (gCB dLen (aCons (gVar 0) aNil)) aNil)) (gtName 2) lcB [some (dsD es n), some (fD []), none, none, none] = .nx ρ' := ev_for (rng1_e (n := n) (ds_len rfl) rfl (by omega)) (by rw [rngD_eq]; exact f)
  unfold m__law_components runB b__law_components
  rw [st, ev_seq s0]
  show finB (gSeq (gFor _ _ lcB) _ _) = _
  rw [ev_seq s1, e, Nat.zero_add]
  rfl
/-! refusals -/
variable {x y : Int}
theorem vert_ex (h : ¬ (0 ≤ x ∧ x < (n : Int))) : m_Network_check_vertex [net (n : Int) es, .int x] = .ex "BadVertex" (.int x) := by
  have st : startD 2 [net (n : Int) es, .int x] = [some (net (n : Int) es), some (.int x)] := rfl
  have t : (gNot (gB (gChain dLe dLt (gC (.int 0)) (gVar 1) (gFld "Network" "_size" (gVar 0))))) [some (net (n : Int) es), some (.int x)] = .ok true := by
    rw [not_e (b_e (chain_lt rfl rfl (f_size rfl)))]
    have e : (decide (0 ≤ x) && decide (x < (n : Int))) = false := by
      rw [Bool.and_eq_false_iff, decide_eq_false_iff_not, decide_eq_false_iff_not]
      omega
    rw [e]
    rfl
  unfold m_Network_check_vertex runB b_Network_check_vertex
  rw [st, ev_ifS t, if_pos rfl]
  rfl
theorem vertX_e {ρ : EnvD} {i j : Nat} (h0 : lk ρ i = .ok (net (n : Int) es)) (h1 : lk ρ j = .ok (.int x)) (hv : ¬ (0 ≤ x ∧ x < (n : Int))) : (gDrop (gPure (gMeth "Network" "check_vertex" m_Network_check_vertex (gVar i) (aCons (gVar j) aNil)))) ρ = .ex "BadVertex" (.int x) := drop_x ((meth_e h0 (by decide) (a1_e h1)).trans (vert_ex hv))
theorem least_x (h : ¬ (0 ≤ x ∧ x < (n : Int))) : m_least_prices [net (n : Int) es, .int x, .bl arcs] = .ex "BadVertex" (.int x) := by
  have st : startD 4 [net (n : Int) es, .int x, .bl arcs] = [some (net (n : Int) es), some (.int x), some (.bl arcs), none] := rfl
  unfold m_least_prices runB b_least_prices
  rw [st, ev_seqE (vertX_e rfl rfl h)]
  rfl
theorem path_x1 (h : ¬ (0 ≤ x ∧ x < (n : Int))) : m_told_path [net (n : Int) es, .int x, .int y, .bl arcs] = .ex "BadVertex" (.int x) := by
  have st : startD 5 [net (n : Int) es, .int x, .int y, .bl arcs] = [some (net (n : Int) es), some (.int x), some (.int y), some (.bl arcs), none] := rfl
  unfold m_told_path thawF runB b_told_path
  rw [st, ev_seqE (vertX_e rfl rfl h)]
  rfl
theorem path_x2 (h0 : 0 < n) (h : ¬ (0 ≤ y ∧ y < (n : Int))) : m_told_path [net (n : Int) es, .int 0, .int y, .bl arcs] = .ex "BadVertex" (.int y) := by
  have st : startD 5 [net (n : Int) es, .int 0, .int y, .bl arcs] = [some (net (n : Int) es), some (.int ((0 : Nat) : Int)), some (.int y), some (.bl arcs), none] := rfl
  unfold m_told_path thawF runB b_told_path
  rw [st, ev_seq (vert_e rfl rfl h0), ev_seqE (vertX_e rfl rfl h)]
  rfl
theorem chk_x1 (h : ¬ (0 ≤ x ∧ x < (n : Int))) {a b : DV} : m_check_path [net (n : Int) es, .int x, .int y, a, b, .bl arcs] = .ex "BadVertex" (.int x) := by
  have st : startD 11 [net (n : Int) es, .int x, .int y, a, b, .bl arcs] = [some (net (n : Int) es), some (.int x), some (.int y), some a, some b, some (.bl arcs), none, none, none, none, none] := rfl
  unfold m_check_path runB b_check_path
  rw [st, ev_seqE (vertX_e rfl rfl h)]
  rfl
theorem chk_x2 (h0 : 0 < n) (h : ¬ (0 ≤ y ∧ y < (n : Int))) {a b : DV} : m_check_path [net (n : Int) es, .int 0, .int y, a, b, .bl arcs] = .ex "BadVertex" (.int y) := by
  have st : startD 11 [net (n : Int) es, .int 0, .int y, a, b, .bl arcs] = [some (net (n : Int) es), some (.int ((0 : Nat) : Int)), some (.int y), some a, some b, some (.bl arcs), none, none, none, none, none] := rfl
  unfold m_check_path runB b_check_path
  rw [st, ev_seq (vert_e rfl rfl h0), ev_seqE (vertX_e rfl rfl h)]
  rfl
abbrev rfD (i : Int) : DV := .tup [.bl true, .int i]
theorem ne_rfD {i : Int} : dNe (rfD i) (rfD i) = .ok (.bl false) := by
  unfold dNe
  rw [if_pos (by rfl)]
  simp [eqv, py, pys, PyData.eqv, PyData.eqvAll]
def rB : GS := (gIfS (gB (gBin dEq (gVar 0) (gC (.int 0)))) (gDrop (gPure (gCB m_least_prices (aCons (gVar 1) (aCons (gVar 2) (aCons (gVar 4) aNil)))))) (gIfS (gB (gBin dEq (gVar 0) (gC (.int 1)))) (gDrop (gPure (gCB m_told_path (aCons (gVar 1) (aCons (gVar 2) (aCons (gVar 3) (aCons (gVar 4) aNil))))))) (gDrop (gPure (gCB m_check_path (aCons (gVar 1) (aCons (gVar 2) (aCons (gVar 3) (aCons (eLst aNil) (aCons (eLst aNil) (aCons (gVar 4) aNil)))))))))))
theorem ref_of {w : Int} {nt : DV} {z : Int} (h : rB [some (.int w), some nt, some (.int x), some (.int y), some (.bl arcs), none] = .ex "BadVertex" (.int z)) : m__law_refused [.int w, nt, .int x, .int y, .bl arcs] = .ok (rfD z) := by
  have st : startD 6 [.int w, nt, .int x, .int y, .bl arcs] = [some (.int w), some nt, some (.int x), some (.int y), some (.bl arcs), none] := rfl
  unfold m__law_refused runB b__law_refused
  rw [st, ev_seqR (d := rfD z) (ρ' := List.replicate 6 none) (by
    show gTry _ rB _ _ = _
    unfold gTry
    rw [h]
    rfl)]
  rfl
theorem way_e {ρ : EnvD} {w z : Int} (h : lk ρ 0 = .ok (.int w)) : gB (gBin dEq (gVar 0) (gC (.int z))) ρ = .ok (decide (w = z)) := b_e ((bin_e h rfl).trans dEq_i)
theorem ref_low {w : Int} (w0 : w = 0 ∨ w = 1 ∨ w = 2) (h : ¬ (0 ≤ x ∧ x < (n : Int))) : m__law_refused [.int w, net (n : Int) es, .int x, .int y, .bl arcs] = .ok (rfD x) := by
  refine ref_of ?_
  unfold rB
  rcases w0 with z | z | z <;> subst z
  · rw [ev_ifS ((way_e rfl).trans rfl), if_pos (by decide)]
    exact drop_x ((cb3 rfl rfl rfl).trans (least_x h))
  · rw [ev_ifS ((way_e (w := 1) (z := 0) rfl).trans rfl), if_neg (by decide), ev_ifS ((way_e rfl).trans rfl), if_pos (by decide)]
    exact drop_x ((cb4 rfl rfl rfl rfl).trans (path_x1 h))
  · rw [ev_ifS ((way_e (w := 2) (z := 0) rfl).trans rfl), if_neg (by decide), ev_ifS ((way_e (w := 2) (z := 1) rfl).trans rfl), if_neg (by decide)]
    exact drop_x ((cb6 rfl rfl rfl rfl rfl rfl).trans (chk_x1 h))
theorem ref_high {w : Int} (w0 : w = 1 ∨ w = 2) (h0 : 0 < n) (h : ¬ (0 ≤ y ∧ y < (n : Int))) : m__law_refused [.int w, net (n : Int) es, .int 0, .int y, .bl arcs] = .ok (rfD y) := by
  refine ref_of ?_
  unfold rB
  rcases w0 with z | z <;> subst z
  · rw [ev_ifS ((way_e (w := 1) (z := 0) rfl).trans rfl), if_neg (by decide), ev_ifS ((way_e rfl).trans rfl), if_pos (by decide)]
    exact drop_x ((cb4 rfl rfl rfl rfl).trans (path_x2 h0 h))
  · rw [ev_ifS ((way_e (w := 2) (z := 0) rfl).trans rfl), if_neg (by decide), ev_ifS ((way_e (w := 2) (z := 1) rfl).trans rfl), if_neg (by decide)]
    exact drop_x ((cb6 rfl rfl rfl rfl rfl rfl).trans (chk_x2 h0 h))
end
end M
end

/-! text Law -/
section
set_option maxRecDepth 100000
set_option maxHeartbeats 4000000
namespace M
open PySem DL
theorem asg2 {g : GE} {i j : Nat} {ρ ρ' : EnvD} {d : DV} (h : g ρ = .ok d) (h2 : gtTup [i, j] d ρ = .ok ρ') : gAsg (gPure g) (gtTup [i, j]) ρ = .nx ρ' := by
  unfold gAsg
  rw [ev_pure, h]
  dsimp only [Rs.bind]
  rw [h2]
theorem lst2 {a b : GE} {ρ : EnvD} {x y : DV} (h1 : a ρ = .ok x) (h2 : b ρ = .ok y) : eLst (aCons a (aCons b aNil)) ρ = .ok (.lst [x, y]) := by
  rw [ev_lst, ev_cons, h1, ev_cons, h2]
  show (if 0 + 1 + 1 ≤ sizeLine then _ else _) = _
  rw [if_pos (by decide)]
theorem lst4 {a b c d : GE} {ρ : EnvD} {x y z u : DV} (h1 : a ρ = .ok x) (h2 : b ρ = .ok y) (h3 : c ρ = .ok z) (h4 : d ρ = .ok u) : eLst (aCons a (aCons b (aCons c (aCons d aNil)))) ρ = .ok (.lst [x, y, z, u]) := by
  rw [ev_lst, ev_cons, h1, ev_cons, h2, ev_cons, h3, ev_cons, h4]
  show (if 0 + 1 + 1 + 1 + 1 ≤ sizeLine then _ else _) = _
  rw [if_pos (by decide)]
theorem mixF {ds : List Int} (hd : Ds ds) {k m : Int} (hk : 0 ≤ k) (hm : 0 < m) : ∃ v : Int, 0 ≤ v ∧ v < m ∧ ∀ (d a b : GE) (ρ : EnvD), d ρ = .ok (di ds) → a ρ = .ok (.int k) → b ρ = .ok (.int m) → gCB m__law_mix (aCons d (aCons a (aCons b aNil))) ρ = .ok (.int v) := by
  obtain ⟨v, h0, h1, e⟩ := mix_ok hd hk hm
  exact ⟨v, h0, h1, fun d a b ρ e0 e1 e2 => (cb3 e0 e1 e2).trans e⟩
theorem dInt_b {b : Bool} : dInt [.bl b] = .ok (.int (if b = true then 1 else 0)) := by cases b <;> rfl
theorem app_mv {ds : List DV} {d : DV} {i j : Nat} {ρ : EnvD} (h1 : lk ρ i = .ok (.lst ds)) (h2 : lk ρ j = .ok d) (h3 : lk (ρ.set j none) i = .ok (.lst ds)) (h : ds.length ≤ 1000) : gDrop (gApp i (gMove j)) ρ = .nx ((ρ.set j none).set i (some (.lst (ds ++ [d])))) := by
  unfold gDrop gApp gMove
  rw [h1]
  dsimp only
  rw [h2]
  dsimp only [Rs.bind]
  rw [h3]
  dsimp only
  rw [if_pos (by rw [sz_eq]; omega)]
section
variable {ns ds : List Int} {wd : Bool} {tp : Int} {n : Nat} {es : List Ed} {t7 t8 t9 t10 t11 t12 : Option DV}
def sB : GS := (gIfS (gOr (gNot (gTru (gVar 2))) (gB (gBin dEq (gBin dMod (gCB dInt (aCons (gBin dAdd (gVar 8) (gCB m__law_mix (aCons (gVar 1) (aCons (gC (.int 3)) (aCons (gC (.int 5)) aNil))))) aNil)) (gC (.int 5))) (gC (.int 0))))) (gIfS (gNot (gB (gCB m__law_start_right (aCons (gVar 6) (aCons (gVar 4) (aCons (gVar 5) (aCons (gVar 8) (aCons (gVar 7) aNil)))))))) (gRet (gPure (gC (.bl false)))) gNext) gNext)
theorem s_turn (hd : Ds ds) (h : HypN n es) {arcs : Bool} {i : Nat} (hi : i < n) : sB [some (di ns), some (di ds), some (.bl wd), some (.int tp), some (.int (n : Int)), some (esD es), some (net (n : Int) es), some (.bl arcs), some (.int ((0 : Int) + (i : Int))), none, none, none, none, none, none, none] = .nx [some (di ns), some (di ds), some (.bl wd), some (.int tp), some (.int (n : Int)), some (esD es), some (net (n : Int) es), some (.bl arcs), some (.int ((0 : Int) + (i : Int))), none, none, none, none, none, none, none] := by
  have e : (0 : Int) + (i : Int) = (i : Int) := Int.zero_add _
  obtain ⟨c, c0, c1, ec⟩ := mixF hd (k := 3) (m := 5) (by decide) (by decide)
  have r : ((gNot (gB (gCB m__law_start_right (aCons (gVar 6) (aCons (gVar 4) (aCons (gVar 5) (aCons (gVar 8) (aCons (gVar 7) aNil))))))))) [some (di ns), some (di ds), some (.bl wd), some (.int tp), some (.int (n : Int)), some (esD es), some (net (n : Int) es), some (.bl arcs), some (.int ((0 : Int) + (i : Int))), none, none, none, none, none, none, none] = .ok false := by
    refine (not_e (z := true) (b_e (z := true) ((cb5 rfl rfl rfl rfl rfl).trans ?_))).trans rfl
    rw [e]
    exact start_ok (h.hyp hi) h.1
  have t2 : ((gB (gBin dEq (gBin dMod (gCB dInt (aCons (gBin dAdd (gVar 8) (gCB m__law_mix (aCons (gVar 1) (aCons (gC (.int 3)) (aCons (gC (.int 5)) aNil))))) aNil)) (gC (.int 5))) (gC (.int 0))))) [some (di ns), some (di ds), some (.bl wd), some (.int tp), some (.int (n : Int)), some (esD es), some (net (n : Int) es), some (.bl arcs), some (.int ((0 : Int) + (i : Int))), none, none, none, none, none, none, none] = .ok (decide (((0 : Int) + (i : Int) + c) % 5 = 0)) := b_e ((bin_e ((bin_e ((cb1 ((bin_e rfl (ec _ _ _ _ rfl rfl rfl)).trans dAdd_i)).trans dInt_i) rfl).trans (md (by decide))) rfl).trans dEq_i)
  have t : ((gOr (gNot (gTru (gVar 2))) (gB (gBin dEq (gBin dMod (gCB dInt (aCons (gBin dAdd (gVar 8) (gCB m__law_mix (aCons (gVar 1) (aCons (gC (.int 3)) (aCons (gC (.int 5)) aNil))))) aNil)) (gC (.int 5))) (gC (.int 0)))))) [some (di ns), some (di ds), some (.bl wd), some (.int tp), some (.int (n : Int)), some (esD es), some (net (n : Int) es), some (.bl arcs), some (.int ((0 : Int) + (i : Int))), none, none, none, none, none, none, none] = .ok (!wd || decide (((0 : Int) + (i : Int) + c) % 5 = 0)) := or_e (not_e (tru_b rfl)) t2
  unfold sB
  rw [ev_ifS t]
  split
  · rw [ev_ifS r]
    rfl
  · rfl
theorem s_for (hd : Ds ds) (h : HypN n es) {arcs : Bool} : ∃ u8 : Option DV, gFor (gRng1 (aCons (gVar 4) aNil)) (gtName 8) sB [some (di ns), some (di ds), some (.bl wd), some (.int tp), some (.int (n : Int)), some (esD es), some (net (n : Int) es), some (.bl arcs), t8, none, none, none, none, none, none, none] = .nx [some (di ns), some (di ds), some (.bl wd), some (.int tp), some (.int (n : Int)), some (esD es), some (net (n : Int) es), some (.bl arcs), u8, none, none, none, none, none, none, none] := by
  have n40 := h.2.2
  obtain ⟨ρ', f, u8, e⟩ := forG_rngB (tg := gtName 8) (b := sB) n (fun i ρ => ∃ t8 : Option DV, ρ = [some (di ns), some (di ds), some (.bl wd), some (.int tp), some (.int (n : Int)), some (esD es), some (net (n : Int) es), some (.bl arcs), t8, none, none, none, none, none, none, none]) (fun i ρ hi hh => by
    obtain ⟨t8, rfl⟩ := hh
    exact ⟨_, _, rfl, s_turn hd h hi, some (.int ((0 : Int) + (i : Int))), rfl⟩) n 0 [some (di ns), some (di ds), some (.bl wd), some (.int tp), some (.int (n : Int)), some (esD es), some (net (n : Int) es), some (.bl arcs), t8, none, none, none, none, none, none, none] (by omega) ⟨t8, rfl⟩
  exact ⟨u8, ev_for (rng1_e (n := n) rfl rfl (by omega)) (by rw [rngD_eq, ← e]; exact f)⟩
def vB2 : GS := (gIfS (gB (gBin dNotN (gBin dIx (gVar 11) (gVar 12)) (gC .non))) (gSetI 10 (gVar 12) (gPure (gBin dIx (gBin dIx (gVar 11) (gVar 12)) (gC (.int 0))))) gNext)
theorem v_turn2 {v j : Nat} {N : List (Option Int)} (hj : j < n) (hN : N.length = n) : vB2 [some (di ns), some (di ds), some (.bl wd), some (.int tp), some (.int (n : Int)), some (esD es), some (net (n : Int) es), t7, t8, t9, some (nsD N), some (lsD (prc es) (labV es n v)), some (.int ((0 : Int) + (j : Int))), none, none, none] = .nx [some (di ns), some (di ds), some (.bl wd), some (.int tp), some (.int (n : Int)), some (esD es), some (net (n : Int) es), t7, t8, t9, some (nsD (match lv (labV es n v) j with | none => N | some p => N.set j (some (psum (prc es) p)))), some (lsD (prc es) (labV es n v)), some (.int ((0 : Int) + (j : Int))), none, none, none] := by
  have hL : (labV es n v).length = n := labV_len
  have g : (gBin dIx (gVar 11) (gVar 12)) [some (di ns), some (di ds), some (.bl wd), some (.int tp), some (.int (n : Int)), some (esD es), some (net (n : Int) es), t7, t8, t9, some (nsD N), some (lsD (prc es) (labV es n v)), some (.int ((0 : Int) + (j : Int))), none, none, none] = .ok (labD (prc es) (lv (labV es n v) j)) := (bin_e rfl rfl).trans (ls_ix (by omega) (by omega))
  have t : ((gB (gBin dNotN (gBin dIx (gVar 11) (gVar 12)) (gC .non)))) [some (di ns), some (di ds), some (.bl wd), some (.int tp), some (.int (n : Int)), some (esD es), some (net (n : Int) es), t7, t8, t9, some (nsD N), some (lsD (prc es) (labV es n v)), some (.int ((0 : Int) + (j : Int))), none, none, none] = .ok (lv (labV es n v) j).isSome := b_e ((bin_e g rfl).trans notn_lab)
  unfold vB2
  rw [ev_ifS t]
  cases c : lv (labV es n v) j with
  | none => rfl
  | some p =>
    rw [c] at g
    rw [if_pos (show (some p).isSome = true from rfl)]
    refine setI_e (y := .int (psum (prc es) p)) ((bin_e g rfl).trans rfl) rfl rfl ?_
    have e : (0 : Int) + (j : Int) = (j : Int) := Int.zero_add _
    rw [e]
    exact ns_set (by omega)
def rwB : GS := (gSeq (gAsg (gPure (gBin dRep (eLst (aCons (gC .non) aNil)) (gVar 4))) (gtName 10)) (gSeq (gAsg (gPure (gCB m__law_labels (aCons (gVar 4) (aCons (gVar 5) (aCons (gVar 8) (aCons (gC (.bl false)) aNil)))))) (gtName 11)) (gSeq (gFor (gRng1 (aCons (gVar 4) aNil)) (gtName 12) (gIfS (gB (gBin dNotN (gBin dIx (gVar 11) (gVar 12)) (gC .non))) (gSetI 10 (gVar 12) (gPure (gBin dIx (gBin dIx (gVar 11) (gVar 12)) (gC (.int 0))))) gNext)) (gDrop (gApp 9 (gMove 10))))))
theorem rw_turn (h : HypN n es) {i : Nat} (hi : i < n) {ts : List DV} (ht : ts.length ≤ 100) : ∃ u11 u12 : Option DV, rwB [some (di ns), some (di ds), some (.bl wd), some (.int tp), some (.int (n : Int)), some (esD es), some (net (n : Int) es), t7, some (.int ((0 : Int) + (i : Int))), some (.lst ts), none, t11, t12, none, none, none] = .nx [some (di ns), some (di ds), some (.bl wd), some (.int tp), some (.int (n : Int)), some (esD es), some (net (n : Int) es), t7, some (.int ((0 : Int) + (i : Int))), some (.lst (ts ++ [nsD (row es n i)])), none, u11, u12, none, none, none] := by
  have n40 := h.2.2
  have e0 : (0 : Int) + (i : Int) = (i : Int) := Int.zero_add _
  have s0 : (gAsg (gPure (gBin dRep (eLst (aCons (gC .non) aNil)) (gVar 4))) (gtName 10)) [some (di ns), some (di ds), some (.bl wd), some (.int tp), some (.int (n : Int)), some (esD es), some (net (n : Int) es), t7, some (.int ((0 : Int) + (i : Int))), some (.lst ts), none, t11, t12, none, none, none] = .nx [some (di ns), some (di ds), some (.bl wd), some (.int tp), some (.int (n : Int)), some (esD es), some (net (n : Int) es), t7, some (.int ((0 : Int) + (i : Int))), some (.lst ts), some (nsD (List.replicate n none)), t11, t12, none, none, none] := set_e (i := 10) ((bin_e (x := .lst [.non]) rfl rfl).trans (rep_o (by omega)))
  have s1 : (gAsg (gPure (gCB m__law_labels (aCons (gVar 4) (aCons (gVar 5) (aCons (gVar 8) (aCons (gC (.bl false)) aNil)))))) (gtName 11)) [some (di ns), some (di ds), some (.bl wd), some (.int tp), some (.int (n : Int)), some (esD es), some (net (n : Int) es), t7, some (.int ((0 : Int) + (i : Int))), some (.lst ts), some (nsD (List.replicate n none)), t11, t12, none, none, none] = .nx [some (di ns), some (di ds), some (.bl wd), some (.int tp), some (.int (n : Int)), some (esD es), some (net (n : Int) es), t7, some (.int ((0 : Int) + (i : Int))), some (.lst ts), some (nsD (List.replicate n none)), some (lsD (prc es) (labV es n i)), t12, none, none, none] := by
    refine set_e (i := 11) ((cb4 rfl rfl rfl rfl).trans ?_)
    rw [e0]
    exact llab_v h hi
  obtain ⟨ρ', f, N, t12', e, hN, hq⟩ := forG_rngB (tg := gtName 12) (b := vB2) n (fun j ρ => ∃ (N : List (Option Int)) (t12 : Option DV), ρ = [some (di ns), some (di ds), some (.bl wd), some (.int tp), some (.int (n : Int)), some (esD es), some (net (n : Int) es), t7, some (.int ((0 : Int) + (i : Int))), some (.lst ts), some (nsD N), some (lsD (prc es) (labV es n i)), t12, none, none, none] ∧ N.length = n ∧ ∀ k, nb N k = if k < j then nb (row es n i) k else none) (fun j ρ hj hh => by
    obtain ⟨N, t12, rfl, hN, hq⟩ := hh
    refine ⟨_, _, rfl, v_turn2 (v := i) hj hN, _, some (.int ((0 : Int) + (j : Int))), rfl, ?_, fun k => due_nb (L := labV es n i) hj hN hq⟩
    split
    · exact hN
    · rw [List.length_set, hN]) n 0 [some (di ns), some (di ds), some (.bl wd), some (.int tp), some (.int (n : Int)), some (esD es), some (net (n : Int) es), t7, some (.int ((0 : Int) + (i : Int))), some (.lst ts), some (nsD (List.replicate n none)), some (lsD (prc es) (labV es n i)), t12, none, none, none] (by omega) ⟨List.replicate n none, t12, rfl, List.length_replicate .., fun j => by
      rw [if_neg (Nat.not_lt_zero _)]
      unfold nb
      rw [List.getD_eq_getElem?_getD, List.getElem?_replicate]
      split <;> rfl⟩
  have s2 : gFor (gRng1 (aCons (gVar 4) aNil)) (gtName 12) vB2 [some (di ns), some (di ds), some (.bl wd), some (.int tp), some (.int (n : Int)), some (esD es), some (net (n : Int) es), t7, some (.int ((0 : Int) + (i : Int))), some (.lst ts), some (nsD (List.replicate n none)), some (lsD (prc es) (labV es n i)), t12, none, none, none] = .nx ρ' := ev_for (rng1_e (n := n) rfl rfl (by omega)) (by rw [rngD_eq]; exact f)
  have eN : N = row es n i := nb_ext (by rw [hN, row_len]) fun j => by
    rw [hq j, Nat.zero_add]
    by_cases c : j < n
    · rw [if_pos c]
    · rw [if_neg c]
      unfold nb
      rw [List.getD_eq_getElem?_getD, List.getElem?_eq_none (by rw [row_len]; omega)]
      rfl
  subst eN
  subst e
  refine ⟨some (lsD (prc es) (labV es n i)), t12', ?_⟩
  unfold rwB
  rw [ev_seq s0, ev_seq s1]
  show gSeq (gFor _ _ vB2) _ _ = _
  rw [ev_seq s2]
  exact app_mv (ds := ts) rfl rfl rfl (by omega)
def wB2 : GS := (gSeq (gIfS (gB (gBin dNe (gCB m__law_refused (aCons (gVar 15) (aCons (gVar 6) (aCons (gVar 13) (aCons (gVar 14) (aCons (gC (.bl true)) aNil)))))) (eTup (aCons (gC (.bl true)) (aCons (gVar 13) aNil))))) (gRet (gPure (gC (.bl false)))) gNext) (gIfS (gAnd (gB (gBin dGt (gVar 15) (gC (.int 0)))) (gB (gBin dNe (gCB m__law_refused (aCons (gVar 15) (aCons (gVar 6) (aCons (gC (.int 0)) (aCons (gVar 14) (aCons (gC (.bl false)) aNil)))))) (eTup (aCons (gC (.bl true)) (aCons (gVar 14) aNil)))))) (gRet (gPure (gC (.bl false)))) gNext))
theorem w_turn2 (h0 : 0 < n) {lo hi : Int} (hlo : lo < 0) (hhi : (n : Int) ≤ hi) {i : Nat} (h3 : i < 3) : wB2 [some (di ns), some (di ds), some (.bl wd), some (.int tp), some (.int (n : Int)), some (esD es), some (net (n : Int) es), t7, t8, t9, none, t11, t12, some (.int lo), some (.int hi), some (.int ((0 : Int) + (i : Int)))] = .nx [some (di ns), some (di ds), some (.bl wd), some (.int tp), some (.int (n : Int)), some (esD es), some (net (n : Int) es), t7, t8, t9, none, t11, t12, some (.int lo), some (.int hi), some (.int ((0 : Int) + (i : Int)))] := by
  have wy : (0 : Int) + (i : Int) = 0 ∨ (0 : Int) + (i : Int) = 1 ∨ (0 : Int) + (i : Int) = 2 := by omega
  have t1 : ((gB (gBin dNe (gCB m__law_refused (aCons (gVar 15) (aCons (gVar 6) (aCons (gVar 13) (aCons (gVar 14) (aCons (gC (.bl true)) aNil)))))) (eTup (aCons (gC (.bl true)) (aCons (gVar 13) aNil)))))) [some (di ns), some (di ds), some (.bl wd), some (.int tp), some (.int (n : Int)), some (esD es), some (net (n : Int) es), t7, t8, t9, none, t11, t12, some (.int lo), some (.int hi), some (.int ((0 : Int) + (i : Int)))] = .ok false := b_e ((bin_e ((cb5 rfl rfl rfl rfl rfl).trans (ref_low wy (by omega))) (tup2 rfl rfl)).trans ne_rfD)
  have t2 : ((gAnd (gB (gBin dGt (gVar 15) (gC (.int 0)))) (gB (gBin dNe (gCB m__law_refused (aCons (gVar 15) (aCons (gVar 6) (aCons (gC (.int 0)) (aCons (gVar 14) (aCons (gC (.bl false)) aNil)))))) (eTup (aCons (gC (.bl true)) (aCons (gVar 14) aNil))))))) [some (di ns), some (di ds), some (.bl wd), some (.int tp), some (.int (n : Int)), some (esD es), some (net (n : Int) es), t7, t8, t9, none, t11, t12, some (.int lo), some (.int hi), some (.int ((0 : Int) + (i : Int)))] = .ok false := by
    have g : ((gB (gBin dGt (gVar 15) (gC (.int 0))))) [some (di ns), some (di ds), some (.bl wd), some (.int tp), some (.int (n : Int)), some (esD es), some (net (n : Int) es), t7, t8, t9, none, t11, t12, some (.int lo), some (.int hi), some (.int ((0 : Int) + (i : Int)))] = .ok (decide (0 < (0 : Int) + (i : Int))) := b_e ((bin_e rfl rfl).trans dGt_i)
    by_cases c : 0 < (0 : Int) + (i : Int)
    · rw [decide_eq_true c] at g
      exact (and_tt g).trans (b_e ((bin_e ((cb5 rfl rfl rfl rfl rfl).trans (ref_high (by omega) h0 (by omega))) (tup2 rfl rfl)).trans ne_rfD))
    · rw [decide_eq_false c] at g
      exact and_ff g
  unfold wB2
  rw [ev_skip t1, ev_ifS t2]
  rfl
end
theorem es_rf {e : Ed} : Rf 1 (eD e) := by
  refine ⟨fun n hn => ?_, by simp [py, pys, PyData.eqv, PyData.eqvAll]⟩
  cases n with
  | zero => omega
  | succ n => rfl
theorem law_true (ns : List Int) (hl : ns.length ≤ 63) : m_law [.lst (ns.map .int)] = .ok (.bl true) := by
  obtain ⟨ds, e1, hd⟩ := draws_ok hl
  have st : startD 16 [di ns] = [some (di ns), none, none, none, none, none, none, none, none, none, none, none, none, none, none, none] := rfl
  have a0 : (gAsg (gPure (gCB m__law_draws (aCons (gVar 0) aNil))) (gtName 1)) [some (di ns), none, none, none, none, none, none, none, none, none, none, none, none, none, none, none] = .nx [some (di ns), some (di ds), none, none, none, none, none, none, none, none, none, none, none, none, none, none] := set_e (i := 1) ((cb1 rfl).trans e1)
  obtain ⟨r, r0, r1, er⟩ := mixF hd (k := 2) (m := 5) (by decide) (by decide)
  obtain ⟨wd, ew⟩ : ∃ wd : Bool, decide (r = 1) = wd := ⟨_, rfl⟩
  have a1 : (gAsg (gPure (gBin dEq (gCB m__law_mix (aCons (gVar 1) (aCons (gC (.int 2)) (aCons (gC (.int 5)) aNil)))) (gC (.int 1)))) (gtName 2)) [some (di ns), some (di ds), none, none, none, none, none, none, none, none, none, none, none, none, none, none] = .nx [some (di ns), some (di ds), some (.bl wd), none, none, none, none, none, none, none, none, none, none, none, none, none] := set_e (i := 2) ((bin_e (er (gVar 1) (gC (.int 2)) (gC (.int 5)) _ rfl rfl rfl) rfl).trans (dEq_i.trans (by rw [ew])))
  obtain ⟨c, c0, c1, ec⟩ := mixF hd (k := 0) (m := 4) (by decide) (by decide)
  obtain ⟨tp, tp0, tp1, et⟩ : ∃ tp : Int, 0 < tp ∧ tp ≤ 1048577 ∧ ((gBin dIx (eLst (aCons (gC (.int 2)) (aCons (gC (.int 3)) (aCons (gC (.int 6)) (aCons (gC (.int 1048577)) aNil))))) (gCB m__law_mix (aCons (gVar 1) (aCons (gC (.int 0)) (aCons (gC (.int 4)) aNil)))))) [some (di ns), some (di ds), some (.bl wd), none, none, none, none, none, none, none, none, none, none, none, none, none] = .ok (.int tp) := by
    have l : (eLst (aCons (gC (.int 2)) (aCons (gC (.int 3)) (aCons (gC (.int 6)) (aCons (gC (.int 1048577)) aNil))))) [some (di ns), some (di ds), some (.bl wd), none, none, none, none, none, none, none, none, none, none, none, none, none] = .ok (.lst [.int 2, .int 3, .int 6, .int 1048577]) := lst4 rfl rfl rfl rfl
    have ec := ec (gVar 1) (gC (.int 0)) (gC (.int 4)) [some (di ns), some (di ds), some (.bl wd), none, none, none, none, none, none, none, none, none, none, none, none, none] rfl rfl rfl
    have hc : c = 0 ∨ c = 1 ∨ c = 2 ∨ c = 3 := by omega
    rcases hc with z | z | z | z <;> subst z
    · exact ⟨2, by decide, by decide, (bin_e l ec).trans rfl⟩
    · exact ⟨3, by decide, by decide, (bin_e l ec).trans rfl⟩
    · exact ⟨6, by decide, by decide, (bin_e l ec).trans rfl⟩
    · exact ⟨1048577, by decide, by decide, (bin_e l ec).trans rfl⟩
  have a2 : (gAsg (gPure (gBin dIx (eLst (aCons (gC (.int 2)) (aCons (gC (.int 3)) (aCons (gC (.int 6)) (aCons (gC (.int 1048577)) aNil))))) (gCB m__law_mix (aCons (gVar 1) (aCons (gC (.int 0)) (aCons (gC (.int 4)) aNil)))))) (gtName 3)) [some (di ns), some (di ds), some (.bl wd), none, none, none, none, none, none, none, none, none, none, none, none, none] = .nx [some (di ns), some (di ds), some (.bl wd), some (.int tp), none, none, none, none, none, none, none, none, none, none, none, none] := set_e (i := 3) et
  obtain ⟨sz, sz0, sz1, es0⟩ : ∃ sz : Int, 0 < sz ∧ sz ≤ 20 ∧ ((gBin dIx (eLst (aCons (gC (.int 8)) (aCons (gC (.int 20)) aNil))) (gCB dInt (aCons (gVar 2) aNil)))) [some (di ns), some (di ds), some (.bl wd), some (.int tp), none, none, none, none, none, none, none, none, none, none, none, none] = .ok (.int sz) := by
    have l : (eLst (aCons (gC (.int 8)) (aCons (gC (.int 20)) aNil))) [some (di ns), some (di ds), some (.bl wd), some (.int tp), none, none, none, none, none, none, none, none, none, none, none, none] = .ok (.lst [.int 8, .int 20]) := lst2 rfl rfl
    cases wd with
    | false => exact ⟨8, by decide, by decide, (bin_e l ((cb1 rfl).trans dInt_b)).trans rfl⟩
    | true => exact ⟨20, by decide, by decide, (bin_e l ((cb1 rfl).trans dInt_b)).trans rfl⟩
  obtain ⟨mn, mn0, mn1, es1⟩ : ∃ mn : Int, 0 ≤ mn ∧ mn ≤ 40 ∧ ((gBin dIx (eLst (aCons (gC (.int 14)) (aCons (gC (.int 40)) aNil))) (gCB dInt (aCons (gVar 2) aNil)))) [some (di ns), some (di ds), some (.bl wd), some (.int tp), none, none, none, none, none, none, none, none, none, none, none, none] = .ok (.int mn) := by
    have l : (eLst (aCons (gC (.int 14)) (aCons (gC (.int 40)) aNil))) [some (di ns), some (di ds), some (.bl wd), some (.int tp), none, none, none, none, none, none, none, none, none, none, none, none] = .ok (.lst [.int 14, .int 40]) := lst2 rfl rfl
    cases wd with
    | false => exact ⟨14, by decide, by decide, (bin_e l ((cb1 rfl).trans dInt_b)).trans rfl⟩
    | true => exact ⟨40, by decide, by decide, (bin_e l ((cb1 rfl).trans dInt_b)).trans rfl⟩
  obtain ⟨s, es, en, z1, z2, z3, hg⟩ := network_ok (ds := ds) (k := 30) (sz := sz) (mn := mn) (tp := tp) hd (by decide) sz0 mn0 (by omega) tp0 tp1
  obtain ⟨n, rfl⟩ : ∃ n : Nat, s = (n : Int) := ⟨s.toNat, by omega⟩
  have h : HypN n es := ⟨by omega, hg, by omega⟩
  have n40 := h.2.2
  have a3 : (gAsg (gPure (gCB m__law_network (aCons (gVar 1) (aCons (gC (.int 30)) (aCons (gBin dIx (eLst (aCons (gC (.int 8)) (aCons (gC (.int 20)) aNil))) (gCB dInt (aCons (gVar 2) aNil))) (aCons (gBin dIx (eLst (aCons (gC (.int 14)) (aCons (gC (.int 40)) aNil))) (gCB dInt (aCons (gVar 2) aNil))) (aCons (gVar 3) aNil))))))) (gtTup [4, 5])) [some (di ns), some (di ds), some (.bl wd), some (.int tp), none, none, none, none, none, none, none, none, none, none, none, none] = .nx [some (di ns), some (di ds), some (.bl wd), some (.int tp), some (.int (n : Int)), some (esD es), none, none, none, none, none, none, none, none, none, none] := asg2 ((cb5 rfl rfl es0 es1 rfl).trans en) rfl
  have a4 : (gAsg (gPure (gCB m_Network___init__ (aCons (gVar 4) (aCons (gVar 5) aNil)))) (gtName 6)) [some (di ns), some (di ds), some (.bl wd), some (.int tp), some (.int (n : Int)), some (esD es), none, none, none, none, none, none, none, none, none, none] = .nx [some (di ns), some (di ds), some (.bl wd), some (.int tp), some (.int (n : Int)), some (esD es), some (net (n : Int) es), none, none, none, none, none, none, none, none, none] := set_e (i := 6) ((cb2 rfl rfl).trans (init_good z1 (by omega) (by omega) hg))
  obtain ⟨u8, f1⟩ := s_for (ns := ns) (wd := wd) (tp := tp) (t8 := none) hd h (arcs := false)
  obtain ⟨v8, f2⟩ := s_for (ns := ns) (wd := wd) (tp := tp) (t8 := u8) hd h (arcs := true)
  have a5 : gFor (gSeqI (eLst (aCons (gC (.bl false)) (aCons (gC (.bl true)) aNil)))) (gtName 7) (gFor (gRng1 (aCons (gVar 4) aNil)) (gtName 8) sB) [some (di ns), some (di ds), some (.bl wd), some (.int tp), some (.int (n : Int)), some (esD es), some (net (n : Int) es), none, none, none, none, none, none, none, none, none] = .nx [some (di ns), some (di ds), some (.bl wd), some (.int tp), some (.int (n : Int)), some (esD es), some (net (n : Int) es), some (.bl true), v8, none, none, none, none, none, none, none] := by
    refine ev_for (its := [.bl false, .bl true]) (seq_raw (lst2 rfl rfl)) ?_
    rw [forG_cons rfl f1, forG_cons rfl f2]
    rfl
  have a6 : (gAsg (gPure (eLst aNil)) (gtName 9)) [some (di ns), some (di ds), some (.bl wd), some (.int tp), some (.int (n : Int)), some (esD es), some (net (n : Int) es), some (.bl true), v8, none, none, none, none, none, none, none] = .nx [some (di ns), some (di ds), some (.bl wd), some (.int tp), some (.int (n : Int)), some (esD es), some (net (n : Int) es), some (.bl true), v8, some (.lst []), none, none, none, none, none, none] := rfl
  obtain ⟨ρ', f, t8, t11, t12, e⟩ := forG_rngB (tg := gtName 8) (b := rwB) n (fun i ρ => ∃ t8 t11 t12 : Option DV, ρ = [some (di ns), some (di ds), some (.bl wd), some (.int tp), some (.int (n : Int)), some (esD es), some (net (n : Int) es), some (.bl true), t8, some (.lst ((List.range i).map fun v => nsD (row es n v))), none, t11, t12, none, none, none]) (fun i ρ hi hh => by
    obtain ⟨t8, t11, t12, rfl⟩ := hh
    obtain ⟨u11, u12, k⟩ := rw_turn (ns := ns) (ds := ds) (wd := wd) (tp := tp) (t7 := some (.bl true)) (t11 := t11) (t12 := t12) h hi (ts := (List.range i).map fun v => nsD (row es n v)) (by rw [List.length_map, List.length_range]; omega)
    refine ⟨_, _, rfl, k, some (.int ((0 : Int) + (i : Int))), u11, u12, ?_⟩
    rw [List.range_succ, List.map_append]
    rfl) n 0 [some (di ns), some (di ds), some (.bl wd), some (.int tp), some (.int (n : Int)), some (esD es), some (net (n : Int) es), some (.bl true), v8, some (.lst []), none, none, none, none, none, none] (by omega) ⟨v8, none, none, rfl⟩
  have a7 : gFor (gRng1 (aCons (gVar 4) aNil)) (gtName 8) rwB [some (di ns), some (di ds), some (.bl wd), some (.int tp), some (.int (n : Int)), some (esD es), some (net (n : Int) es), some (.bl true), v8, some (.lst []), none, none, none, none, none, none] = .nx ρ' := ev_for (rng1_e (n := n) rfl rfl (by omega)) (by rw [rngD_eq]; exact f)
  rw [Nat.zero_add] at e
  have t8' : ((gOr (gB (gBin dNe (gCB m_distances (aCons (gVar 6) aNil)) (gVar 9))) (gB (gBin dNe (gCB m_components (aCons (gVar 6) aNil)) (gCB m__law_components (aCons (gVar 9) aNil)))))) [some (di ns), some (di ds), some (.bl wd), some (.int tp), some (.int (n : Int)), some (esD es), some (net (n : Int) es), some (.bl true), t8, some (dsD es n), none, t11, t12, none, none, none] = .ok false := (or_f (b_e ((bin_e ((cb1 rfl).trans (dist_ok h)) rfl).trans (ne_rf (k := 2) dsD_rf (by decide))))).trans (b_e ((bin_e ((cb1 rfl).trans (comp_ok h)) ((cb1 rfl).trans (lcomp_ok h))).trans (ne_rf (k := 2) fD_rf (by decide))))
  obtain ⟨x, x0, x1, ex⟩ := mixF hd (k := 1) (m := 9) (by decide) (by decide)
  have a9 : (gAsg (gPure (gBin dSub (gUn dNeg (gC (.int 1))) (gCB m__law_mix (aCons (gVar 1) (aCons (gC (.int 1)) (aCons (gC (.int 9)) aNil)))))) (gtName 13)) [some (di ns), some (di ds), some (.bl wd), some (.int tp), some (.int (n : Int)), some (esD es), some (net (n : Int) es), some (.bl true), t8, some (dsD es n), none, t11, t12, none, none, none] = .nx [some (di ns), some (di ds), some (.bl wd), some (.int tp), some (.int (n : Int)), some (esD es), some (net (n : Int) es), some (.bl true), t8, some (dsD es n), none, t11, t12, some (.int (-1 - x)), none, none] := set_e (i := 13) ((bin_e m1_e (ex (gVar 1) (gC (.int 1)) (gC (.int 9)) _ rfl rfl rfl)).trans dSub_i)
  have a10 : (gAsg (gPure (gBin dAdd (gVar 4) (gCB m__law_mix (aCons (gVar 1) (aCons (gC (.int 1)) (aCons (gC (.int 9)) aNil)))))) (gtName 14)) [some (di ns), some (di ds), some (.bl wd), some (.int tp), some (.int (n : Int)), some (esD es), some (net (n : Int) es), some (.bl true), t8, some (dsD es n), none, t11, t12, some (.int (-1 - x)), none, none] = .nx [some (di ns), some (di ds), some (.bl wd), some (.int tp), some (.int (n : Int)), some (esD es), some (net (n : Int) es), some (.bl true), t8, some (dsD es n), none, t11, t12, some (.int (-1 - x)), some (.int ((n : Int) + x)), none] := set_e (i := 14) ((bin_e rfl (ex (gVar 1) (gC (.int 1)) (gC (.int 9)) _ rfl rfl rfl)).trans dAdd_i)
  obtain ⟨ρ2, f3, t15, e3⟩ := forG_rngB (tg := gtName 15) (b := wB2) 3 (fun i ρ => ∃ t15 : Option DV, ρ = [some (di ns), some (di ds), some (.bl wd), some (.int tp), some (.int (n : Int)), some (esD es), some (net (n : Int) es), some (.bl true), t8, some (dsD es n), none, t11, t12, some (.int (-1 - x)), some (.int ((n : Int) + x)), t15]) (fun i ρ hi hh => by
    obtain ⟨t15, rfl⟩ := hh
    exact ⟨_, _, rfl, w_turn2 (by omega) (by omega) (by omega) hi, some (.int ((0 : Int) + (i : Int))), rfl⟩) 3 0 [some (di ns), some (di ds), some (.bl wd), some (.int tp), some (.int (n : Int)), some (esD es), some (net (n : Int) es), some (.bl true), t8, some (dsD es n), none, t11, t12, some (.int (-1 - x)), some (.int ((n : Int) + x)), none] (by omega) ⟨none, rfl⟩
  have a11 : gFor (gRng1 (aCons (gC (.int 3)) aNil)) (gtName 15) wB2 [some (di ns), some (di ds), some (.bl wd), some (.int tp), some (.int (n : Int)), some (esD es), some (net (n : Int) es), some (.bl true), t8, some (dsD es n), none, t11, t12, some (.int (-1 - x)), some (.int ((n : Int) + x)), none] = .nx ρ2 := ev_for (rng1_e (i := 3) (n := 3) rfl rfl (by omega)) (by rw [rngD_eq]; exact f3)
  have last : ((gBin dEq (gMeth "Network" "edges" m_Network_edges (gVar 6) aNil) (gVar 5))) [some (di ns), some (di ds), some (.bl wd), some (.int tp), some (.int (n : Int)), some (esD es), some (net (n : Int) es), some (.bl true), t8, some (dsD es n), none, t11, t12, some (.int (-1 - x)), some (.int ((n : Int) + x)), t15] = .ok (.bl true) := (bin_e ((meth_e rfl (by decide) rfl).trans edges_ok) rfl).trans (eq_rf (k := 2) (Rf.map fun z _ => es_rf) (by decide))
  unfold m_law runB b_law
  show finB (gSeq _ _ [some (di ns), none, none, none, none, none, none, none, none, none, none, none, none, none, none, none]) = _
  rw [ev_seq a0, ev_seq a1, ev_seq a2, ev_seq a3, ev_seq a4]
  show finB (gSeq (gFor _ _ (gFor _ _ sB)) _ _) = _
  rw [ev_seq a5, ev_seq a6]
  show finB (gSeq (gFor _ _ rwB) _ _) = _
  rw [ev_seq a7, e]
  show finB (gSeq (gIfS _ _ gNext) _ [some (di ns), some (di ds), some (.bl wd), some (.int tp), some (.int (n : Int)), some (esD es), some (net (n : Int) es), some (.bl true), t8, some (dsD es n), none, t11, t12, none, none, none]) = _
  rw [ev_skip t8', ev_seq a9, ev_seq a10]
  show finB (gSeq (gFor _ _ wB2) _ _) = _
  rw [ev_seq a11, e3, ret_e last]
  rfl
end M
end

/-! text Wlk -/
section
set_option maxRecDepth 100000
set_option maxHeartbeats 8000000
namespace M
open PySem PySem.Spec PyProof.Rows L2 DL
def topS (i : Nat) : Stmt := PySem.Challenge.pw_trunkweb_k02_whole_shortest_paths.main.body.getD i (.Pass ⟨0, 0, 0, 0⟩)
abbrev s_Network_check_vertex : Stmt := inClass (topS 21) 3
theorem sc_Network_check_vertex : FnScope N_Network_check_vertex ["self", "vertex"] (defScope s_Network_check_vertex) := ⟨rfl, rfl, rfl, by decide +kernel, rfl, by decide +kernel, by decide +kernel⟩
abbrev s_Network_leaving : Stmt := inClass (topS 21) 5
theorem sc_Network_leaving : FnScope N_Network_leaving ["self", "vertex"] (defScope s_Network_leaving) := ⟨rfl, rfl, rfl, by decide +kernel, rfl, by decide +kernel, by decide +kernel⟩
abbrev s_Network_other_end : Stmt := inClass (topS 21) 7
theorem sc_Network_other_end : FnScope N_Network_other_end ["self", "number", "vertex"] (defScope s_Network_other_end) := ⟨rfl, rfl, rfl, by decide +kernel, rfl, by decide +kernel, by decide +kernel⟩
abbrev s_Network_around : Stmt := inClass (topS 21) 4
theorem sc_Network_around : FnScope N_Network_around ["self", "vertex"] (defScope s_Network_around) := ⟨rfl, rfl, rfl, by decide +kernel, rfl, by decide +kernel, by decide +kernel⟩
abbrev s_steps_from : Stmt := topS 2
theorem sc_steps_from : FnScope N_steps_from ["network", "vertex", "arcs"] (defScope s_steps_from) := ⟨rfl, rfl, rfl, by decide +kernel, rfl, by decide +kernel, by decide +kernel⟩
abbrev s_Network_edges : Stmt := inClass (topS 21) 2
theorem sc_Network_edges : FnScope N_Network_edges ["self"] (defScope s_Network_edges) := ⟨rfl, rfl, rfl, by decide +kernel, rfl, by decide +kernel, by decide +kernel⟩
abbrev s_Network_size : Stmt := inClass (topS 21) 1
theorem sc_Network_size : FnScope N_Network_size ["self"] (defScope s_Network_size) := ⟨rfl, rfl, rfl, by decide +kernel, rfl, by decide +kernel, by decide +kernel⟩
abbrev s_told_labels : Stmt := topS 3
theorem sc_told_labels : FnScope N_told_labels ["network", "start", "arcs"] (defScope s_told_labels) := ⟨rfl, rfl, rfl, by decide +kernel, rfl, by decide +kernel, by decide +kernel⟩
abbrev s_least_prices : Stmt := topS 4
theorem sc_least_prices : FnScope N_least_prices ["network", "start", "arcs"] (defScope s_least_prices) := ⟨rfl, rfl, rfl, by decide +kernel, rfl, by decide +kernel, by decide +kernel⟩
abbrev s_told_path : Stmt := topS 5
theorem sc_told_path : FnScope N_told_path ["network", "start", "goal", "arcs"] (defScope s_told_path) := ⟨rfl, rfl, rfl, by decide +kernel, rfl, by decide +kernel, by decide +kernel⟩
abbrev s_is_bound : Stmt := topS 6
theorem sc_is_bound : FnScope N_is_bound ["network", "start", "numbers", "arcs"] (defScope s_is_bound) := ⟨rfl, rfl, rfl, by decide +kernel, rfl, by decide +kernel, by decide +kernel⟩
abbrev s_check_path : Stmt := topS 7
theorem sc_check_path : FnScope N_check_path ["network", "start", "goal", "path", "numbers", "arcs"] (defScope s_check_path) := ⟨rfl, rfl, rfl, by decide +kernel, rfl, by decide +kernel, by decide +kernel⟩
abbrev s_distances : Stmt := topS 8
theorem sc_distances : FnScope N_distances ["network"] (defScope s_distances) := ⟨rfl, rfl, rfl, by decide +kernel, rfl, by decide +kernel, by decide +kernel⟩
abbrev s_components : Stmt := topS 9
theorem sc_components : FnScope N_components ["network"] (defScope s_components) := ⟨rfl, rfl, rfl, by decide +kernel, rfl, by decide +kernel, by decide +kernel⟩
abbrev s_check_edge : Stmt := topS 20
theorem sc_check_edge : FnScope N_check_edge ["size", "edge", "number"] (defScope s_check_edge) := ⟨rfl, rfl, rfl, by decide +kernel, rfl, by decide +kernel, by decide +kernel⟩
abbrev s__law_draws : Stmt := topS 23
theorem sc__law_draws : FnScope N__law_draws ["_law_script"] (defScope s__law_draws) := ⟨rfl, rfl, rfl, by decide +kernel, rfl, by decide +kernel, by decide +kernel⟩
abbrev s__law_mix : Stmt := topS 24
theorem sc__law_mix : FnScope N__law_mix ["_law_draws_here", "_law_k", "_law_many"] (defScope s__law_mix) := ⟨rfl, rfl, rfl, by decide +kernel, rfl, by decide +kernel, by decide +kernel⟩
abbrev s__law_network : Stmt := topS 25
theorem sc__law_network : FnScope N__law_network ["_law_draws_here", "_law_k", "_law_sizes", "_law_many", "_law_top"] (defScope s__law_network) := ⟨rfl, rfl, rfl, by decide +kernel, rfl, by decide +kernel, by decide +kernel⟩
abbrev s__law_steps : Stmt := topS 26
theorem sc__law_steps : FnScope N__law_steps ["_law_edges", "_law_arcs"] (defScope s__law_steps) := ⟨rfl, rfl, rfl, by decide +kernel, rfl, by decide +kernel, by decide +kernel⟩
abbrev s__law_labels : Stmt := topS 27
theorem sc__law_labels : FnScope N__law_labels ["_law_size", "_law_edges", "_law_start", "_law_arcs"] (defScope s__law_labels) := ⟨rfl, rfl, rfl, by decide +kernel, rfl, by decide +kernel, by decide +kernel⟩
abbrev s__law_refused : Stmt := topS 28
theorem sc__law_refused : FnScope N__law_refused ["_law_way", "_law_network_here", "_law_start", "_law_goal", "_law_arcs"] (defScope s__law_refused) := ⟨rfl, rfl, rfl, by decide +kernel, rfl, by decide +kernel, by decide +kernel⟩
abbrev s__law_start_right : Stmt := topS 29
theorem sc__law_start_right : FnScope N__law_start_right ["_law_network_here", "_law_size", "_law_edges", "_law_start", "_law_arcs"] (defScope s__law_start_right) := ⟨rfl, rfl, rfl, by decide +kernel, rfl, by decide +kernel, by decide +kernel⟩
abbrev s__law_components : Stmt := topS 30
theorem sc__law_components : FnScope N__law_components ["_law_table"] (defScope s__law_components) := ⟨rfl, rfl, rfl, by decide +kernel, rfl, by decide +kernel, by decide +kernel⟩
abbrev s_Network___init__ : Stmt := inClass (topS 21) 0
theorem sc_Network___init__ : FnScope N_Network___init__ ["self", "size", "edges"] (defScope s_Network___init__) := ⟨rfl, rfl, rfl, by decide +kernel, rfl, by decide +kernel, by decide +kernel⟩
abbrev s_law : Stmt := topS 31
theorem sc_law : FnScope N_law ["_law_script"] (defScope s_law) := ⟨rfl, rfl, rfl, by decide +kernel, rfl, by decide +kernel, by decide +kernel⟩
abbrev FnP (K : PySem.W.Frag) (x : Str) (st : Stmt) (f : Addr) (fd : FuncData) : Prop := FunD K x x (defArgs st) (defBody st) (defScope st) [] [] f fd
def ecsX : List Str := ["OutOfRange", "BadVertex", "BadPrice", "TooMany"]
structure Tp (P : Program) (K : PySem.W.Frag) (mg : Str → Option Value) where
  xi : XIn P K mg
  gc_root : mg "WebError" = some (.ref xi.D)
  c_OutOfRange : Addr
  gc_OutOfRange : mg "OutOfRange" = some (.ref c_OutOfRange)
  c_BadVertex : Addr
  gc_BadVertex : mg "BadVertex" = some (.ref c_BadVertex)
  c_BadPrice : Addr
  gc_BadPrice : mg "BadPrice" = some (.ref c_BadPrice)
  c_TooMany : Addr
  gc_TooMany : mg "TooMany" = some (.ref c_TooMany)
  ex : ∀ c ∈ ecsX, ∀ Ca, mg c = some (.ref Ca) → ExF K xi.D xi.fI Ca
  exm : ∀ c ∈ ecsX, ∀ Ca, mg c = some (.ref Ca) → PySem.W.exmOne K (.ref Ca) (.ref xi.D) = some true
  is : ∀ c ∈ ecsX, ∀ Ca, mg c = some (.ref Ca) → ∀ x ∈ ecsX, ∀ Xa, mg x = some (.ref Xa) → PySem.W.kitOne K (.ref Ca) (.ref Xa) = some (decide (c = x))
  c_Network : Addr
  g_Network : mg "Network" = some (.ref c_Network)
  cl_Network : Cls K c_Network
  na_Network__edges : NoAttr K c_Network "_edges"
  na_Network__size : NoAttr K c_Network "_size"
  a_Network_check_vertex : Addr
  fd_Network_check_vertex : FuncData
  F_Network_check_vertex : FunD K "check_vertex" "Network.check_vertex" (defArgs s_Network_check_vertex) (defBody s_Network_check_vertex) (defScope s_Network_check_vertex) [] [] a_Network_check_vertex fd_Network_check_vertex
  b_Network_check_vertex : Binds K fd_Network_check_vertex ["self", "vertex"] []
  me_Network_check_vertex : Meth K c_Network "check_vertex" a_Network_check_vertex
  a_Network_leaving : Addr
  fd_Network_leaving : FuncData
  F_Network_leaving : FunD K "leaving" "Network.leaving" (defArgs s_Network_leaving) (defBody s_Network_leaving) (defScope s_Network_leaving) [] [] a_Network_leaving fd_Network_leaving
  b_Network_leaving : Binds K fd_Network_leaving ["self", "vertex"] []
  me_Network_leaving : Meth K c_Network "leaving" a_Network_leaving
  a_Network_other_end : Addr
  fd_Network_other_end : FuncData
  F_Network_other_end : FunD K "other_end" "Network.other_end" (defArgs s_Network_other_end) (defBody s_Network_other_end) (defScope s_Network_other_end) [] [] a_Network_other_end fd_Network_other_end
  b_Network_other_end : Binds K fd_Network_other_end ["self", "number", "vertex"] []
  me_Network_other_end : Meth K c_Network "other_end" a_Network_other_end
  a_Network_around : Addr
  fd_Network_around : FuncData
  F_Network_around : FunD K "around" "Network.around" (defArgs s_Network_around) (defBody s_Network_around) (defScope s_Network_around) [] [] a_Network_around fd_Network_around
  b_Network_around : Binds K fd_Network_around ["self", "vertex"] []
  me_Network_around : Meth K c_Network "around" a_Network_around
  a_steps_from : Addr
  fd_steps_from : FuncData
  F_steps_from : FnP K "steps_from" s_steps_from a_steps_from fd_steps_from
  g_steps_from : mg "steps_from" = some (.ref a_steps_from)
  b_steps_from : Binds K fd_steps_from ["network", "vertex", "arcs"] []
  a_Network_edges : Addr
  fd_Network_edges : FuncData
  F_Network_edges : FunD K "edges" "Network.edges" (defArgs s_Network_edges) (defBody s_Network_edges) (defScope s_Network_edges) [] [] a_Network_edges fd_Network_edges
  b_Network_edges : Binds K fd_Network_edges ["self"] []
  me_Network_edges : Meth K c_Network "edges" a_Network_edges
  a_Network_size : Addr
  fd_Network_size : FuncData
  F_Network_size : FunD K "size" "Network.size" (defArgs s_Network_size) (defBody s_Network_size) (defScope s_Network_size) [] [] a_Network_size fd_Network_size
  b_Network_size : Binds K fd_Network_size ["self"] []
  me_Network_size : Meth K c_Network "size" a_Network_size
  a_told_labels : Addr
  fd_told_labels : FuncData
  F_told_labels : FnP K "told_labels" s_told_labels a_told_labels fd_told_labels
  g_told_labels : mg "told_labels" = some (.ref a_told_labels)
  b_told_labels : Binds K fd_told_labels ["network", "start", "arcs"] []
  a_least_prices : Addr
  fd_least_prices : FuncData
  F_least_prices : FnP K "least_prices" s_least_prices a_least_prices fd_least_prices
  g_least_prices : mg "least_prices" = some (.ref a_least_prices)
  b_least_prices : Binds K fd_least_prices ["network", "start", "arcs"] []
  a_told_path : Addr
  fd_told_path : FuncData
  F_told_path : FnP K "told_path" s_told_path a_told_path fd_told_path
  g_told_path : mg "told_path" = some (.ref a_told_path)
  b_told_path : Binds K fd_told_path ["network", "start", "goal", "arcs"] []
  a_is_bound : Addr
  fd_is_bound : FuncData
  F_is_bound : FnP K "is_bound" s_is_bound a_is_bound fd_is_bound
  g_is_bound : mg "is_bound" = some (.ref a_is_bound)
  b_is_bound : Binds K fd_is_bound ["network", "start", "numbers", "arcs"] []
  a_check_path : Addr
  fd_check_path : FuncData
  F_check_path : FnP K "check_path" s_check_path a_check_path fd_check_path
  g_check_path : mg "check_path" = some (.ref a_check_path)
  b_check_path : Binds K fd_check_path ["network", "start", "goal", "path", "numbers", "arcs"] []
  a_distances : Addr
  fd_distances : FuncData
  F_distances : FnP K "distances" s_distances a_distances fd_distances
  g_distances : mg "distances" = some (.ref a_distances)
  b_distances : Binds K fd_distances ["network"] []
  a_components : Addr
  fd_components : FuncData
  F_components : FnP K "components" s_components a_components fd_components
  g_components : mg "components" = some (.ref a_components)
  b_components : Binds K fd_components ["network"] []
  a_check_edge : Addr
  fd_check_edge : FuncData
  F_check_edge : FnP K "check_edge" s_check_edge a_check_edge fd_check_edge
  g_check_edge : mg "check_edge" = some (.ref a_check_edge)
  b_check_edge : Binds K fd_check_edge ["size", "edge", "number"] []
  a__law_draws : Addr
  fd__law_draws : FuncData
  F__law_draws : FnP K "_law_draws" s__law_draws a__law_draws fd__law_draws
  g__law_draws : mg "_law_draws" = some (.ref a__law_draws)
  b__law_draws : Binds K fd__law_draws ["_law_script"] []
  a__law_mix : Addr
  fd__law_mix : FuncData
  F__law_mix : FnP K "_law_mix" s__law_mix a__law_mix fd__law_mix
  g__law_mix : mg "_law_mix" = some (.ref a__law_mix)
  b__law_mix : Binds K fd__law_mix ["_law_draws_here", "_law_k", "_law_many"] []
  a__law_network : Addr
  fd__law_network : FuncData
  F__law_network : FnP K "_law_network" s__law_network a__law_network fd__law_network
  g__law_network : mg "_law_network" = some (.ref a__law_network)
  b__law_network : Binds K fd__law_network ["_law_draws_here", "_law_k", "_law_sizes", "_law_many", "_law_top"] []
  a__law_steps : Addr
  fd__law_steps : FuncData
  F__law_steps : FnP K "_law_steps" s__law_steps a__law_steps fd__law_steps
  g__law_steps : mg "_law_steps" = some (.ref a__law_steps)
  b__law_steps : Binds K fd__law_steps ["_law_edges", "_law_arcs"] []
  a__law_labels : Addr
  fd__law_labels : FuncData
  F__law_labels : FnP K "_law_labels" s__law_labels a__law_labels fd__law_labels
  g__law_labels : mg "_law_labels" = some (.ref a__law_labels)
  b__law_labels : Binds K fd__law_labels ["_law_size", "_law_edges", "_law_start", "_law_arcs"] []
  a__law_refused : Addr
  fd__law_refused : FuncData
  F__law_refused : FnP K "_law_refused" s__law_refused a__law_refused fd__law_refused
  g__law_refused : mg "_law_refused" = some (.ref a__law_refused)
  b__law_refused : Binds K fd__law_refused ["_law_way", "_law_network_here", "_law_start", "_law_goal", "_law_arcs"] []
  a__law_start_right : Addr
  fd__law_start_right : FuncData
  F__law_start_right : FnP K "_law_start_right" s__law_start_right a__law_start_right fd__law_start_right
  g__law_start_right : mg "_law_start_right" = some (.ref a__law_start_right)
  b__law_start_right : Binds K fd__law_start_right ["_law_network_here", "_law_size", "_law_edges", "_law_start", "_law_arcs"] []
  a__law_components : Addr
  fd__law_components : FuncData
  F__law_components : FnP K "_law_components" s__law_components a__law_components fd__law_components
  g__law_components : mg "_law_components" = some (.ref a__law_components)
  b__law_components : Binds K fd__law_components ["_law_table"] []
  a_Network___init__ : Addr
  fd_Network___init__ : FuncData
  F_Network___init__ : FunD K "__init__" "Network.__init__" (defArgs s_Network___init__) (defBody s_Network___init__) (defScope s_Network___init__) [] [] a_Network___init__ fd_Network___init__
  b_Network___init__ : Binds K fd_Network___init__ ["self", "size", "edges"] []
  mk_Network : Mk K c_Network a_Network___init__
  a_law : Addr
  fd_law : FuncData
  F_law : FnP K "law" s_law a_law fd_law
  g_law : mg "law" = some (.ref a_law)
  b_law : Binds K fd_law ["_law_script"] []
  k_MOST_EDGES : ∃ t, mg "MOST_EDGES" = some (.int 200 t)
  k_MOST_PRICE : ∃ t, mg "MOST_PRICE" = some (.int 1048576 t)
  k_MOST_VERTICES : ∃ t, mg "MOST_VERTICES" = some (.int 40 t)
  z_abs : mg "abs" = none
  z_dict : mg "dict" = none
  z_int : mg "int" = none
  z_isinstance : mg "isinstance" = none
  z_len : mg "len" = none
  z_list : mg "list" = none
  z_min : mg "min" = none
  z_range : mg "range" = none
section
variable {P : Program} {w : World} {K : PySem.W.Frag} {mg : Str → Option Value} {base : Heap}
theorem ok_Network_check_vertex (T : Tp P K mg) : FnOk P w K mg base (L2.CX P w) 4 T.a_Network_check_vertex T.fd_Network_check_vertex ["self", "vertex"] (spD K mg (XO mg ecsX) [.fr, .fr] .fr m_Network_check_vertex) := by
  refine fnDX (N := N_Network_check_vertex) (pm := [.fr, .fr]) (Γl := []) T.F_Network_check_vertex sc_Network_check_vertex rfl rfl rfl fun cdv A outer s H E hr => ⟨_, (pss_one (ps_if (pt_not (pt_chain op_le op_lt pe_int (pv 1) (kx_fld (K := K) rfl (pv 0) (by rfl)))) (pss_one (kx_raise (K := K) (P := P) (mg := mg) rfl rfl rfl T.xi (T.ex _ (nth_mem 1 rfl) _ T.gc_BadVertex) hr (by decide) T.gc_BadVertex rfl rfl tk0 (pa_cons (pv 1) pa_nil))) pss_nil)), fun Bp F0 => ⟨[.fr, .fr], ?_⟩⟩
  unfold b_Network_check_vertex
  exact (ss_if (st_not (st_tt (se_chain os_le os_lt se_int (se_var (i := 1) (m := .fr) rfl) (se_fld (c := "Network") (f := "_size") (se_var (i := 0) (m := .fr) rfl) T.g_Network T.cl_Network T.na_Network__size)))) (ss_raise (c := "BadVertex") (ecs := ecsX) (Γ' := [.fr, .fr]) (sa_cons (se_var (i := 1) (m := .fr) rfl) sa_nil) (T.ex _ (nth_mem 1 rfl) _ T.gc_BadVertex) T.gc_BadVertex (nth_mem 1 rfl) hxI) ss_nil)
theorem ok_Network_leaving (T : Tp P K mg) : FnOk P w K mg base (L2.CX P w) 5 T.a_Network_leaving T.fd_Network_leaving ["self", "vertex"] (spD K mg (XO mg ecsX) [.fr, .fr] (.own .fr) m_Network_leaving) := by
  have G_Network_check_vertex := ok_Network_check_vertex (P := P) (w := w) (base := base) T
  refine fnDX (N := N_Network_leaving) (pm := [.fr, .fr]) (Γl := [.fr]) T.F_Network_leaving sc_Network_leaving rfl rfl rfl fun cdv A outer s H E hr => ⟨_, (pss_cons (ps_expr (pe_meth (pv 0) T.cl_Network T.me_Network_check_vertex G_Network_check_vertex (hr.mono (by decide)) T.b_Network_check_vertex .nil px0 (pa_cons (pv 1) pa_nil))) (pss_one (ps_ret (pe_lc (own := [("k", 2)]) (g := (L2.gName 2)) rfl sc_Network_leaving.nd (pi_range1 rfl T.z_range (pa_cons (pe_callB (kx_len (K := K) rfl) (by rfl) T.z_len (by decide +kernel) (pa_cons (kx_fld (K := K) rfl (pv 0) (by rfl)) pa_nil)) pa_nil)) (blkOk_by (own := [("k", 2)]) (N := N_Network_leaving) (sc := defScope s_Network_leaving) (by decide +kernel)) (fun _ _ _ _ _ => (pg_name (i := 2) sc_Network_leaving.nd rfl (by first | exact Or.inl rfl | exact Or.inr rfl))) (fun _ _ _ _ _ => pts_one (pt_cmpR (kx_eq (K := K) rfl hr.units) (pe_ix (kx_ix (K := K) rfl) (pe_ix (kx_ix (K := K) rfl) (kx_fld (K := K) rfl (pv 0) (by rfl)) (pv 2) (fun _ _ => rfl)) pe_int (fun _ _ => rfl)) (pv 1) (nomark _))) (fun _ _ _ _ _ => (pv 2)))))), fun Bp F0 => ⟨[.fr, .fr, .fr], ?_⟩⟩
  unfold b_Network_leaving
  exact (ss_seq (ss_expr (sx_of (se_meth (mn := "check_vertex") (se_var (i := 0) (m := .fr) rfl) (sa_cons (se_var (i := 1) (m := .fr) rfl) sa_nil) T.g_Network hxI))) (ss_ret (Γ' := [.fr, .fr, .fr]) (sx_of (se_lc (vs := [2]) (si_rng1 (sa_cons (se_cb cs_len (sa_cons (se_fld (c := "Network") (f := "_edges") (se_var (i := 0) (m := .fr) rfl) T.g_Network T.cl_Network T.na_Network__edges) sa_nil)) sa_nil)) (sn_name (i := 2) (m := .fr) rfl nio) (keeps_name (by decide)) nx_name (by decide) (st_tt (se_op os_eq (se_op os_ix (se_op os_ix (se_fld (c := "Network") (f := "_edges") (se_var (i := 0) (m := .fr) rfl) T.g_Network T.cl_Network T.na_Network__edges) (se_var (i := 2) (m := .fr) rfl)) se_int) (se_var (i := 1) (m := .fr) rfl))) (se_var (i := 2) (m := .fr) rfl) rfl rfl nioL))))
theorem ok_Network_other_end (T : Tp P K mg) : FnOk P w K mg base CX0 1 T.a_Network_other_end T.fd_Network_other_end ["self", "number", "vertex"] (spD K mg X0 [.fr, .fr, .fr] .fr m_Network_other_end) := by
  refine fnD (N := N_Network_other_end) (pm := [.fr, .fr, .fr]) (Γl := [.fr, .fr, .fr]) T.F_Network_other_end sc_Network_other_end rfl rfl rfl fun cdv A outer s H E hr => ⟨_, (pss_cons (ps_asg (pe_ix (kx_ix (K := K) rfl) (kx_fld (K := K) rfl (pv 0) (by rfl)) (pv 1) (fun _ _ => rfl)) (pg_tup rfl (pgs_cons (pg_name (i := 3) sc_Network_other_end.nd rfl (by first | exact Or.inl rfl | exact Or.inr rfl)) (pgs_cons (pg_name (i := 4) sc_Network_other_end.nd rfl (by first | exact Or.inl rfl | exact Or.inr rfl)) (pgs_cons (pg_name (i := 5) sc_Network_other_end.nd rfl (by first | exact Or.inl rfl | exact Or.inr rfl)) pgs_nil))))) (pss_one (ps_ret (pe_op op_sub (pe_op op_addX (pv 3) (pv 4)) (pv 2))))), fun Bp F0 => ⟨[.fr, .fr, .fr, .fr, .fr, .fr], ?_⟩⟩
  unfold b_Network_other_end
  exact (ss_seq (ss_asg (sx_of (se_op os_ix (se_fld (c := "Network") (f := "_edges") (se_var (i := 0) (m := .fr) rfl) T.g_Network T.cl_Network T.na_Network__edges) (se_var (i := 1) (m := .fr) rfl))) (sn_tup (m := .fr) (is := [3, 4, 5]) (Names.cons (Names.cons (Names.cons Names.nil))) (by decide) nioL) nx_tup) (ss_ret (Γ' := [.fr, .fr, .fr, .fr, .fr, .fr]) (sx_of (se_op os_sub (se_fr (se_op os_add (se_var (i := 3) (m := .fr) rfl) (se_var (i := 4) (m := .fr) rfl)) rfl) (se_var (i := 2) (m := .fr) rfl)))))
theorem ok_Network_around (T : Tp P K mg) : FnOk P w K mg base (L2.CX P w) 5 T.a_Network_around T.fd_Network_around ["self", "vertex"] (spD K mg (XO mg ecsX) [.fr, .fr] (.own .fr) m_Network_around) := by
  have G_Network_check_vertex := ok_Network_check_vertex (P := P) (w := w) (base := base) T
  refine fnDX (N := N_Network_around) (pm := [.fr, .fr]) (Γl := [.fr]) T.F_Network_around sc_Network_around rfl rfl rfl fun cdv A outer s H E hr => ⟨_, (pss_cons (ps_expr (pe_meth (pv 0) T.cl_Network T.me_Network_check_vertex G_Network_check_vertex (hr.mono (by decide)) T.b_Network_check_vertex .nil px0 (pa_cons (pv 1) pa_nil))) (pss_one (ps_ret (pe_lc (own := [("k", 2)]) (g := (L2.gName 2)) rfl sc_Network_around.nd (pi_range1 rfl T.z_range (pa_cons (pe_callB (kx_len (K := K) rfl) (by rfl) T.z_len (by decide +kernel) (pa_cons (kx_fld (K := K) rfl (pv 0) (by rfl)) pa_nil)) pa_nil)) (blkOk_by (own := [("k", 2)]) (N := N_Network_around) (sc := defScope s_Network_around) (by decide +kernel)) (fun _ _ _ _ _ => (pg_name (i := 2) sc_Network_around.nd rfl (by first | exact Or.inl rfl | exact Or.inr rfl))) (fun _ _ _ _ _ => pts_one (pt_cmpR (kx_in (K := K) rfl hr.units65) (pv 1) (pe_slice (kx_sl (K := K) rfl) (pe_ix (kx_ix (K := K) rfl) (kx_fld (K := K) rfl (pv 0) (by rfl)) (pv 2) (fun _ _ => rfl)) po_none (po_some pe_int)) (by rfl))) (fun _ _ _ _ _ => (pv 2)))))), fun Bp F0 => ⟨[.fr, .fr, .fr], ?_⟩⟩
  unfold b_Network_around
  exact (ss_seq (ss_expr (sx_of (se_meth (mn := "check_vertex") (se_var (i := 0) (m := .fr) rfl) (sa_cons (se_var (i := 1) (m := .fr) rfl) sa_nil) T.g_Network hxI))) (ss_ret (Γ' := [.fr, .fr, .fr]) (sx_of (se_lc (vs := [2]) (si_rng1 (sa_cons (se_cb cs_len (sa_cons (se_fld (c := "Network") (f := "_edges") (se_var (i := 0) (m := .fr) rfl) T.g_Network T.cl_Network T.na_Network__edges) sa_nil)) sa_nil)) (sn_name (i := 2) (m := .fr) rfl nio) (keeps_name (by decide)) nx_name (by decide) (st_tt (se_op os_in (se_var (i := 1) (m := .fr) rfl) (se_fr (se_sl (se_op os_ix (se_fld (c := "Network") (f := "_edges") (se_var (i := 0) (m := .fr) rfl) T.g_Network T.cl_Network T.na_Network__edges) (se_var (i := 2) (m := .fr) rfl)) so_none (so_some se_int)) rfl))) (se_var (i := 2) (m := .fr) rfl) rfl rfl nioL))))
theorem ok_steps_from (T : Tp P K mg) : FnOk P w K mg base (L2.CX P w) 6 T.a_steps_from T.fd_steps_from ["network", "vertex", "arcs"] (spD K mg (XO mg ecsX) [.fr, .fr, .fr] (.own .fr) m_steps_from) := by
  have G_Network_leaving := ok_Network_leaving (P := P) (w := w) (base := base) T
  have G_Network_other_end := ok_Network_other_end (P := P) (w := w) (base := base) T
  have G_Network_around := ok_Network_around (P := P) (w := w) (base := base) T
  refine fnDX (N := N_steps_from) (pm := [.fr, .fr, .fr]) (Γl := [.fr]) T.F_steps_from sc_steps_from rfl rfl rfl fun cdv A outer s H E hr => ⟨_, (pss_cons (ps_if (kx_tru (K := K) rfl (pv 2) (by intro _; rfl)) (pss_one (ps_ret (pe_lc (own := [("k", 3)]) (g := (L2.gName 3)) rfl sc_steps_from.nd (kx_seq (K := K) rfl (pe_meth (pv 0) T.cl_Network T.me_Network_leaving G_Network_leaving (hr.mono (by decide)) T.b_Network_leaving .nil px0 (pa_cons (pv 1) pa_nil))) (blkOk_by (own := [("k", 3)]) (N := N_steps_from) (sc := defScope s_steps_from) (by decide +kernel)) (fun _ _ _ _ _ => (pg_name (i := 3) sc_steps_from.nd rfl (by first | exact Or.inl rfl | exact Or.inr rfl))) (fun _ _ _ _ _ => pts_nil) (fun _ _ _ _ _ => (pe_tup (pa_cons (pv 3) (pa_cons (pe_meth (pv 0) T.cl_Network T.me_Network_other_end G_Network_other_end (hr.mono (by decide)) T.b_Network_other_end .nil pass0 (pa_cons (pv 3) (pa_cons (pv 1) pa_nil))) pa_nil))))))) pss_nil) (pss_one (ps_ret (pe_lc (own := [("k", 3)]) (g := (L2.gName 3)) rfl sc_steps_from.nd (kx_seq (K := K) rfl (pe_meth (pv 0) T.cl_Network T.me_Network_around G_Network_around (hr.mono (by decide)) T.b_Network_around .nil px0 (pa_cons (pv 1) pa_nil))) (blkOk_by (own := [("k", 3)]) (N := N_steps_from) (sc := defScope s_steps_from) (by decide +kernel)) (fun _ _ _ _ _ => (pg_name (i := 3) sc_steps_from.nd rfl (by first | exact Or.inl rfl | exact Or.inr rfl))) (fun _ _ _ _ _ => pts_nil) (fun _ _ _ _ _ => (pe_tup (pa_cons (pv 3) (pa_cons (pe_meth (pv 0) T.cl_Network T.me_Network_other_end G_Network_other_end (hr.mono (by decide)) T.b_Network_other_end .nil pass0 (pa_cons (pv 3) (pa_cons (pv 1) pa_nil))) pa_nil)))))))), fun Bp F0 => ⟨[.fr, .fr, .fr, .fr], ?_⟩⟩
  unfold b_steps_from
  exact (ss_seq (ss_if (st_tru (se_var (i := 2) (m := .fr) rfl)) (ss_ret (Γ' := [.fr, .fr, .fr, .fr]) (sx_of (se_lc (vs := [3]) (si_seqC (se_fr (se_meth (mn := "leaving") (se_var (i := 0) (m := .fr) rfl) (sa_cons (se_var (i := 1) (m := .fr) rfl) sa_nil) T.g_Network hxI) rfl)) (sn_name (i := 3) (m := .fr) rfl nio) (keeps_name (by decide)) nx_name (by decide) st_yes (se_tup (sa_cons (se_var (i := 3) (m := .fr) rfl) (sa_cons (se_nx (se_meth (mn := "other_end") (se_var (i := 0) (m := .fr) rfl) (sa_cons (se_var (i := 3) (m := .fr) rfl) (sa_cons (se_var (i := 1) (m := .fr) rfl) sa_nil)) T.g_Network hx0)) sa_nil)) (by decide)) rfl rfl nioL))) ss_nil) (ss_ret (Γ' := [.fr, .fr, .fr, .fr]) (sx_of (se_lc (vs := [3]) (si_seqC (se_fr (se_meth (mn := "around") (se_var (i := 0) (m := .fr) rfl) (sa_cons (se_var (i := 1) (m := .fr) rfl) sa_nil) T.g_Network hxI) rfl)) (sn_name (i := 3) (m := .fr) rfl nio) (keeps_name (by decide)) nx_name (by decide) st_yes (se_tup (sa_cons (se_var (i := 3) (m := .fr) rfl) (sa_cons (se_nx (se_meth (mn := "other_end") (se_var (i := 0) (m := .fr) rfl) (sa_cons (se_var (i := 3) (m := .fr) rfl) (sa_cons (se_var (i := 1) (m := .fr) rfl) sa_nil)) T.g_Network hx0)) sa_nil)) (by decide)) rfl rfl nioL))))
theorem ok_Network_edges (T : Tp P K mg) : FnOk P w K mg base CX0 1 T.a_Network_edges T.fd_Network_edges ["self"] (spD K mg X0 [.fr] (.own .fr) m_Network_edges) := by
  refine fnD (N := N_Network_edges) (pm := [.fr]) (Γl := []) T.F_Network_edges sc_Network_edges rfl rfl rfl fun cdv A outer s H E hr => ⟨_, (pss_one (ps_ret (pe_callTy (kx_list (K := K) rfl) (by rfl) T.z_list (by decide +kernel) (pa_cons (kx_fld (K := K) rfl (pv 0) (by rfl)) pa_nil)))), fun Bp F0 => ⟨[.fr], ?_⟩⟩
  unfold b_Network_edges
  exact (ss_ret (Γ' := [.fr]) (sx_of (se_cb cs_list (sa_cons (se_fld (c := "Network") (f := "_edges") (se_var (i := 0) (m := .fr) rfl) T.g_Network T.cl_Network T.na_Network__edges) sa_nil))))
theorem ok_Network_size (T : Tp P K mg) : FnOk P w K mg base CX0 1 T.a_Network_size T.fd_Network_size ["self"] (spD K mg X0 [.fr] .fr m_Network_size) := by
  refine fnD (N := N_Network_size) (pm := [.fr]) (Γl := []) T.F_Network_size sc_Network_size rfl rfl rfl fun cdv A outer s H E hr => ⟨_, (pss_one (ps_ret (kx_fld (K := K) rfl (pv 0) (by rfl)))), fun Bp F0 => ⟨[.fr], ?_⟩⟩
  unfold b_Network_size
  exact (ss_ret (Γ' := [.fr]) (sx_of (se_fld (c := "Network") (f := "_size") (se_var (i := 0) (m := .fr) rfl) T.g_Network T.cl_Network T.na_Network__size)))
theorem ok_told_labels (T : Tp P K mg) : FnOk P w K mg base (L2.CX P w) 7 T.a_told_labels T.fd_told_labels ["network", "start", "arcs"] (spD K mg (XO mg ecsX) [.fr, .fr, .fr] (.own .yg) m_told_labels) := by
  have G_Network_edges := ok_Network_edges (P := P) (w := w) (base := base) T
  have G_Network_size := ok_Network_size (P := P) (w := w) (base := base) T
  have G_steps_from := ok_steps_from (P := P) (w := w) (base := base) T
  refine fnDX (N := N_told_labels) (pm := [.fr, .fr, .fr]) (Γl := [.fr, (.own .yg), .fr, .fr, .yg, .yg, .yg, .fr, .fr, .yg]) T.F_told_labels sc_told_labels rfl rfl rfl fun cdv A outer s H E hr => ⟨_, (pss_cons (ps_set (i := 3) sc_told_labels.nd rfl (by first | exact Or.inl rfl | exact Or.inr rfl) (pe_meth0 (pv 0) T.cl_Network T.me_Network_edges G_Network_edges (hr.mono (by decide)) T.b_Network_edges .nil pass0)) (pss_cons (ps_set (i := 4) sc_told_labels.nd rfl (by first | exact Or.inl rfl | exact Or.inr rfl) (pe_op op_rep (pe_lst (pa_cons pe_non pa_nil)) (pe_meth0 (pv 0) T.cl_Network T.me_Network_size G_Network_size (hr.mono (by decide)) T.b_Network_size .nil pass0))) (pss_cons (ps_asg (pe_tup (pa_cons pe_int (pa_cons pe_int (pa_cons (pe_lst pa_nil) pa_nil)))) (pg_sub (pv 4) (pv 1) set_list)) (pss_cons (ps_set (i := 5) sc_told_labels.nd rfl (by first | exact Or.inl rfl | exact Or.inr rfl) pe_bl) (pss_cons (ps_while (passes_of rfl) (kx_tru (K := K) rfl (pv 5) (by intro _; rfl)) (pss_cons (ps_set (i := 5) sc_told_labels.nd rfl (by first | exact Or.inl rfl | exact Or.inr rfl) pe_bl) (pss_one (ps_for (passes_of rfl) rfl (pi_range1 rfl T.z_range (pa_cons (pe_meth0 (pv 0) T.cl_Network T.me_Network_size G_Network_size (hr.mono (by decide)) T.b_Network_size .nil pass0) pa_nil)) (pg_name (i := 6) sc_told_labels.nd rfl (by first | exact Or.inl rfl | exact Or.inr rfl)) (pss_one (ps_if (pt_cmpR op_notN (pe_ix (kx_ix (K := K) rfl) (pv 4) (pv 6) (fun _ _ => rfl)) pe_non (nomark _)) (pss_cons (ps_asg (pe_ix (kx_ix (K := K) rfl) (pv 4) (pv 6) (fun _ _ => rfl)) (pg_tup rfl (pgs_cons (pg_name (i := 7) sc_told_labels.nd rfl (by first | exact Or.inl rfl | exact Or.inr rfl)) (pgs_cons (pg_name (i := 8) sc_told_labels.nd rfl (by first | exact Or.inl rfl | exact Or.inr rfl)) (pgs_cons (pg_name (i := 9) sc_told_labels.nd rfl (by first | exact Or.inl rfl | exact Or.inr rfl)) pgs_nil))))) (pss_one (ps_for (passes_of rfl) rfl (kx_seq (K := K) rfl (pe_call G_steps_from (hr.mono (by decide)) (by rfl) T.g_steps_from T.F_steps_from.kp T.b_steps_from .nil px0 (pa_cons (pv 0) (pa_cons (pv 6) (pa_cons (pv 2) pa_nil))))) (pg_tup rfl (pgs_cons (pg_name (i := 10) sc_told_labels.nd rfl (by first | exact Or.inl rfl | exact Or.inr rfl)) (pgs_cons (pg_name (i := 11) sc_told_labels.nd rfl (by first | exact Or.inl rfl | exact Or.inr rfl)) pgs_nil))) (pss_cons (ps_set (i := 12) sc_told_labels.nd rfl (by first | exact Or.inl rfl | exact Or.inr rfl) (pe_tup (pa_cons (pe_op op_addX (pv 7) (pe_ix (kx_ix (K := K) rfl) (pe_ix (kx_ix (K := K) rfl) (pv 3) (pv 10) (fun _ _ => rfl)) pe_int (fun _ _ => rfl))) (pa_cons (pe_op op_addX (pv 8) pe_int) (pa_cons (pe_lst (StX.pa_star (pv 9) (pa_cons (pv 10) pa_nil))) pa_nil))))) (pss_one (ps_if (PW.pt (pw_or (pt_cmpR op_isN (pe_ix (kx_ix (K := K) rfl) (pv 4) (pv 11) (fun _ _ => rfl)) pe_non (nomark _)) (pw_or1 (pt_cmpR (kx_ltD (K := K) rfl hr.units65) (pv 12) (pe_ix (kx_ix (K := K) rfl) (pv 4) (pv 11) (fun _ _ => rfl)) (nomark _))))) (pss_cons (ps_asg (pv 12) (pg_sub (pv 4) (pv 11) set_list)) (pss_one (ps_set (i := 5) sc_told_labels.nd rfl (by first | exact Or.inl rfl | exact Or.inr rfl) pe_bl))) pss_nil)))))) pss_nil)))))) (pss_one (ps_ret (pv 4)))))))), fun Bp F0 => ⟨[.fr, .fr, .fr, .fr, (.own .yg), .fr, .fr, .yg, .yg, .yg, .fr, .fr, .yg], ?_⟩⟩
  unfold b_told_labels
  exact (ss_seq (ss_set (i := 3) (m := .fr) (sx_of (se_fr (se_nx (se_meth (mn := "edges") (se_var (i := 0) (m := .fr) rfl) sa_nil T.g_Network hx0)) rfl)) (by decide) nio) (ss_seq (ss_set (i := 4) (m := (.own .yg)) (sx_of (se_op os_repY (se_lst (m := .yg) (sa_cons (se_flat (m := .yg) se_non rfl rfl) sa_nil) (by decide)) (se_nx (se_meth (mn := "size") (se_var (i := 0) (m := .fr) rfl) sa_nil T.g_Network hx0)))) (by decide) nio) (ss_seq (ss_seti (i := 4) (m := .yg) rfl (sx_of (se_ygT (se_tupM (m := .yg) (sa_cons (se_flat (m := .yg) se_int rfl rfl) (sa_cons (se_flat (m := .yg) se_int rfl rfl) (sa_cons (se_ygL (se_lst (m := .yg) sa_nil (by decide))) sa_nil))) (by decide)))) (se_var (i := 1) (m := .fr) rfl) rfl) (ss_seq (ss_set (i := 5) (m := .fr) (sx_of se_bl) (by decide) nio) (ss_seq (ss_while (st_tru (se_var (i := 5) (m := .fr) rfl)) (ss_seq (ss_set (i := 5) (m := .fr) (sx_of se_bl) (by decide) nio) (ss_for (si_rng1 (sa_cons (se_nx (se_meth (mn := "size") (se_var (i := 0) (m := .fr) rfl) sa_nil T.g_Network hx0)) sa_nil)) (sn_name (i := 6) (m := .fr) rfl nio) nx_name (ss_if (st_tt (se_op os_notN (se_op os_ixY (se_var (i := 4) (m := (.own .yg)) rfl) (se_var (i := 6) (m := .fr) rfl)) se_non)) (ss_seq (ss_asg (sx_of (se_op os_ixY (se_var (i := 4) (m := (.own .yg)) rfl) (se_var (i := 6) (m := .fr) rfl))) (sn_tup (m := .yg) (is := [7, 8, 9]) (Names.cons (Names.cons (Names.cons Names.nil))) (by decide) nioL) nx_tup) (ss_for (si_seqS (se_fr (se_call (sa_cons (se_var (i := 0) (m := .fr) rfl) (sa_cons (se_var (i := 6) (m := .fr) rfl) (sa_cons (se_var (i := 2) (m := .fr) rfl) sa_nil))) hxI) rfl)) (sn_tup (m := .fr) (is := [10, 11]) (Names.cons (Names.cons Names.nil)) (by decide) nioL) nx_tup (ss_seq (ss_set (i := 12) (m := .yg) (sx_of (se_ygT (se_tupM (m := .yg) (sa_cons (se_flat (m := .yg) (se_op os_add (se_fr (se_var (i := 7) (m := .yg) rfl) rfl) (se_op os_ix (se_op os_ix (se_var (i := 3) (m := .fr) rfl) (se_var (i := 10) (m := .fr) rfl)) se_int)) rfl rfl) (sa_cons (se_flat (m := .yg) (se_op os_add (se_fr (se_var (i := 8) (m := .yg) rfl) rfl) se_int) rfl rfl) (sa_cons (se_ygL (se_snocY (se_var (i := 9) (m := .yg) rfl) (se_flat (m := .yg) (se_var (i := 10) (m := .fr) rfl) rfl rfl))) sa_nil))) (by decide)))) (by decide) nio) (ss_if (st_or (st_tt (se_op os_isN (se_op os_ixY (se_var (i := 4) (m := (.own .yg)) rfl) (se_var (i := 11) (m := .fr) rfl)) se_non)) (st_tt (se_op os_ordD (se_var (i := 12) (m := .yg) rfl) (se_op os_ixY (se_var (i := 4) (m := (.own .yg)) rfl) (se_var (i := 11) (m := .fr) rfl))))) (ss_seq (ss_seti (i := 4) (m := .yg) rfl (sx_of (se_var (i := 12) (m := .yg) rfl)) (se_var (i := 11) (m := .fr) rfl) rfl) (ss_set (i := 5) (m := .fr) (sx_of se_bl) (by decide) nio)) ss_nil)))) ss_nil)))) (ss_ret (Γ' := [.fr, .fr, .fr, .fr, (.own .yg), .fr, .fr, .yg, .yg, .yg, .fr, .fr, .yg]) (sx_move (i := 4) (m := (.own .yg)) rfl)))))))
theorem ok_least_prices (T : Tp P K mg) : FnOk P w K mg base (L2.CX P w) 8 T.a_least_prices T.fd_least_prices ["network", "start", "arcs"] (spD K mg (XO mg ecsX) [.fr, .fr, .fr] (.own .fr) m_least_prices) := by
  have G_Network_check_vertex := ok_Network_check_vertex (P := P) (w := w) (base := base) T
  have G_told_labels := ok_told_labels (P := P) (w := w) (base := base) T
  refine fnDX (N := N_least_prices) (pm := [.fr, .fr, .fr]) (Γl := [.fr]) T.F_least_prices sc_least_prices rfl rfl rfl fun cdv A outer s H E hr => ⟨_, (pss_cons (ps_expr (pe_meth (pv 0) T.cl_Network T.me_Network_check_vertex G_Network_check_vertex (hr.mono (by decide)) T.b_Network_check_vertex .nil px0 (pa_cons (pv 1) pa_nil))) (pss_one (ps_ret (pe_lc (own := [("label", 3)]) (g := (L2.gName 3)) rfl sc_least_prices.nd (kx_seq (K := K) rfl (pe_call G_told_labels (hr.mono (by decide)) (by rfl) T.g_told_labels T.F_told_labels.kp T.b_told_labels .nil px0 (pa_cons (pv 0) (pa_cons (pv 1) (pa_cons (pv 2) pa_nil))))) (blkOk_by (own := [("label", 3)]) (N := N_least_prices) (sc := defScope s_least_prices) (by decide +kernel)) (fun _ _ _ _ _ => (pg_name (i := 3) sc_least_prices.nd rfl (by first | exact Or.inl rfl | exact Or.inr rfl))) (fun _ _ _ _ _ => pts_nil) (fun _ _ _ _ _ => (pe_ifExp (pt_cmpR op_isN (pv 3) pe_non (nomark _)) pe_non (pe_ix (kx_ix (K := K) rfl) (pv 3) pe_int (fun _ _ => rfl)))))))), fun Bp F0 => ⟨[.fr, .fr, .fr, .fr], ?_⟩⟩
  unfold b_least_prices
  exact (ss_seq (ss_expr (sx_of (se_meth (mn := "check_vertex") (se_var (i := 0) (m := .fr) rfl) (sa_cons (se_var (i := 1) (m := .fr) rfl) sa_nil) T.g_Network hxI))) (ss_ret (Γ' := [.fr, .fr, .fr, .fr]) (sx_of (se_lc (vs := [3]) (si_seqC (se_fr (se_call (sa_cons (se_var (i := 0) (m := .fr) rfl) (sa_cons (se_var (i := 1) (m := .fr) rfl) (sa_cons (se_var (i := 2) (m := .fr) rfl) sa_nil))) hxI) rfl)) (sn_name (i := 3) (m := .fr) rfl nio) (keeps_name (by decide)) nx_name (by decide) st_yes (se_if (st_tt (se_op os_isN (se_var (i := 3) (m := .fr) rfl) se_non)) se_non (se_op os_ix (se_var (i := 3) (m := .fr) rfl) se_int)) rfl rfl nioL))))
theorem ok_told_path (T : Tp P K mg) : FnOk P w K mg base (L2.CX P w) 8 T.a_told_path T.fd_told_path ["network", "start", "goal", "arcs"] (spD K mg (XO mg ecsX) [.fr, .fr, .fr, .fr] (.own .fr) m_told_path) := by
  have G_Network_check_vertex := ok_Network_check_vertex (P := P) (w := w) (base := base) T
  have G_told_labels := ok_told_labels (P := P) (w := w) (base := base) T
  refine fn_thaw <| fnDX (N := N_told_path) (pm := [.fr, .fr, .fr, .fr]) (Γl := [.yg]) T.F_told_path sc_told_path rfl rfl rfl fun cdv A outer s H E hr => ⟨_, (pss_cons (ps_expr (pe_meth (pv 0) T.cl_Network T.me_Network_check_vertex G_Network_check_vertex (hr.mono (by decide)) T.b_Network_check_vertex .nil px0 (pa_cons (pv 1) pa_nil))) (pss_cons (ps_expr (pe_meth (pv 0) T.cl_Network T.me_Network_check_vertex G_Network_check_vertex (hr.mono (by decide)) T.b_Network_check_vertex .nil px0 (pa_cons (pv 2) pa_nil))) (pss_cons (ps_set (i := 4) sc_told_path.nd rfl (by first | exact Or.inl rfl | exact Or.inr rfl) (pe_ix (kx_ix (K := K) rfl) (pe_call G_told_labels (hr.mono (by decide)) (by rfl) T.g_told_labels T.F_told_labels.kp T.b_told_labels .nil px0 (pa_cons (pv 0) (pa_cons (pv 1) (pa_cons (pv 3) pa_nil)))) (pv 2) (fun _ _ => rfl))) (pss_one (ps_ret (pe_ifExp (pt_cmpR op_isN (pv 4) pe_non (nomark _)) pe_non (pe_ix (kx_ix (K := K) rfl) (pv 4) pe_int (fun _ _ => rfl)))))))), fun Bp F0 => ⟨[.fr, .fr, .fr, .fr, .yg], ?_⟩⟩
  unfold b_told_path
  exact (ss_seq (ss_expr (sx_of (se_meth (mn := "check_vertex") (se_var (i := 0) (m := .fr) rfl) (sa_cons (se_var (i := 1) (m := .fr) rfl) sa_nil) T.g_Network hxI))) (ss_seq (ss_expr (sx_of (se_meth (mn := "check_vertex") (se_var (i := 0) (m := .fr) rfl) (sa_cons (se_var (i := 2) (m := .fr) rfl) sa_nil) T.g_Network hxI))) (ss_seq (ss_set (i := 4) (m := .yg) (sx_of (se_op os_ix (se_ygL (se_call (sa_cons (se_var (i := 0) (m := .fr) rfl) (sa_cons (se_var (i := 1) (m := .fr) rfl) (sa_cons (se_var (i := 3) (m := .fr) rfl) sa_nil))) hxI)) (se_var (i := 2) (m := .fr) rfl))) (by decide) nio) (ss_ret (Γ' := [.fr, .fr, .fr, .fr, .yg]) (sx_of (se_if (st_tt (se_op os_isN (se_var (i := 4) (m := .yg) rfl) se_non)) (se_flat (m := .yg) se_non rfl rfl) (se_op os_ix (se_var (i := 4) (m := .yg) rfl) se_int)))))))
theorem ok_is_bound (T : Tp P K mg) : FnOk P w K mg base (L2.CX P w) 7 T.a_is_bound T.fd_is_bound ["network", "start", "numbers", "arcs"] (spD K mg (XO mg ecsX) [.fr, .fr, .bo, .fr] .fr m_is_bound) := by
  have G_Network_size := ok_Network_size (P := P) (w := w) (base := base) T
  have G_Network_edges := ok_Network_edges (P := P) (w := w) (base := base) T
  have G_steps_from := ok_steps_from (P := P) (w := w) (base := base) T
  refine fnDX (N := N_is_bound) (pm := [.fr, .fr, .bo, .fr]) (Γl := [.fr, .fr, .fr, .fr]) T.F_is_bound sc_is_bound rfl rfl rfl fun cdv A outer s H E hr => ⟨_, (pss_cons (ps_if (PW.pt (pw_or (pt_cmpR (kx_ne (K := K) rfl hr.units) (pe_callB (kx_len (K := K) rfl) (by rfl) T.z_len (by decide +kernel) (pa_cons (pv 2) pa_nil)) (pe_meth0 (pv 0) T.cl_Network T.me_Network_size G_Network_size (hr.mono (by decide)) T.b_Network_size .nil pass0) (nomark _)) (pw_or (pt_cmpR op_isN (pe_ix (kx_ix (K := K) rfl) (pv 2) (pv 1) (fun _ _ => rfl)) pe_non (nomark _)) (pw_or1 (pt_cmpR op_gt (pe_ix (kx_ix (K := K) rfl) (pv 2) (pv 1) (fun _ _ => rfl)) pe_int (nomark _)))))) (pss_one (ps_ret pe_bl)) pss_nil) (pss_cons (ps_set (i := 4) sc_is_bound.nd rfl (by first | exact Or.inl rfl | exact Or.inr rfl) (pe_meth0 (pv 0) T.cl_Network T.me_Network_edges G_Network_edges (hr.mono (by decide)) T.b_Network_edges .nil pass0)) (pss_cons (ps_for (passes_of rfl) rfl (pi_range1 rfl T.z_range (pa_cons (pe_meth0 (pv 0) T.cl_Network T.me_Network_size G_Network_size (hr.mono (by decide)) T.b_Network_size .nil pass0) pa_nil)) (pg_name (i := 5) sc_is_bound.nd rfl (by first | exact Or.inl rfl | exact Or.inr rfl)) (pss_one (ps_if (pt_cmpR op_notN (pe_ix (kx_ix (K := K) rfl) (pv 2) (pv 5) (fun _ _ => rfl)) pe_non (nomark _)) (pss_one (ps_for (passes_of rfl) rfl (kx_seq (K := K) rfl (pe_call G_steps_from (hr.mono (by decide)) (by rfl) T.g_steps_from T.F_steps_from.kp T.b_steps_from .nil px0 (pa_cons (pv 0) (pa_cons (pv 5) (pa_cons (pv 3) pa_nil))))) (pg_tup rfl (pgs_cons (pg_name (i := 6) sc_is_bound.nd rfl (by first | exact Or.inl rfl | exact Or.inr rfl)) (pgs_cons (pg_name (i := 7) sc_is_bound.nd rfl (by first | exact Or.inl rfl | exact Or.inr rfl)) pgs_nil))) (pss_one (ps_if (PW.pt (pw_or (pt_cmpR op_isN (pe_ix (kx_ix (K := K) rfl) (pv 2) (pv 7) (fun _ _ => rfl)) pe_non (nomark _)) (pw_or1 (pt_cmpR op_gt (pe_ix (kx_ix (K := K) rfl) (pv 2) (pv 7) (fun _ _ => rfl)) (pe_op op_addX (pe_ix (kx_ix (K := K) rfl) (pv 2) (pv 5) (fun _ _ => rfl)) (pe_ix (kx_ix (K := K) rfl) (pe_ix (kx_ix (K := K) rfl) (pv 4) (pv 6) (fun _ _ => rfl)) pe_int (fun _ _ => rfl))) (nomark _))))) (pss_one (ps_ret pe_bl)) pss_nil)))) pss_nil))) (pss_one (ps_ret pe_bl))))), fun Bp F0 => ⟨[.fr, .fr, .bo, .fr, .fr, .fr, .fr, .fr], ?_⟩⟩
  unfold b_is_bound
  exact (ss_seq (ss_if (st_or (st_tt (se_op os_ne (se_cb cs_len (sa_cons (se_var (i := 2) (m := .bo) rfl) sa_nil)) (se_nx (se_meth (mn := "size") (se_var (i := 0) (m := .fr) rfl) sa_nil T.g_Network hx0)))) (st_or (st_tt (se_op os_isN (se_op os_ix (se_var (i := 2) (m := .bo) rfl) (se_var (i := 1) (m := .fr) rfl)) se_non)) (st_tt (se_op os_gt (se_op os_ix (se_var (i := 2) (m := .bo) rfl) (se_var (i := 1) (m := .fr) rfl)) se_int)))) (ss_ret (Γ' := [.fr, .fr, .bo, .fr, .fr, .fr, .fr, .fr]) (sx_of se_bl)) ss_nil) (ss_seq (ss_set (i := 4) (m := .fr) (sx_of (se_fr (se_nx (se_meth (mn := "edges") (se_var (i := 0) (m := .fr) rfl) sa_nil T.g_Network hx0)) rfl)) (by decide) nio) (ss_seq (ss_for (si_rng1 (sa_cons (se_nx (se_meth (mn := "size") (se_var (i := 0) (m := .fr) rfl) sa_nil T.g_Network hx0)) sa_nil)) (sn_name (i := 5) (m := .fr) rfl nio) nx_name (ss_if (st_tt (se_op os_notN (se_op os_ix (se_var (i := 2) (m := .bo) rfl) (se_var (i := 5) (m := .fr) rfl)) se_non)) (ss_for (si_seqS (se_fr (se_call (sa_cons (se_var (i := 0) (m := .fr) rfl) (sa_cons (se_var (i := 5) (m := .fr) rfl) (sa_cons (se_var (i := 3) (m := .fr) rfl) sa_nil))) hxI) rfl)) (sn_tup (m := .fr) (is := [6, 7]) (Names.cons (Names.cons Names.nil)) (by decide) nioL) nx_tup (ss_if (st_or (st_tt (se_op os_isN (se_op os_ix (se_var (i := 2) (m := .bo) rfl) (se_var (i := 7) (m := .fr) rfl)) se_non)) (st_tt (se_op os_gt (se_op os_ix (se_var (i := 2) (m := .bo) rfl) (se_var (i := 7) (m := .fr) rfl)) (se_fr (se_op os_add (se_immL (se_op os_ix (se_var (i := 2) (m := .bo) rfl) (se_var (i := 5) (m := .fr) rfl)) rfl) (se_op os_ix (se_op os_ix (se_var (i := 4) (m := .fr) rfl) (se_var (i := 6) (m := .fr) rfl)) se_int)) rfl)))) (ss_ret (Γ' := [.fr, .fr, .bo, .fr, .fr, .fr, .fr, .fr]) (sx_of se_bl)) ss_nil)) ss_nil)) (ss_ret (Γ' := [.fr, .fr, .bo, .fr, .fr, .fr, .fr, .fr]) (sx_of se_bl)))))
theorem ok_check_path (T : Tp P K mg) : FnOk P w K mg base (L2.CX P w) 8 T.a_check_path T.fd_check_path ["network", "start", "goal", "path", "numbers", "arcs"] (spD K mg (XO mg ecsX) [.fr, .fr, .fr, .bo, .bo, .fr] .fr m_check_path) := by
  have G_Network_check_vertex := ok_Network_check_vertex (P := P) (w := w) (base := base) T
  have G_is_bound := ok_is_bound (P := P) (w := w) (base := base) T
  have G_Network_edges := ok_Network_edges (P := P) (w := w) (base := base) T
  have G_steps_from := ok_steps_from (P := P) (w := w) (base := base) T
  refine fnDX (N := N_check_path) (pm := [.fr, .fr, .fr, .bo, .bo, .fr]) (Γl := [.fr, .fr, .fr, .fr, .fr]) T.F_check_path sc_check_path rfl rfl rfl fun cdv A outer s H E hr => ⟨_, (pss_cons (ps_expr (pe_meth (pv 0) T.cl_Network T.me_Network_check_vertex G_Network_check_vertex (hr.mono (by decide)) T.b_Network_check_vertex .nil px0 (pa_cons (pv 1) pa_nil))) (pss_cons (ps_expr (pe_meth (pv 0) T.cl_Network T.me_Network_check_vertex G_Network_check_vertex (hr.mono (by decide)) T.b_Network_check_vertex .nil px0 (pa_cons (pv 2) pa_nil))) (pss_cons (ps_if (pt_not (pt_val (pe_call G_is_bound (hr.mono (by decide)) (by rfl) T.g_is_bound T.F_is_bound.kp T.b_is_bound .nil px0 (pa_cons (pv 0) (pa_cons (pv 1) (pa_cons (pv 4) (pa_cons (pv 5) pa_nil))))))) (pss_one (ps_ret pe_bl)) pss_nil) (pss_cons (ps_set (i := 6) sc_check_path.nd rfl (by first | exact Or.inl rfl | exact Or.inr rfl) (pe_meth0 (pv 0) T.cl_Network T.me_Network_edges G_Network_edges (hr.mono (by decide)) T.b_Network_edges .nil pass0)) (pss_cons (ps_set (i := 7) sc_check_path.nd rfl (by first | exact Or.inl rfl | exact Or.inr rfl) (pv 1)) (pss_cons (ps_set (i := 8) sc_check_path.nd rfl (by first | exact Or.inl rfl | exact Or.inr rfl) pe_int) (pss_cons (ps_for (passes_of rfl) rfl (kx_seq (K := K) rfl (pv 3)) (pg_name (i := 9) sc_check_path.nd rfl (by first | exact Or.inl rfl | exact Or.inr rfl)) (pss_cons (ps_set (i := 10) sc_check_path.nd rfl (by first | exact Or.inl rfl | exact Or.inr rfl) (pe_callTy (call_dictP rfl) (by rfl) T.z_dict (by decide +kernel) (pa_cons (pe_call G_steps_from (hr.mono (by decide)) (by rfl) T.g_steps_from T.F_steps_from.kp T.b_steps_from .nil px0 (pa_cons (pv 0) (pa_cons (pv 7) (pa_cons (pv 5) pa_nil)))) pa_nil))) (pss_cons (ps_if (pt_cmp (pc_dnotin (u1_of hr.units65) (pv 9) (pv 10)) (by rfl)) (pss_one (ps_ret pe_bl)) pss_nil) (pss_cons (ps_set (i := 7) sc_check_path.nd rfl (by first | exact Or.inl rfl | exact Or.inr rfl) (pe_dget (u1_of hr.units65) (pv 10) (pv 9) (fun _ _ => rfl))) (pss_one (ps_aug (i := 8) sc_check_path.nd rfl (by first | exact Or.inl rfl | exact Or.inr rfl) (pe_ix (kx_ix (K := K) rfl) (pe_ix (kx_ix (K := K) rfl) (pv 6) (pv 9) (fun _ _ => rfl)) pe_int (fun _ _ => rfl)) ip_add)))))) (pss_one (ps_ret (pe_and (pe_cmpR (kx_eq (K := K) rfl hr.units) (pv 7) (pv 2) (nomark _)) (pe_one (pe_cmpR (kx_eq (K := K) rfl hr.units) (pv 8) (pe_ix (kx_ix (K := K) rfl) (pv 4) (pv 2) (fun _ _ => rfl)) (nomark _))))))))))))), fun Bp F0 => ⟨[.fr, .fr, .fr, .bo, .bo, .fr, .fr, .fr, .fr, .fr, .fr], ?_⟩⟩
  unfold b_check_path
  exact (ss_seq (ss_expr (sx_of (se_meth (mn := "check_vertex") (se_var (i := 0) (m := .fr) rfl) (sa_cons (se_var (i := 1) (m := .fr) rfl) sa_nil) T.g_Network hxI))) (ss_seq (ss_expr (sx_of (se_meth (mn := "check_vertex") (se_var (i := 0) (m := .fr) rfl) (sa_cons (se_var (i := 2) (m := .fr) rfl) sa_nil) T.g_Network hxI))) (ss_seq (ss_if (st_not (st_b (se_call (sa_cons (se_var (i := 0) (m := .fr) rfl) (sa_cons (se_var (i := 1) (m := .fr) rfl) (sa_cons (se_var (i := 4) (m := .bo) rfl) (sa_cons (se_var (i := 5) (m := .fr) rfl) sa_nil)))) hxI))) (ss_ret (Γ' := [.fr, .fr, .fr, .bo, .bo, .fr, .fr, .fr, .fr, .fr, .fr]) (sx_of se_bl)) ss_nil) (ss_seq (ss_set (i := 6) (m := .fr) (sx_of (se_fr (se_nx (se_meth (mn := "edges") (se_var (i := 0) (m := .fr) rfl) sa_nil T.g_Network hx0)) rfl)) (by decide) nio) (ss_seq (ss_set (i := 7) (m := .fr) (sx_of (se_var (i := 1) (m := .fr) rfl)) (by decide) nio) (ss_seq (ss_set (i := 8) (m := .fr) (sx_of se_int) (by decide) nio) (ss_seq (ss_for (si_imm (si_seqS (se_var (i := 3) (m := .bo) rfl))) (sn_name (i := 9) (m := .fr) rfl nio) nx_name (ss_seq (ss_set (i := 10) (m := .fr) (sx_of (se_fr (se_dict rfl (se_fr (se_call (sa_cons (se_var (i := 0) (m := .fr) rfl) (sa_cons (se_var (i := 7) (m := .fr) rfl) (sa_cons (se_var (i := 5) (m := .fr) rfl) sa_nil))) hxI) rfl)) rfl)) (by decide) nio) (ss_seq (ss_if (st_tt (se_dnotin (se_var (i := 9) (m := .fr) rfl) (se_var (i := 10) (m := .fr) rfl))) (ss_ret (Γ' := [.fr, .fr, .fr, .bo, .bo, .fr, .fr, .fr, .fr, .fr, .fr]) (sx_of se_bl)) ss_nil) (ss_seq (ss_set (i := 7) (m := .fr) (sx_of (se_dget (se_var (i := 10) (m := .fr) rfl) (se_var (i := 9) (m := .fr) rfl))) (by decide) nio) (ss_aug (i := 8) (m := .fr) (f := fun i j => i + j) (se_op os_ix (se_op os_ix (se_var (i := 6) (m := .fr) rfl) (se_var (i := 9) (m := .fr) rfl)) se_int) rfl nio))))) (ss_ret (Γ' := [.fr, .fr, .fr, .bo, .bo, .fr, .fr, .fr, .fr, .fr, .fr]) (sx_of (se_andV (se_op os_eq (se_var (i := 7) (m := .fr) rfl) (se_var (i := 2) (m := .fr) rfl)) (se_op os_eq (se_var (i := 8) (m := .fr) rfl) (se_op os_ix (se_var (i := 4) (m := .bo) rfl) (se_var (i := 2) (m := .fr) rfl)))))))))))))
theorem ok_distances (T : Tp P K mg) : FnOk P w K mg base CX0 9 T.a_distances T.fd_distances ["network"] (spD K mg X0 [.fr] (.own .fr) m_distances) := by
  have G_Network_size := ok_Network_size (P := P) (w := w) (base := base) T
  have G_least_prices := ok_least_prices (P := P) (w := w) (base := base) T
  refine fnD (N := N_distances) (pm := [.fr]) (Γl := [.fr]) T.F_distances sc_distances rfl rfl rfl fun cdv A outer s H E hr => ⟨_, (pss_one (ps_ret (pe_lc (own := [("vertex", 1)]) (g := (L2.gName 1)) rfl sc_distances.nd (pi_range1 rfl T.z_range (pa_cons (pe_meth0 (pv 0) T.cl_Network T.me_Network_size G_Network_size (hr.mono (by decide)) T.b_Network_size .nil pass0) pa_nil)) (blkOk_by (own := [("vertex", 1)]) (N := N_distances) (sc := defScope s_distances) (by decide +kernel)) (fun _ _ _ _ _ => (pg_name (i := 1) sc_distances.nd rfl (by first | exact Or.inl rfl | exact Or.inr rfl))) (fun _ _ _ _ _ => pts_nil) (fun _ _ _ _ _ => (pe_call G_least_prices (hr.mono (by decide)) (by rfl) T.g_least_prices T.F_least_prices.kp T.b_least_prices .nil passN (pa_cons (pv 0) (pa_cons (pv 1) (pa_cons pe_bl pa_nil)))))))), fun Bp F0 => ⟨[.fr, .fr], ?_⟩⟩
  unfold b_distances
  exact (ss_ret (Γ' := [.fr, .fr]) (sx_of (se_lc (vs := [1]) (si_rng1 (sa_cons (se_meth (mn := "size") (se_var (i := 0) (m := .fr) rfl) sa_nil T.g_Network hx0) sa_nil)) (sn_name (i := 1) (m := .fr) rfl nio) (keeps_name (by decide)) nx_name (by decide) st_yes (se_fr (se_call (sa_cons (se_var (i := 0) (m := .fr) rfl) (sa_cons (se_var (i := 1) (m := .fr) rfl) (sa_cons se_bl sa_nil))) hxN) rfl) rfl rfl nioL)))
theorem ok_components (T : Tp P K mg) : FnOk P w K mg base CX0 9 T.a_components T.fd_components ["network"] (spD K mg X0 [.fr] (.own .fr) m_components) := by
  have G_Network_size := ok_Network_size (P := P) (w := w) (base := base) T
  have G_least_prices := ok_least_prices (P := P) (w := w) (base := base) T
  refine fnD (N := N_components) (pm := [.fr]) (Γl := [(.own .fr), (.own .fr), .fr, .fr, .fr]) T.F_components sc_components rfl rfl rfl fun cdv A outer s H E hr => ⟨_, (pss_cons (ps_set (i := 1) sc_components.nd rfl (by first | exact Or.inl rfl | exact Or.inr rfl) (pe_lst pa_nil)) (pss_cons (ps_set (i := 2) sc_components.nd rfl (by first | exact Or.inl rfl | exact Or.inr rfl) (pe_lst pa_nil)) (pss_cons (ps_for PassesOwn.never rfl (pi_range1 rfl T.z_range (pa_cons (pe_meth0 (pv 0) T.cl_Network T.me_Network_size G_Network_size (hr.mono (by decide)) T.b_Network_size .nil pass0) pa_nil)) (pg_name (i := 3) sc_components.nd rfl (by first | exact Or.inl rfl | exact Or.inr rfl)) (pss_one (ps_if (pt_cmpR (kx_notIn (K := K) rfl hr.units65) (pv 3) (pv 2) (by rfl)) (pss_cons (ps_set (i := 4) sc_components.nd rfl (by first | exact Or.inl rfl | exact Or.inr rfl) (pe_call G_least_prices (hr.mono (by decide)) (by rfl) T.g_least_prices T.F_least_prices.kp T.b_least_prices .nil passN (pa_cons (pv 0) (pa_cons (pv 3) (pa_cons pe_bl pa_nil))))) (pss_cons (ps_expr (pe_bm PySem.F.plainAttrs_list PySem.F.slot_list_append PySem.F.type_list_append mt_append (pv 1) (pa_cons (pe_lc (own := [("other", 5)]) (g := (L2.gName 5)) rfl sc_components.nd (pi_range1 rfl T.z_range (pa_cons (pe_meth0 (pv 0) T.cl_Network T.me_Network_size G_Network_size (hr.mono (by decide)) T.b_Network_size .nil pass0) pa_nil)) (blkOk_by (own := [("other", 5)]) (N := N_components) (sc := defScope s_components) (by decide +kernel)) (fun _ _ _ _ _ => (pg_name (i := 5) sc_components.nd rfl (by first | exact Or.inl rfl | exact Or.inr rfl))) (fun _ _ _ _ _ => pts_one (pt_cmpR op_notN (pe_ix (kx_ix (K := K) rfl) (pv 4) (pv 5) (fun _ _ => rfl)) pe_non (nomark _))) (fun _ _ _ _ _ => (pv 5))) pa_nil))) (pss_one (ps_expr (pe_bm PySem.F.plainAttrs_list PySem.F.slot_list_extend PySem.F.type_list_extend mt_extendR (pv 2) (pa_cons (pe_ix (kx_ix (K := K) rfl) (pv 1) (pe_un un_neg pe_int) (fun _ _ => rfl)) pa_nil)))))) pss_nil))) (pss_one (ps_ret (pv 1)))))), fun Bp F0 => ⟨[.fr, (.own .fr), (.own .fr), .fr, .fr, .fr], ?_⟩⟩
  unfold b_components
  exact (ss_seq (ss_set (i := 1) (m := (.own .fr)) (sx_of (se_lst (m := .fr) sa_nil (by decide))) (by decide) nio) (ss_seq (ss_set (i := 2) (m := (.own .fr)) (sx_of (se_lst (m := .fr) sa_nil (by decide))) (by decide) nio) (ss_seq (ss_for (si_rng1 (sa_cons (se_meth (mn := "size") (se_var (i := 0) (m := .fr) rfl) sa_nil T.g_Network hx0) sa_nil)) (sn_name (i := 3) (m := .fr) rfl nio) nx_name (ss_if (st_tt (se_op os_notIn (se_var (i := 3) (m := .fr) rfl) (se_var (i := 2) (m := (.own .fr)) rfl))) (ss_seq (ss_set (i := 4) (m := .fr) (sx_of (se_fr (se_call (sa_cons (se_var (i := 0) (m := .fr) rfl) (sa_cons (se_var (i := 3) (m := .fr) rfl) (sa_cons se_bl sa_nil))) hxN) rfl)) (by decide) nio) (ss_seq (ss_expr (sx_app (i := 1) (m := .fr) rfl (sx_of (se_fr (se_lc (vs := [5]) (si_rng1 (sa_cons (se_meth (mn := "size") (se_var (i := 0) (m := .fr) rfl) sa_nil T.g_Network hx0) sa_nil)) (sn_name (i := 5) (m := .fr) rfl nio) (keeps_name (by decide)) nx_name (by decide) (st_tt (se_op os_notN (se_op os_ix (se_var (i := 4) (m := .fr) rfl) (se_var (i := 5) (m := .fr) rfl)) se_non)) (se_var (i := 5) (m := .fr) rfl) rfl rfl nioL) rfl)) rfl)) (ss_expr (sx_ext (i := 2) rfl (sx_of (se_op os_ix (se_var (i := 1) (m := (.own .fr)) rfl) (se_neg se_int))))))) ss_nil)) (ss_ret (Γ' := [.fr, (.own .fr), (.own .fr), .fr, .fr, .fr]) (sx_move (i := 1) (m := (.own .fr)) rfl)))))
theorem ok_check_edge (T : Tp P K mg) : FnOk P w K mg base CX0 1 T.a_check_edge T.fd_check_edge ["size", "edge", "number"] (spD K mg X0 [.fr, .fr, .fr] .fr m_check_edge) := by
  refine fnD (N := N_check_edge) (pm := [.fr, .fr, .fr]) (Γl := [.fr, .fr, .fr]) T.F_check_edge sc_check_edge rfl rfl rfl fun cdv A outer s H E hr => ⟨_, (pss_cons (ps_asg (pv 1) (pg_tup rfl (pgs_cons (pg_name (i := 3) sc_check_edge.nd rfl (by first | exact Or.inl rfl | exact Or.inr rfl)) (pgs_cons (pg_name (i := 4) sc_check_edge.nd rfl (by first | exact Or.inl rfl | exact Or.inr rfl)) (pgs_cons (pg_name (i := 5) sc_check_edge.nd rfl (by first | exact Or.inl rfl | exact Or.inr rfl)) pgs_nil))))) (pss_cons (ps_if (PW.pt (pw_or (pt_not (pt_chain op_le op_lt pe_int (pv 3) (pv 0))) (pw_or (pt_not (pt_chain op_le op_lt pe_int (pv 4) (pv 0))) (pw_or1 (pt_cmpR (kx_eq (K := K) rfl hr.units) (pv 3) (pv 4) (nomark _)))))) (pss_one ps_never) pss_nil) (pss_one (ps_if (pt_not (pt_chain op_le op_le pe_int (pv 5) (pe_glob (v := (.int 1048576)) rfl T.k_MOST_PRICE.choose_spec ⟨_, rfl⟩))) (pss_one ps_never) pss_nil)))), fun Bp F0 => ⟨[.fr, .fr, .fr, .fr, .fr, .fr], ?_⟩⟩
  unfold b_check_edge
  exact (ss_seq (ss_asg (sx_of (se_var (i := 1) (m := .fr) rfl)) (sn_tup (m := .fr) (is := [3, 4, 5]) (Names.cons (Names.cons (Names.cons Names.nil))) (by decide) nioL) nx_tup) (ss_seq (ss_if (st_or (st_not (st_tt (se_chain os_le os_lt se_int (se_var (i := 3) (m := .fr) rfl) (se_var (i := 0) (m := .fr) rfl)))) (st_or (st_not (st_tt (se_chain os_le os_lt se_int (se_var (i := 4) (m := .fr) rfl) (se_var (i := 0) (m := .fr) rfl)))) (st_tt (se_op os_eq (se_var (i := 3) (m := .fr) rfl) (se_var (i := 4) (m := .fr) rfl))))) (ss_never (Γ' := [.fr, .fr, .fr, .fr, .fr, .fr])) ss_nil) (ss_if (st_not (st_tt (se_chain os_le os_le se_int (se_var (i := 5) (m := .fr) rfl) (se_const (m := .fr) rfl rfl)))) (ss_never (Γ' := [.fr, .fr, .fr, .fr, .fr, .fr])) ss_nil)))
theorem ok__law_draws (T : Tp P K mg) : FnOk P w K mg base CX0 1 T.a__law_draws T.fd__law_draws ["_law_script"] (spD K mg X0 [.sc] (.own .fr) m__law_draws) := by
  refine fnD (N := N__law_draws) (pm := [.sc]) (Γl := [(.own .fr), .fr, .fr, .fr, .fr]) T.F__law_draws sc__law_draws rfl rfl rfl fun cdv A outer s H E hr => ⟨_, (pss_cons (ps_set (i := 1) sc__law_draws.nd rfl (by first | exact Or.inl rfl | exact Or.inr rfl) (pe_lst pa_nil)) (pss_cons (ps_for PassesOwn.never rfl (pi_range1 rfl T.z_range (pa_cons (pe_callB (call_min2 rfl) (by rfl) T.z_min (by decide +kernel) (pa_cons pe_int (pa_cons (pe_callB (kx_len (K := K) rfl) (by rfl) T.z_len (by decide +kernel) (pa_cons (pv 0) pa_nil)) pa_nil))) pa_nil)) (pg_name (i := 2) sc__law_draws.nd rfl (by first | exact Or.inl rfl | exact Or.inr rfl)) (pss_cons (ps_set (i := 3) sc__law_draws.nd rfl (by first | exact Or.inl rfl | exact Or.inr rfl) (pe_callB call_abs (by rfl) T.z_abs (by decide +kernel) (pa_cons (pe_ix (kx_ix (K := K) rfl) (pv 0) (pv 2) (fun _ _ => rfl)) pa_nil))) (pss_one (ps_if (pt_cmpR op_ge (pv 3) (pe_op op_pow pe_int pe_int) (nomark _)) (pss_one (ps_for PassesOwn.never rfl (pi_range1 rfl T.z_range (pa_cons pe_int pa_nil)) (pg_name (i := 4) sc__law_draws.nd rfl (by first | exact Or.inl rfl | exact Or.inr rfl)) (pss_one (ps_if (pt_cmpR op_gt (pv 3) pe_int (nomark _)) (pss_cons (ps_expr (pe_bm PySem.F.plainAttrs_list PySem.F.slot_list_append PySem.F.type_list_append mt_append (pv 1) (pa_cons (pe_op op_modX (pe_callTy call_int1 (by rfl) T.z_int (by decide +kernel) (pa_cons (pv 3) pa_nil)) pe_int) pa_nil))) (pss_one (ps_set (i := 3) sc__law_draws.nd rfl (by first | exact Or.inl rfl | exact Or.inr rfl) (pe_op op_divX (pv 3) pe_int)))) pss_nil)))) (pss_cons (ps_set (i := 5) sc__law_draws.nd rfl (by first | exact Or.inl rfl | exact Or.inr rfl) (pe_op op_modX (pe_callTy call_int1 (by rfl) T.z_int (by decide +kernel) (pa_cons (pe_op op_addX (pe_op op_mulX (pv 3) pe_int) (pe_op op_mulX (pe_op op_addX (pv 2) pe_int) pe_int)) pa_nil)) pe_int)) (pss_cons (ps_set (i := 5) sc__law_draws.nd rfl (by first | exact Or.inl rfl | exact Or.inr rfl) (pe_op op_modX (pe_callTy call_int1 (by rfl) T.z_int (by decide +kernel) (pa_cons (pe_op op_addX (pe_op op_addX (pe_op op_mulX (pv 5) pe_int) (pe_op op_mulX pe_int (pv 2))) pe_int) pa_nil)) pe_int)) (pss_cons (ps_expr (pe_bm PySem.F.plainAttrs_list PySem.F.slot_list_append PySem.F.type_list_append mt_append (pv 1) (pa_cons (pe_op op_modX (pe_callTy call_int1 (by rfl) T.z_int (by decide +kernel) (pa_cons (pv 5) pa_nil)) pe_int) pa_nil))) (pss_one (ps_expr (pe_bm PySem.F.plainAttrs_list PySem.F.slot_list_append PySem.F.type_list_append mt_append (pv 1) (pa_cons (pe_op op_modX (pe_callTy call_int1 (by rfl) T.z_int (by decide +kernel) (pa_cons (pe_op op_divX (pv 5) pe_int) pa_nil)) pe_int) pa_nil))))))))))) (pss_one (ps_ret (pv 1))))), fun Bp F0 => ⟨[.sc, (.own .fr), .fr, .fr, .fr, .fr], ?_⟩⟩
  unfold b__law_draws
  exact (ss_seq (ss_set (i := 1) (m := (.own .fr)) (sx_of (se_lst (m := .fr) sa_nil (by decide))) (by decide) nio) (ss_seq (ss_for (si_rng1 (sa_cons (se_cb cs_min2 (sa_cons se_int (sa_cons (se_cb cs_len (sa_cons (se_var (i := 0) (m := .sc) rfl) sa_nil)) sa_nil))) sa_nil)) (sn_name (i := 2) (m := .fr) rfl nio) nx_name (ss_seq (ss_set (i := 3) (m := .fr) (sx_of (se_cb cs_abs (sa_cons (se_op os_ix (se_var (i := 0) (m := .sc) rfl) (se_var (i := 2) (m := .fr) rfl)) sa_nil))) (by decide) nio) (ss_if (st_tt (se_op os_ge (se_var (i := 3) (m := .fr) rfl) (se_op os_pow se_int se_int))) (ss_for (si_rng1 (sa_cons se_int sa_nil)) (sn_name (i := 4) (m := .fr) rfl nio) nx_name (ss_if (st_tt (se_op os_gt (se_var (i := 3) (m := .fr) rfl) se_int)) (ss_seq (ss_expr (sx_app (i := 1) (m := .fr) rfl (sx_of (se_op os_mod (se_cb cs_int (sa_cons (se_var (i := 3) (m := .fr) rfl) sa_nil)) se_int)) rfl)) (ss_set (i := 3) (m := .fr) (sx_of (se_op os_div (se_var (i := 3) (m := .fr) rfl) se_int)) (by decide) nio)) ss_nil)) (ss_seq (ss_set (i := 5) (m := .fr) (sx_of (se_op os_mod (se_cb cs_int (sa_cons (se_fr (se_op os_add (se_op os_mul (se_var (i := 3) (m := .fr) rfl) se_int) (se_op os_mul (se_fr (se_op os_add (se_var (i := 2) (m := .fr) rfl) se_int) rfl) se_int)) rfl) sa_nil)) se_int)) (by decide) nio) (ss_seq (ss_set (i := 5) (m := .fr) (sx_of (se_op os_mod (se_cb cs_int (sa_cons (se_fr (se_op os_add (se_fr (se_op os_add (se_op os_mul (se_var (i := 5) (m := .fr) rfl) se_int) (se_op os_mul se_int (se_var (i := 2) (m := .fr) rfl))) rfl) se_int) rfl) sa_nil)) se_int)) (by decide) nio) (ss_seq (ss_expr (sx_app (i := 1) (m := .fr) rfl (sx_of (se_op os_mod (se_cb cs_int (sa_cons (se_var (i := 5) (m := .fr) rfl) sa_nil)) se_int)) rfl)) (ss_expr (sx_app (i := 1) (m := .fr) rfl (sx_of (se_op os_mod (se_cb cs_int (sa_cons (se_op os_div (se_var (i := 5) (m := .fr) rfl) se_int) sa_nil)) se_int)) rfl)))))))) (ss_ret (Γ' := [.sc, (.own .fr), .fr, .fr, .fr, .fr]) (sx_move (i := 1) (m := (.own .fr)) rfl))))
theorem ok__law_mix (T : Tp P K mg) : FnOk P w K mg base CX0 1 T.a__law_mix T.fd__law_mix ["_law_draws_here", "_law_k", "_law_many"] (spD K mg X0 [.fr, .fr, .fr] .fr m__law_mix) := by
  refine fnD (N := N__law_mix) (pm := [.fr, .fr, .fr]) (Γl := [.fr]) T.F__law_mix sc__law_mix rfl rfl rfl fun cdv A outer s H E hr => ⟨_, (pss_cons (ps_set (i := 3) sc__law_mix.nd rfl (by first | exact Or.inl rfl | exact Or.inr rfl) pe_int) (pss_cons (ps_if (pt_cmpR op_gt (pe_callB (kx_len (K := K) rfl) (by rfl) T.z_len (by decide +kernel) (pa_cons (pv 0) pa_nil)) pe_int (nomark _)) (pss_one (ps_set (i := 3) sc__law_mix.nd rfl (by first | exact Or.inl rfl | exact Or.inr rfl) (pe_ix (kx_ix (K := K) rfl) (pv 0) (pe_op op_modX (pe_callTy call_int1 (by rfl) T.z_int (by decide +kernel) (pa_cons (pv 1) pa_nil)) (pe_callB (kx_len (K := K) rfl) (by rfl) T.z_len (by decide +kernel) (pa_cons (pv 0) pa_nil))) (fun _ _ => rfl)))) pss_nil) (pss_cons (ps_if (pt_cmpR op_lt (pv 1) (pe_callB (kx_len (K := K) rfl) (by rfl) T.z_len (by decide +kernel) (pa_cons (pv 0) pa_nil)) (nomark _)) (pss_one (ps_ret (pe_op op_modX (pe_callTy call_int1 (by rfl) T.z_int (by decide +kernel) (pa_cons (pv 3) pa_nil)) (pv 2)))) pss_nil) (pss_one (ps_ret (pe_op op_modX (pe_callTy call_int1 (by rfl) T.z_int (by decide +kernel) (pa_cons (pe_op op_divX (pe_callTy call_int1 (by rfl) T.z_int (by decide +kernel) (pa_cons (pe_op op_addX (pe_op op_mulX (pv 3) pe_int) (pe_op op_mulX (pv 1) pe_int)) pa_nil)) pe_int) pa_nil)) (pv 2))))))), fun Bp F0 => ⟨[.fr, .fr, .fr, .fr], ?_⟩⟩
  unfold b__law_mix
  exact (ss_seq (ss_set (i := 3) (m := .fr) (sx_of se_int) (by decide) nio) (ss_seq (ss_if (st_tt (se_op os_gt (se_cb cs_len (sa_cons (se_var (i := 0) (m := .fr) rfl) sa_nil)) se_int)) (ss_set (i := 3) (m := .fr) (sx_of (se_op os_ix (se_var (i := 0) (m := .fr) rfl) (se_op os_mod (se_cb cs_int (sa_cons (se_var (i := 1) (m := .fr) rfl) sa_nil)) (se_cb cs_len (sa_cons (se_var (i := 0) (m := .fr) rfl) sa_nil))))) (by decide) nio) ss_nil) (ss_seq (ss_if (st_tt (se_op os_lt (se_var (i := 1) (m := .fr) rfl) (se_cb cs_len (sa_cons (se_var (i := 0) (m := .fr) rfl) sa_nil)))) (ss_ret (Γ' := [.fr, .fr, .fr, .fr]) (sx_of (se_op os_mod (se_cb cs_int (sa_cons (se_var (i := 3) (m := .fr) rfl) sa_nil)) (se_var (i := 2) (m := .fr) rfl)))) ss_nil) (ss_ret (Γ' := [.fr, .fr, .fr, .fr]) (sx_of (se_op os_mod (se_cb cs_int (sa_cons (se_op os_div (se_cb cs_int (sa_cons (se_fr (se_op os_add (se_op os_mul (se_var (i := 3) (m := .fr) rfl) se_int) (se_op os_mul (se_var (i := 1) (m := .fr) rfl) se_int)) rfl) sa_nil)) se_int) sa_nil)) (se_var (i := 2) (m := .fr) rfl)))))))
theorem ok__law_network (T : Tp P K mg) : FnOk P w K mg base CX0 2 T.a__law_network T.fd__law_network ["_law_draws_here", "_law_k", "_law_sizes", "_law_many", "_law_top"] (spD K mg X0 [.fr, .fr, .fr, .fr, .fr] .fr m__law_network) := by
  have G__law_mix := ok__law_mix (P := P) (w := w) (base := base) T
  refine fnD (N := N__law_network) (pm := [.fr, .fr, .fr, .fr, .fr]) (Γl := [.fr, (.own .fr), .fr, .fr, .fr]) T.F__law_network sc__law_network rfl rfl rfl fun cdv A outer s H E hr => ⟨_, (pss_cons (ps_set (i := 5) sc__law_network.nd rfl (by first | exact Or.inl rfl | exact Or.inr rfl) (pe_op op_addX pe_int (pe_call G__law_mix (hr.mono (by decide)) (by rfl) T.g__law_mix T.F__law_mix.kp T.b__law_mix .nil pass0 (pa_cons (pv 0) (pa_cons (pv 1) (pa_cons (pv 2) pa_nil)))))) (pss_cons (ps_set (i := 6) sc__law_network.nd rfl (by first | exact Or.inl rfl | exact Or.inr rfl) (pe_lst pa_nil)) (pss_cons (ps_if (pt_cmpR op_gt (pv 5) pe_int (nomark _)) (pss_one (ps_for PassesOwn.never rfl (pi_range1 rfl T.z_range (pa_cons (pe_call G__law_mix (hr.mono (by decide)) (by rfl) T.g__law_mix T.F__law_mix.kp T.b__law_mix .nil pass0 (pa_cons (pv 0) (pa_cons (pe_op op_addX (pv 1) pe_int) (pa_cons (pe_op op_addX (pv 3) pe_int) pa_nil)))) pa_nil)) (pg_name (i := 7) sc__law_network.nd rfl (by first | exact Or.inl rfl | exact Or.inr rfl)) (pss_cons (ps_set (i := 8) sc__law_network.nd rfl (by first | exact Or.inl rfl | exact Or.inr rfl) (pe_call G__law_mix (hr.mono (by decide)) (by rfl) T.g__law_mix T.F__law_mix.kp T.b__law_mix .nil pass0 (pa_cons (pv 0) (pa_cons (pe_op op_addX (pe_op op_addX (pv 1) pe_int) (pe_op op_mulX pe_int (pv 7))) (pa_cons (pv 5) pa_nil))))) (pss_cons (ps_set (i := 9) sc__law_network.nd rfl (by first | exact Or.inl rfl | exact Or.inr rfl) (pe_op op_modX (pe_callTy call_int1 (by rfl) T.z_int (by decide +kernel) (pa_cons (pe_op op_addX (pe_op op_addX (pv 8) pe_int) (pe_call G__law_mix (hr.mono (by decide)) (by rfl) T.g__law_mix T.F__law_mix.kp T.b__law_mix .nil pass0 (pa_cons (pv 0) (pa_cons (pe_op op_addX (pe_op op_addX (pv 1) pe_int) (pe_op op_mulX pe_int (pv 7))) (pa_cons (pe_op op_sub (pv 5) pe_int) pa_nil))))) pa_nil)) (pv 5))) (pss_one (ps_expr (pe_bm PySem.F.plainAttrs_list PySem.F.slot_list_append PySem.F.type_list_append mt_append (pv 6) (pa_cons (pe_tup (pa_cons (pv 8) (pa_cons (pv 9) (pa_cons (pe_call G__law_mix (hr.mono (by decide)) (by rfl) T.g__law_mix T.F__law_mix.kp T.b__law_mix .nil pass0 (pa_cons (pv 0) (pa_cons (pe_op op_addX (pe_op op_addX (pv 1) pe_int) (pe_op op_mulX pe_int (pv 7))) (pa_cons (pv 4) pa_nil)))) pa_nil)))) pa_nil)))))))) pss_nil) (pss_one (ps_ret (pe_tup (pa_cons (pv 5) (pa_cons (pv 6) pa_nil)))))))), fun Bp F0 => ⟨[.fr, .fr, .fr, .fr, .fr, .fr, (.own .fr), .fr, .fr, .fr], ?_⟩⟩
  unfold b__law_network
  exact (ss_seq (ss_set (i := 5) (m := .fr) (sx_of (se_fr (se_op os_add se_int (se_call (sa_cons (se_var (i := 0) (m := .fr) rfl) (sa_cons (se_var (i := 1) (m := .fr) rfl) (sa_cons (se_var (i := 2) (m := .fr) rfl) sa_nil))) hx0)) rfl)) (by decide) nio) (ss_seq (ss_set (i := 6) (m := (.own .fr)) (sx_of (se_lst (m := .fr) sa_nil (by decide))) (by decide) nio) (ss_seq (ss_if (st_tt (se_op os_gt (se_var (i := 5) (m := .fr) rfl) se_int)) (ss_for (si_rng1 (sa_cons (se_call (sa_cons (se_var (i := 0) (m := .fr) rfl) (sa_cons (se_fr (se_op os_add (se_var (i := 1) (m := .fr) rfl) se_int) rfl) (sa_cons (se_fr (se_op os_add (se_var (i := 3) (m := .fr) rfl) se_int) rfl) sa_nil))) hx0) sa_nil)) (sn_name (i := 7) (m := .fr) rfl nio) nx_name (ss_seq (ss_set (i := 8) (m := .fr) (sx_of (se_call (sa_cons (se_var (i := 0) (m := .fr) rfl) (sa_cons (se_fr (se_op os_add (se_fr (se_op os_add (se_var (i := 1) (m := .fr) rfl) se_int) rfl) (se_op os_mul se_int (se_var (i := 7) (m := .fr) rfl))) rfl) (sa_cons (se_var (i := 5) (m := .fr) rfl) sa_nil))) hx0)) (by decide) nio) (ss_seq (ss_set (i := 9) (m := .fr) (sx_of (se_op os_mod (se_cb cs_int (sa_cons (se_fr (se_op os_add (se_fr (se_op os_add (se_var (i := 8) (m := .fr) rfl) se_int) rfl) (se_call (sa_cons (se_var (i := 0) (m := .fr) rfl) (sa_cons (se_fr (se_op os_add (se_fr (se_op os_add (se_var (i := 1) (m := .fr) rfl) se_int) rfl) (se_op os_mul se_int (se_var (i := 7) (m := .fr) rfl))) rfl) (sa_cons (se_op os_sub (se_var (i := 5) (m := .fr) rfl) se_int) sa_nil))) hx0)) rfl) sa_nil)) (se_var (i := 5) (m := .fr) rfl))) (by decide) nio) (ss_expr (sx_app (i := 6) (m := .fr) rfl (sx_of (se_tup (sa_cons (se_var (i := 8) (m := .fr) rfl) (sa_cons (se_var (i := 9) (m := .fr) rfl) (sa_cons (se_call (sa_cons (se_var (i := 0) (m := .fr) rfl) (sa_cons (se_fr (se_op os_add (se_fr (se_op os_add (se_var (i := 1) (m := .fr) rfl) se_int) rfl) (se_op os_mul se_int (se_var (i := 7) (m := .fr) rfl))) rfl) (sa_cons (se_var (i := 4) (m := .fr) rfl) sa_nil))) hx0) sa_nil))) (by decide))) rfl))))) ss_nil) (ss_ret (Γ' := [.fr, .fr, .fr, .fr, .fr, .fr, (.own .fr), .fr, .fr, .fr]) (sx_tup (sxa_cons (sx_of (se_var (i := 5) (m := .fr) rfl)) (sxa_cons (sx_fr (sx_move (i := 6) (m := (.own .fr)) rfl) rfl) sxa_nil)) (by decide))))))
theorem ok__law_steps (T : Tp P K mg) : FnOk P w K mg base CX0 1 T.a__law_steps T.fd__law_steps ["_law_edges", "_law_arcs"] (spD K mg X0 [.fr, .fr] (.own .fr) m__law_steps) := by
  refine fnD (N := N__law_steps) (pm := [.fr, .fr]) (Γl := [(.own .fr), .fr, .fr, .fr, .fr]) T.F__law_steps sc__law_steps rfl rfl rfl fun cdv A outer s H E hr => ⟨_, (pss_cons (ps_set (i := 2) sc__law_steps.nd rfl (by first | exact Or.inl rfl | exact Or.inr rfl) (pe_lst pa_nil)) (pss_cons (ps_for PassesOwn.never rfl (pi_range1 rfl T.z_range (pa_cons (pe_callB (kx_len (K := K) rfl) (by rfl) T.z_len (by decide +kernel) (pa_cons (pv 0) pa_nil)) pa_nil)) (pg_name (i := 3) sc__law_steps.nd rfl (by first | exact Or.inl rfl | exact Or.inr rfl)) (pss_cons (ps_asg (pe_ix (kx_ix (K := K) rfl) (pv 0) (pv 3) (fun _ _ => rfl)) (pg_tup rfl (pgs_cons (pg_name (i := 4) sc__law_steps.nd rfl (by first | exact Or.inl rfl | exact Or.inr rfl)) (pgs_cons (pg_name (i := 5) sc__law_steps.nd rfl (by first | exact Or.inl rfl | exact Or.inr rfl)) (pgs_cons (pg_name (i := 6) sc__law_steps.nd rfl (by first | exact Or.inl rfl | exact Or.inr rfl)) pgs_nil))))) (pss_cons (ps_expr (pe_bm PySem.F.plainAttrs_list PySem.F.slot_list_append PySem.F.type_list_append mt_append (pv 2) (pa_cons (pe_tup (pa_cons (pv 4) (pa_cons (pv 5) (pa_cons (pv 6) (pa_cons (pv 3) pa_nil))))) pa_nil))) (pss_one (ps_if (pt_not (kx_tru (K := K) rfl (pv 1) (by intro _; rfl))) (pss_one (ps_expr (pe_bm PySem.F.plainAttrs_list PySem.F.slot_list_append PySem.F.type_list_append mt_append (pv 2) (pa_cons (pe_tup (pa_cons (pv 5) (pa_cons (pv 4) (pa_cons (pv 6) (pa_cons (pv 3) pa_nil))))) pa_nil)))) pss_nil))))) (pss_one (ps_ret (pv 2))))), fun Bp F0 => ⟨[.fr, .fr, (.own .fr), .fr, .fr, .fr, .fr], ?_⟩⟩
  unfold b__law_steps
  exact (ss_seq (ss_set (i := 2) (m := (.own .fr)) (sx_of (se_lst (m := .fr) sa_nil (by decide))) (by decide) nio) (ss_seq (ss_for (si_rng1 (sa_cons (se_cb cs_len (sa_cons (se_var (i := 0) (m := .fr) rfl) sa_nil)) sa_nil)) (sn_name (i := 3) (m := .fr) rfl nio) nx_name (ss_seq (ss_asg (sx_of (se_op os_ix (se_var (i := 0) (m := .fr) rfl) (se_var (i := 3) (m := .fr) rfl))) (sn_tup (m := .fr) (is := [4, 5, 6]) (Names.cons (Names.cons (Names.cons Names.nil))) (by decide) nioL) nx_tup) (ss_seq (ss_expr (sx_app (i := 2) (m := .fr) rfl (sx_of (se_tup (sa_cons (se_var (i := 4) (m := .fr) rfl) (sa_cons (se_var (i := 5) (m := .fr) rfl) (sa_cons (se_var (i := 6) (m := .fr) rfl) (sa_cons (se_var (i := 3) (m := .fr) rfl) sa_nil)))) (by decide))) rfl)) (ss_if (st_not (st_tru (se_var (i := 1) (m := .fr) rfl))) (ss_expr (sx_app (i := 2) (m := .fr) rfl (sx_of (se_tup (sa_cons (se_var (i := 5) (m := .fr) rfl) (sa_cons (se_var (i := 4) (m := .fr) rfl) (sa_cons (se_var (i := 6) (m := .fr) rfl) (sa_cons (se_var (i := 3) (m := .fr) rfl) sa_nil)))) (by decide))) rfl)) ss_nil)))) (ss_ret (Γ' := [.fr, .fr, (.own .fr), .fr, .fr, .fr, .fr]) (sx_move (i := 2) (m := (.own .fr)) rfl))))
theorem ok__law_labels (T : Tp P K mg) : FnOk P w K mg base CX0 2 T.a__law_labels T.fd__law_labels ["_law_size", "_law_edges", "_law_start", "_law_arcs"] (spD K mg X0 [.fr, .fr, .fr, .fr] (.own .fr) m__law_labels) := by
  have G__law_steps := ok__law_steps (P := P) (w := w) (base := base) T
  refine fnD (N := N__law_labels) (pm := [.fr, .fr, .fr, .fr]) (Γl := [(.own .fr), (.own .fr), .fr, .fr, .fr, (.own .fr), .fr, .fr, .fr, .fr]) T.F__law_labels sc__law_labels rfl rfl rfl fun cdv A outer s H E hr => ⟨_, (pss_cons (ps_set (i := 4) sc__law_labels.nd rfl (by first | exact Or.inl rfl | exact Or.inr rfl) (pe_op op_rep (pe_lst (pa_cons pe_non pa_nil)) (pv 0))) (pss_cons (ps_set (i := 5) sc__law_labels.nd rfl (by first | exact Or.inl rfl | exact Or.inr rfl) (pe_op op_rep (pe_lst (pa_cons pe_non pa_nil)) (pv 0))) (pss_cons (ps_asg (pe_tup (pa_cons pe_int (pa_cons (pe_lst pa_nil) pa_nil))) (pg_sub (pv 5) (pv 2) set_list)) (pss_cons (ps_for PassesOwn.never rfl (pi_range1 rfl T.z_range (pa_cons (pv 0) pa_nil)) (pg_name (i := 6) sc__law_labels.nd rfl (by first | exact Or.inl rfl | exact Or.inr rfl)) (pss_cons (ps_for PassesOwn.never rfl (pi_range1 rfl T.z_range (pa_cons (pv 0) pa_nil)) (pg_name (i := 7) sc__law_labels.nd rfl (by first | exact Or.inl rfl | exact Or.inr rfl)) (pss_one (ps_if (pt_cmpR op_notN (pe_ix (kx_ix (K := K) rfl) (pv 5) (pv 7) (fun _ _ => rfl)) pe_non (nomark _)) (pss_cons (ps_set (i := 8) sc__law_labels.nd rfl (by first | exact Or.inl rfl | exact Or.inr rfl) (pe_tup (pa_cons (pe_ix (kx_ix (K := K) rfl) (pe_ix (kx_ix (K := K) rfl) (pv 5) (pv 7) (fun _ _ => rfl)) pe_int (fun _ _ => rfl)) (pa_cons (pv 6) (pa_cons (pe_ix (kx_ix (K := K) rfl) (pe_ix (kx_ix (K := K) rfl) (pv 5) (pv 7) (fun _ _ => rfl)) pe_int (fun _ _ => rfl)) pa_nil))))) (pss_one (ps_if (PW.pt (pw_or (pt_cmpR op_isN (pe_ix (kx_ix (K := K) rfl) (pv 4) (pv 7) (fun _ _ => rfl)) pe_non (nomark _)) (pw_or1 (pt_cmpR (kx_ltD (K := K) rfl hr.units65) (pv 8) (pe_ix (kx_ix (K := K) rfl) (pv 4) (pv 7) (fun _ _ => rfl)) (nomark _))))) (pss_one (ps_asg (pv 8) (pg_sub (pv 4) (pv 7) set_list))) pss_nil))) pss_nil))) (pss_cons (ps_set (i := 9) sc__law_labels.nd rfl (by first | exact Or.inl rfl | exact Or.inr rfl) (pe_op op_rep (pe_lst (pa_cons pe_non pa_nil)) (pv 0))) (pss_cons (ps_for PassesOwn.never rfl (kx_seq (K := K) rfl (pe_call G__law_steps (hr.mono (by decide)) (by rfl) T.g__law_steps T.F__law_steps.kp T.b__law_steps .nil pass0 (pa_cons (pv 1) (pa_cons (pv 3) pa_nil)))) (pg_tup rfl (pgs_cons (pg_name (i := 10) sc__law_labels.nd rfl (by first | exact Or.inl rfl | exact Or.inr rfl)) (pgs_cons (pg_name (i := 11) sc__law_labels.nd rfl (by first | exact Or.inl rfl | exact Or.inr rfl)) (pgs_cons (pg_name (i := 12) sc__law_labels.nd rfl (by first | exact Or.inl rfl | exact Or.inr rfl)) (pgs_cons (pg_name (i := 13) sc__law_labels.nd rfl (by first | exact Or.inl rfl | exact Or.inr rfl)) pgs_nil))))) (pss_one (ps_if (pt_cmpR op_notN (pe_ix (kx_ix (K := K) rfl) (pv 5) (pv 10) (fun _ _ => rfl)) pe_non (nomark _)) (pss_cons (ps_set (i := 8) sc__law_labels.nd rfl (by first | exact Or.inl rfl | exact Or.inr rfl) (pe_tup (pa_cons (pe_op op_addX (pe_ix (kx_ix (K := K) rfl) (pe_ix (kx_ix (K := K) rfl) (pv 5) (pv 10) (fun _ _ => rfl)) pe_int (fun _ _ => rfl)) (pv 12)) (pa_cons (pe_op op_addX (pe_ix (kx_ix (K := K) rfl) (pe_ix (kx_ix (K := K) rfl) (pv 5) (pv 10) (fun _ _ => rfl)) pe_int (fun _ _ => rfl)) (pe_lst (pa_cons (pv 13) pa_nil))) pa_nil)))) (pss_one (ps_if (PW.pt (pw_or (pt_cmpR op_isN (pe_ix (kx_ix (K := K) rfl) (pv 9) (pv 11) (fun _ _ => rfl)) pe_non (nomark _)) (pw_or1 (pt_cmpR (kx_ltD (K := K) rfl hr.units65) (pv 8) (pe_ix (kx_ix (K := K) rfl) (pv 9) (pv 11) (fun _ _ => rfl)) (nomark _))))) (pss_one (ps_asg (pv 8) (pg_sub (pv 9) (pv 11) set_list))) pss_nil))) pss_nil))) (pss_one (ps_set (i := 5) sc__law_labels.nd rfl (by first | exact Or.inl rfl | exact Or.inr rfl) (pv 9))))))) (pss_one (ps_ret (pv 4))))))), fun Bp F0 => ⟨[.fr, .fr, .fr, .fr, (.own .fr), (.own .fr), .fr, .fr, .fr, (.own .fr), .fr, .fr, .fr, .fr], ?_⟩⟩
  unfold b__law_labels
  exact (ss_seq (ss_set (i := 4) (m := (.own .fr)) (sx_of (se_op os_rep (se_lst (m := .fr) (sa_cons se_non sa_nil) (by decide)) (se_var (i := 0) (m := .fr) rfl))) (by decide) nio) (ss_seq (ss_set (i := 5) (m := (.own .fr)) (sx_of (se_op os_rep (se_lst (m := .fr) (sa_cons se_non sa_nil) (by decide)) (se_var (i := 0) (m := .fr) rfl))) (by decide) nio) (ss_seq (ss_seti (i := 5) (m := .fr) rfl (sx_of (se_tup (sa_cons se_int (sa_cons (se_fr (se_lst (m := .fr) sa_nil (by decide)) rfl) sa_nil)) (by decide))) (se_var (i := 2) (m := .fr) rfl) rfl) (ss_seq (ss_for (si_rng1 (sa_cons (se_var (i := 0) (m := .fr) rfl) sa_nil)) (sn_name (i := 6) (m := .fr) rfl nio) nx_name (ss_seq (ss_for (si_rng1 (sa_cons (se_var (i := 0) (m := .fr) rfl) sa_nil)) (sn_name (i := 7) (m := .fr) rfl nio) nx_name (ss_if (st_tt (se_op os_notN (se_op os_ix (se_var (i := 5) (m := (.own .fr)) rfl) (se_var (i := 7) (m := .fr) rfl)) se_non)) (ss_seq (ss_set (i := 8) (m := .fr) (sx_of (se_tup (sa_cons (se_op os_ix (se_op os_ix (se_var (i := 5) (m := (.own .fr)) rfl) (se_var (i := 7) (m := .fr) rfl)) se_int) (sa_cons (se_var (i := 6) (m := .fr) rfl) (sa_cons (se_op os_ix (se_op os_ix (se_var (i := 5) (m := (.own .fr)) rfl) (se_var (i := 7) (m := .fr) rfl)) se_int) sa_nil))) (by decide))) (by decide) nio) (ss_if (st_or (st_tt (se_op os_isN (se_op os_ix (se_var (i := 4) (m := (.own .fr)) rfl) (se_var (i := 7) (m := .fr) rfl)) se_non)) (st_tt (se_op os_ordD (se_var (i := 8) (m := .fr) rfl) (se_op os_ix (se_var (i := 4) (m := (.own .fr)) rfl) (se_var (i := 7) (m := .fr) rfl))))) (ss_seti (i := 4) (m := .fr) rfl (sx_of (se_var (i := 8) (m := .fr) rfl)) (se_var (i := 7) (m := .fr) rfl) rfl) ss_nil)) ss_nil)) (ss_seq (ss_set (i := 9) (m := (.own .fr)) (sx_of (se_op os_rep (se_lst (m := .fr) (sa_cons se_non sa_nil) (by decide)) (se_var (i := 0) (m := .fr) rfl))) (by decide) nio) (ss_seq (ss_for (si_seqS (se_fr (se_call (sa_cons (se_var (i := 1) (m := .fr) rfl) (sa_cons (se_var (i := 3) (m := .fr) rfl) sa_nil)) hx0) rfl)) (sn_tup (m := .fr) (is := [10, 11, 12, 13]) (Names.cons (Names.cons (Names.cons (Names.cons Names.nil)))) (by decide) nioL) nx_tup (ss_if (st_tt (se_op os_notN (se_op os_ix (se_var (i := 5) (m := (.own .fr)) rfl) (se_var (i := 10) (m := .fr) rfl)) se_non)) (ss_seq (ss_set (i := 8) (m := .fr) (sx_of (se_tup (sa_cons (se_fr (se_op os_add (se_op os_ix (se_op os_ix (se_var (i := 5) (m := (.own .fr)) rfl) (se_var (i := 10) (m := .fr) rfl)) se_int) (se_var (i := 12) (m := .fr) rfl)) rfl) (sa_cons (se_fr (se_op os_add (se_op os_ix (se_op os_ix (se_var (i := 5) (m := (.own .fr)) rfl) (se_var (i := 10) (m := .fr) rfl)) se_int) (se_fr (se_lst (m := .fr) (sa_cons (se_var (i := 13) (m := .fr) rfl) sa_nil) (by decide)) rfl)) rfl) sa_nil)) (by decide))) (by decide) nio) (ss_if (st_or (st_tt (se_op os_isN (se_op os_ix (se_var (i := 9) (m := (.own .fr)) rfl) (se_var (i := 11) (m := .fr) rfl)) se_non)) (st_tt (se_op os_ordD (se_var (i := 8) (m := .fr) rfl) (se_op os_ix (se_var (i := 9) (m := (.own .fr)) rfl) (se_var (i := 11) (m := .fr) rfl))))) (ss_seti (i := 9) (m := .fr) rfl (sx_of (se_var (i := 8) (m := .fr) rfl)) (se_var (i := 11) (m := .fr) rfl) rfl) ss_nil)) ss_nil)) (ss_set (i := 5) (m := (.own .fr)) (sx_move (i := 9) (m := (.own .fr)) rfl) (by decide) nio))))) (ss_ret (Γ' := [.fr, .fr, .fr, .fr, (.own .fr), (.own .fr), .fr, .fr, .fr, (.own .fr), .fr, .fr, .fr, .fr]) (sx_move (i := 4) (m := (.own .fr)) rfl))))))
theorem ok__law_refused (T : Tp P K mg) : FnOk P w K mg base CX0 9 T.a__law_refused T.fd__law_refused ["_law_way", "_law_network_here", "_law_start", "_law_goal", "_law_arcs"] (spD K mg X0 [.fr, .fr, .fr, .fr, .fr] .fr m__law_refused) := by
  have G_least_prices := ok_least_prices (P := P) (w := w) (base := base) T
  have G_told_path := ok_told_path (P := P) (w := w) (base := base) T
  have G_check_path := ok_check_path (P := P) (w := w) (base := base) T
  refine fnD (N := N__law_refused) (pm := [.fr, .fr, .fr, .fr, .fr]) (Γl := [.fr]) T.F__law_refused sc__law_refused rfl rfl rfl fun cdv A outer s H E hr => ⟨_, (pss_cons (kx_try (K := K) (n := 6) (i := 5) rfl rfl rfl sc__law_refused.nd rfl rfl rfl rfl rfl T.gc_root (fun E1 pn xe hpE pwW => (pss_one (ps_if (pt_cmpR (kx_eq (K := K) rfl hr.units) (pv 0) pe_int (nomark _)) (pss_one (ps_expr (pe_call G_least_prices (hr.mono (by decide)) (by rfl) T.g_least_prices T.F_least_prices.kp T.b_least_prices .nil hpE (pa_cons (pv 1) (pa_cons (pv 2) (pa_cons (pv 4) pa_nil)))))) (pss_one (ps_if (pt_cmpR (kx_eq (K := K) rfl hr.units) (pv 0) pe_int (nomark _)) (pss_one (ps_expr (pe_call G_told_path (hr.mono (by decide)) (by rfl) T.g_told_path T.F_told_path.kp T.b_told_path .nil hpE (pa_cons (pv 1) (pa_cons (pv 2) (pa_cons (pv 3) (pa_cons (pv 4) pa_nil))))))) (pss_one (ps_expr (pe_call G_check_path (hr.mono (by decide)) (by rfl) T.g_check_path T.F_check_path.kp T.b_check_path .nil hpE (pa_cons (pv 1) (pa_cons (pv 2) (pa_cons (pv 3) (pa_cons (pe_lst pa_nil) (pa_cons (pe_lst pa_nil) (pa_cons (pv 4) pa_nil)))))))))))))) (fun a oe cls d pn hz hf => (pss_one (ps_ret (pe_tup (pa_cons (pe_callB (call_isX (D := T.xi.D) (fI := T.xi.fI) hz hf) (by rfl) T.z_isinstance (by decide +kernel) (pa_cons (pv 5) (pa_cons (pe_glob (v := .ref T.c_BadVertex) rfl T.gc_BadVertex rfl) pa_nil))) (pa_cons (pe_atX (D := T.xi.D) (fI := T.xi.fI) hz hf (pv 5)) pa_nil))))))) (pss_one (ps_ret pe_non))), fun Bp F0 => ⟨[.fr, .fr, .fr, .fr, .fr, .fr], ?_⟩⟩
  unfold b__law_refused
  exact (ss_seq (ss_try (ecs := ecsX) (n := 6) (i := 5) (Γh := [.fr, .fr, .fr, .fr, .fr, .fr]) (fun E => (ss_if (st_tt (se_op os_eq (se_var (i := 0) (m := .fr) rfl) se_int)) (ss_expr (sx_of (se_call (sa_cons (se_var (i := 1) (m := .fr) rfl) (sa_cons (se_var (i := 2) (m := .fr) rfl) (sa_cons (se_var (i := 4) (m := .fr) rfl) sa_nil))) hxI))) (ss_if (st_tt (se_op os_eq (se_var (i := 0) (m := .fr) rfl) se_int)) (ss_expr (sx_of (se_call (sa_cons (se_var (i := 1) (m := .fr) rfl) (sa_cons (se_var (i := 2) (m := .fr) rfl) (sa_cons (se_var (i := 3) (m := .fr) rfl) (sa_cons (se_var (i := 4) (m := .fr) rfl) sa_nil)))) hxI))) (ss_expr (sx_of (se_call (sa_cons (se_var (i := 1) (m := .fr) rfl) (sa_cons (se_var (i := 2) (m := .fr) rfl) (sa_cons (se_var (i := 3) (m := .fr) rfl) (sa_cons (se_lst (m := .fr) sa_nil (by decide)) (sa_cons (se_lst (m := .fr) sa_nil (by decide)) (sa_cons (se_var (i := 4) (m := .fr) rfl) sa_nil)))))) hxI)))))) (fun c hc Ca hm => T.exm c hc Ca hm) (fun F0 c d v a Ca dd hc hm hv hK => ⟨_, (ss_ret (Γ' := [.fr, .fr, .fr, .fr, .fr, .fr]) (sx_of (se_tup (sa_cons (se_isX (m := .fr) (i := 5) (Xa := T.c_BadVertex) (T.ex c hc Ca hm) List.mem_cons_self hK (T.is c hc Ca hm "BadVertex" (nth_mem 1 rfl) _ T.gc_BadVertex)) (sa_cons (se_at (m := .fr) (i := 5) (T.ex c hc Ca hm) List.mem_cons_self hK hv) sa_nil)) (by decide))))⟩) rfl rfl rfl) (ss_ret (Γ' := [.fr, .fr, .fr, .fr, .fr, .fr]) (sx_of se_non)))
theorem ok__law_start_right (T : Tp P K mg) : FnOk P w K mg base CX0 9 T.a__law_start_right T.fd__law_start_right ["_law_network_here", "_law_size", "_law_edges", "_law_start", "_law_arcs"] (spD K mg X0 [.fr, .fr, .fr, .fr, .fr] .fr m__law_start_right) := by
  have G__law_labels := ok__law_labels (P := P) (w := w) (base := base) T
  have G_least_prices := ok_least_prices (P := P) (w := w) (base := base) T
  have G_told_path := ok_told_path (P := P) (w := w) (base := base) T
  have G_check_path := ok_check_path (P := P) (w := w) (base := base) T
  refine fnD (N := N__law_start_right) (pm := [.fr, .fr, .fr, .fr, .fr]) (Γl := [.fr, (.own .fr), .fr, (.own .fr), .fr, (.own .fr)]) T.F__law_start_right sc__law_start_right rfl rfl rfl fun cdv A outer s H E hr => ⟨_, (pss_cons (ps_set (i := 5) sc__law_start_right.nd rfl (by first | exact Or.inl rfl | exact Or.inr rfl) (pe_call G__law_labels (hr.mono (by decide)) (by rfl) T.g__law_labels T.F__law_labels.kp T.b__law_labels .nil pass0 (pa_cons (pv 1) (pa_cons (pv 2) (pa_cons (pv 3) (pa_cons (pv 4) pa_nil)))))) (pss_cons (ps_set (i := 6) sc__law_start_right.nd rfl (by first | exact Or.inl rfl | exact Or.inr rfl) (pe_op op_rep (pe_lst (pa_cons pe_non pa_nil)) (pv 1))) (pss_cons (ps_for PassesOwn.never rfl (pi_range1 rfl T.z_range (pa_cons (pv 1) pa_nil)) (pg_name (i := 7) sc__law_start_right.nd rfl (by first | exact Or.inl rfl | exact Or.inr rfl)) (pss_one (ps_if (pt_cmpR op_notN (pe_ix (kx_ix (K := K) rfl) (pv 5) (pv 7) (fun _ _ => rfl)) pe_non (nomark _)) (pss_one (ps_asg (pe_ix (kx_ix (K := K) rfl) (pe_ix (kx_ix (K := K) rfl) (pv 5) (pv 7) (fun _ _ => rfl)) pe_int (fun _ _ => rfl)) (pg_sub (pv 6) (pv 7) set_list))) pss_nil))) (pss_cons (ps_set (i := 8) sc__law_start_right.nd rfl (by first | exact Or.inl rfl | exact Or.inr rfl) (pe_call G_least_prices (hr.mono (by decide)) (by rfl) T.g_least_prices T.F_least_prices.kp T.b_least_prices .nil passN (pa_cons (pv 0) (pa_cons (pv 3) (pa_cons (pv 4) pa_nil))))) (pss_cons (ps_if (pt_cmpR (kx_ne (K := K) rfl hr.units) (pv 8) (pv 6) (nomark _)) (pss_one (ps_ret pe_bl)) pss_nil) (pss_cons (ps_for PassesOwn.never rfl (pi_range1 rfl T.z_range (pa_cons (pv 1) pa_nil)) (pg_name (i := 9) sc__law_start_right.nd rfl (by first | exact Or.inl rfl | exact Or.inr rfl)) (pss_cons (ps_set (i := 10) sc__law_start_right.nd rfl (by first | exact Or.inl rfl | exact Or.inr rfl) (pe_call G_told_path (hr.mono (by decide)) (by rfl) T.g_told_path T.F_told_path.kp T.b_told_path .nil passN (pa_cons (pv 0) (pa_cons (pv 3) (pa_cons (pv 9) (pa_cons (pv 4) pa_nil)))))) (pss_cons (ps_if (pt_cmpR op_isN (pe_ix (kx_ix (K := K) rfl) (pv 5) (pv 9) (fun _ _ => rfl)) pe_non (nomark _)) (pss_one (ps_if (pt_cmpR op_notN (pv 10) pe_non (nomark _)) (pss_one (ps_ret pe_bl)) pss_nil)) (pss_one (ps_if (PW.pt (pw_or (pt_cmpR (kx_ne (K := K) rfl hr.units) (pv 10) (pe_ix (kx_ix (K := K) rfl) (pe_ix (kx_ix (K := K) rfl) (pv 5) (pv 9) (fun _ _ => rfl)) pe_int (fun _ _ => rfl)) (nomark _)) (pw_or1 (pt_cmpR op_notB (pe_call G_check_path (hr.mono (by decide)) (by rfl) T.g_check_path T.F_check_path.kp T.b_check_path .nil passN (pa_cons (pv 0) (pa_cons (pv 3) (pa_cons (pv 9) (pa_cons (pv 10) (pa_cons (pv 8) (pa_cons (pv 4) pa_nil))))))) pe_bl (nomark _))))) (pss_one (ps_ret pe_bl)) pss_nil))) (pss_one (ps_if (pt_cmpR op_notN (pv 10) pe_non (nomark _)) (pss_one (ps_expr (pe_bm PySem.F.plainAttrs_list PySem.F.slot_list_append PySem.F.type_list_append mt_append (pv 10) (pa_cons pe_int pa_nil)))) pss_nil))))) (pss_cons (ps_expr (pe_bm PySem.F.plainAttrs_list PySem.F.slot_list_append PySem.F.type_list_append mt_append (pv 8) (pa_cons pe_int pa_nil))) (pss_one (ps_ret (pe_cmpR (kx_eq (K := K) rfl hr.units) (pe_call G_least_prices (hr.mono (by decide)) (by rfl) T.g_least_prices T.F_least_prices.kp T.b_least_prices .nil passN (pa_cons (pv 0) (pa_cons (pv 3) (pa_cons (pv 4) pa_nil)))) (pv 6) (nomark _))))))))))), fun Bp F0 => ⟨[.fr, .fr, .fr, .fr, .fr, .fr, (.own .fr), .fr, (.own .fr), .fr, (.own .fr)], ?_⟩⟩
  unfold b__law_start_right
  exact (ss_seq (ss_set (i := 5) (m := .fr) (sx_of (se_fr (se_call (sa_cons (se_var (i := 1) (m := .fr) rfl) (sa_cons (se_var (i := 2) (m := .fr) rfl) (sa_cons (se_var (i := 3) (m := .fr) rfl) (sa_cons (se_var (i := 4) (m := .fr) rfl) sa_nil)))) hx0) rfl)) (by decide) nio) (ss_seq (ss_set (i := 6) (m := (.own .fr)) (sx_of (se_op os_rep (se_lst (m := .fr) (sa_cons se_non sa_nil) (by decide)) (se_var (i := 1) (m := .fr) rfl))) (by decide) nio) (ss_seq (ss_for (si_rng1 (sa_cons (se_var (i := 1) (m := .fr) rfl) sa_nil)) (sn_name (i := 7) (m := .fr) rfl nio) nx_name (ss_if (st_tt (se_op os_notN (se_op os_ix (se_var (i := 5) (m := .fr) rfl) (se_var (i := 7) (m := .fr) rfl)) se_non)) (ss_seti (i := 6) (m := .fr) rfl (sx_of (se_op os_ix (se_op os_ix (se_var (i := 5) (m := .fr) rfl) (se_var (i := 7) (m := .fr) rfl)) se_int)) (se_var (i := 7) (m := .fr) rfl) rfl) ss_nil)) (ss_seq (ss_set (i := 8) (m := (.own .fr)) (sx_of (se_call (sa_cons (se_var (i := 0) (m := .fr) rfl) (sa_cons (se_var (i := 3) (m := .fr) rfl) (sa_cons (se_var (i := 4) (m := .fr) rfl) sa_nil))) hxN)) (by decide) nio) (ss_seq (ss_if (st_tt (se_op os_ne (se_var (i := 8) (m := (.own .fr)) rfl) (se_var (i := 6) (m := (.own .fr)) rfl))) (ss_ret (Γ' := [.fr, .fr, .fr, .fr, .fr, .fr, (.own .fr), .fr, (.own .fr), .fr, (.own .fr)]) (sx_of se_bl)) ss_nil) (ss_seq (ss_for (si_rng1 (sa_cons (se_var (i := 1) (m := .fr) rfl) sa_nil)) (sn_name (i := 9) (m := .fr) rfl nio) nx_name (ss_seq (ss_set (i := 10) (m := (.own .fr)) (sx_of (se_call (sa_cons (se_var (i := 0) (m := .fr) rfl) (sa_cons (se_var (i := 3) (m := .fr) rfl) (sa_cons (se_var (i := 9) (m := .fr) rfl) (sa_cons (se_var (i := 4) (m := .fr) rfl) sa_nil)))) hxN)) (by decide) nio) (ss_seq (ss_if (st_tt (se_op os_isN (se_op os_ix (se_var (i := 5) (m := .fr) rfl) (se_var (i := 9) (m := .fr) rfl)) se_non)) (ss_if (st_tt (se_op os_notN (se_var (i := 10) (m := (.own .fr)) rfl) se_non)) (ss_ret (Γ' := [.fr, .fr, .fr, .fr, .fr, .fr, (.own .fr), .fr, (.own .fr), .fr, (.own .fr)]) (sx_of se_bl)) ss_nil) (ss_if (st_or (st_tt (se_op os_ne (se_var (i := 10) (m := (.own .fr)) rfl) (se_op os_ix (se_op os_ix (se_var (i := 5) (m := .fr) rfl) (se_var (i := 9) (m := .fr) rfl)) se_int))) (st_tt (se_op os_notB (se_call (sa_cons (se_var (i := 0) (m := .fr) rfl) (sa_cons (se_var (i := 3) (m := .fr) rfl) (sa_cons (se_var (i := 9) (m := .fr) rfl) (sa_cons (se_var (i := 10) (m := (.own .fr)) rfl) (sa_cons (se_var (i := 8) (m := (.own .fr)) rfl) (sa_cons (se_var (i := 4) (m := .fr) rfl) sa_nil)))))) hxN) se_bl))) (ss_ret (Γ' := [.fr, .fr, .fr, .fr, .fr, .fr, (.own .fr), .fr, (.own .fr), .fr, (.own .fr)]) (sx_of se_bl)) ss_nil)) (ss_if (st_tt (se_op os_notN (se_var (i := 10) (m := (.own .fr)) rfl) se_non)) (ss_expr (sx_app (i := 10) (m := .fr) rfl (sx_of se_int) rfl)) ss_nil)))) (ss_seq (ss_expr (sx_app (i := 8) (m := .fr) rfl (sx_of se_int) rfl)) (ss_ret (Γ' := [.fr, .fr, .fr, .fr, .fr, .fr, (.own .fr), .fr, (.own .fr), .fr, (.own .fr)]) (sx_of (se_op os_eq (se_fr (se_call (sa_cons (se_var (i := 0) (m := .fr) rfl) (sa_cons (se_var (i := 3) (m := .fr) rfl) (sa_cons (se_var (i := 4) (m := .fr) rfl) sa_nil))) hxN) rfl) (se_var (i := 6) (m := (.own .fr)) rfl)))))))))))
theorem ok__law_components (T : Tp P K mg) : FnOk P w K mg base CX0 1 T.a__law_components T.fd__law_components ["_law_table"] (spD K mg X0 [.bo] (.own .fr) m__law_components) := by
  refine fnD (N := N__law_components) (pm := [.bo]) (Γl := [(.own .fr), .fr, .fr, .fr]) T.F__law_components sc__law_components rfl rfl rfl fun cdv A outer s H E hr => ⟨_, (pss_cons (ps_set (i := 1) sc__law_components.nd rfl (by first | exact Or.inl rfl | exact Or.inr rfl) (pe_lst pa_nil)) (pss_cons (ps_for PassesOwn.never rfl (pi_range1 rfl T.z_range (pa_cons (pe_callB (kx_len (K := K) rfl) (by rfl) T.z_len (by decide +kernel) (pa_cons (pv 0) pa_nil)) pa_nil)) (pg_name (i := 2) sc__law_components.nd rfl (by first | exact Or.inl rfl | exact Or.inr rfl)) (pss_cons (ps_setLc (i := 3) (own := [("_law_other", 4)]) (g := (L2.gName 4)) rfl sc__law_components.nd rfl rfl (sw_true rfl rfl rfl (by decide +kernel)) (pi_range1 rfl T.z_range (pa_cons (pe_callB (kx_len (K := K) rfl) (by rfl) T.z_len (by decide +kernel) (pa_cons (pv 0) pa_nil)) pa_nil)) (blkOk_by (own := [("_law_other", 4)]) (N := N__law_components) (sc := defScope s__law_components) (by decide +kernel)) (fun _ _ _ _ _ => (pg_name (i := 4) sc__law_components.nd rfl (by first | exact Or.inl rfl | exact Or.inr rfl))) (fun _ _ _ _ _ => pts_one (pt_cmpR op_notN (pe_ix (kx_ix (K := K) rfl) (pe_ix (kx_ix (K := K) rfl) (pv 0) (pv 2) (fun _ _ => rfl)) (pv 4) (fun _ _ => rfl)) pe_non (nomark _))) (fun _ _ _ _ _ => (pv 4))) (pss_one (ps_if (pt_cmpR (kx_notIn (K := K) rfl hr.units65) (pv 3) (pv 1) (by rfl)) (pss_one (ps_expr (pe_bm PySem.F.plainAttrs_list PySem.F.slot_list_append PySem.F.type_list_append mt_append (pv 1) (pa_cons (pv 3) pa_nil)))) pss_nil)))) (pss_one (ps_ret (pv 1))))), fun Bp F0 => ⟨[.bo, (.own .fr), .fr, .fr, .fr], ?_⟩⟩
  unfold b__law_components
  exact (ss_seq (ss_set (i := 1) (m := (.own .fr)) (sx_of (se_lst (m := .fr) sa_nil (by decide))) (by decide) nio) (ss_seq (ss_for (si_rng1 (sa_cons (se_cb cs_len (sa_cons (se_var (i := 0) (m := .bo) rfl) sa_nil)) sa_nil)) (sn_name (i := 2) (m := .fr) rfl nio) nx_name (ss_seq (ss_set (i := 3) (sx_of (se_fr (se_lc (vs := [4]) (si_rng1 (sa_cons (se_cb cs_len (sa_cons (se_var (i := 0) (m := .bo) rfl) sa_nil)) sa_nil)) (sn_name (i := 4) (m := .fr) rfl nio) (keeps_name (by decide)) nx_name (by decide) (st_tt (se_op os_notN (se_op os_ix (se_op os_ix (se_var (i := 0) (m := .bo) rfl) (se_var (i := 2) (m := .fr) rfl)) (se_var (i := 4) (m := .fr) rfl)) se_non)) (se_var (i := 4) (m := .fr) rfl) rfl rfl nioL) rfl)) (by decide) nio) (ss_if (st_tt (se_op os_notIn (se_var (i := 3) (m := .fr) rfl) (se_var (i := 1) (m := (.own .fr)) rfl))) (ss_expr (sx_app (i := 1) (m := .fr) rfl (sx_of (se_var (i := 3) (m := .fr) rfl)) rfl)) ss_nil))) (ss_ret (Γ' := [.bo, (.own .fr), .fr, .fr, .fr]) (sx_move (i := 1) (m := (.own .fr)) rfl))))
theorem ok_Network___init__ (T : Tp P K mg) : FnOk P w K mg base CX0 2 T.a_Network___init__ T.fd_Network___init__ ["self", "size", "edges"] (spN K mg X0 "Network" [.fr, .fr] m_Network___init__) := by
  have G_check_edge := ok_check_edge (P := P) (w := w) (base := base) T
  refine fnN0 (N := N_Network___init__) (pm := [.fr, .fr]) (Γl := [.fr]) T.F_Network___init__ sc_Network___init__ rfl rfl fun cdv A outer s H E hr => ⟨_, (pss_cons (ps_if (pt_not (pt_chain op_le op_le pe_int (pv 1) (pe_glob (v := (.int 40)) rfl T.k_MOST_VERTICES.choose_spec ⟨_, rfl⟩))) (pss_one ps_never) pss_nil) (pss_cons (ps_if (pt_cmpR op_gt (pe_callB (kx_len (K := K) rfl) (by rfl) T.z_len (by decide +kernel) (pa_cons (pv 2) pa_nil)) (pe_glob (v := (.int 200)) rfl T.k_MOST_EDGES.choose_spec ⟨_, rfl⟩) (nomark _)) (pss_one ps_never) pss_nil) (pss_cons (ps_for PassesOwn.never rfl (pi_range1 rfl T.z_range (pa_cons (pe_callB (kx_len (K := K) rfl) (by rfl) T.z_len (by decide +kernel) (pa_cons (pv 2) pa_nil)) pa_nil)) (pg_name (i := 3) sc_Network___init__.nd rfl (by first | exact Or.inl rfl | exact Or.inr rfl)) (pss_one (ps_expr (pe_call G_check_edge (hr.mono (by decide)) (by rfl) T.g_check_edge T.F_check_edge.kp T.b_check_edge .nil pass0 (pa_cons (pv 1) (pa_cons (pe_ix (kx_ix (K := K) rfl) (pv 2) (pv 3) (fun _ _ => rfl)) (pa_cons (pv 3) pa_nil))))))) (pss_cons (ps_fld (pv 0) (pv 1) rfl) (pss_one (ps_fld (pv 0) (pe_callTy (kx_list (K := K) rfl) (by rfl) T.z_list (by decide +kernel) (pa_cons (pv 2) pa_nil)) rfl)))))), fun Bp F0 a => ⟨[(.ob .fr), .fr, .fr, .fr], ?_⟩⟩
  unfold b_Network___init__
  exact (ss_seq (ss_if (st_not (st_tt (se_chain os_le os_le se_int (se_var (i := 1) (m := .fr) rfl) (se_const (m := .fr) rfl rfl)))) (ss_never (Γ' := [(.ob .fr), .fr, .fr, .fr])) ss_nil) (ss_seq (ss_if (st_tt (se_op os_gt (se_cb cs_len (sa_cons (se_var (i := 2) (m := .fr) rfl) sa_nil)) (se_const (m := .fr) rfl rfl))) (ss_never (Γ' := [(.ob .fr), .fr, .fr, .fr])) ss_nil) (ss_seq (ss_for (si_rng1 (sa_cons (se_cb cs_len (sa_cons (se_var (i := 2) (m := .fr) rfl) sa_nil)) sa_nil)) (sn_name (i := 3) (m := .fr) rfl (nio1 (by decide))) nx_name (ss_expr (sx_of (se_call (sa_cons (se_var (i := 1) (m := .fr) rfl) (sa_cons (se_op os_ix (se_var (i := 2) (m := .fr) rfl) (se_var (i := 3) (m := .fr) rfl)) (sa_cons (se_var (i := 3) (m := .fr) rfl) sa_nil))) hx0)))) (ss_seq (ss_setF (i := 0) (c := "Network") (f := "_size") rfl (sx_of (se_var (i := 1) (m := .fr) rfl)) T.g_Network T.cl_Network T.na_Network__size) (ss_setF (i := 0) (c := "Network") (f := "_edges") rfl (sx_of (se_fr (se_cb cs_list (sa_cons (se_var (i := 2) (m := .fr) rfl) sa_nil)) rfl)) T.g_Network T.cl_Network T.na_Network__edges)))))
theorem ok_law (T : Tp P K mg) : FnOk P w K mg base CX0 10 T.a_law T.fd_law ["_law_script"] (spD K mg X0 [.sc] .fr m_law) := by
  have G__law_draws := ok__law_draws (P := P) (w := w) (base := base) T
  have G__law_mix := ok__law_mix (P := P) (w := w) (base := base) T
  have G__law_network := ok__law_network (P := P) (w := w) (base := base) T
  have G_Network___init__ := ok_Network___init__ (P := P) (w := w) (base := base) T
  have G__law_start_right := ok__law_start_right (P := P) (w := w) (base := base) T
  have G__law_labels := ok__law_labels (P := P) (w := w) (base := base) T
  have G_distances := ok_distances (P := P) (w := w) (base := base) T
  have G_components := ok_components (P := P) (w := w) (base := base) T
  have G__law_components := ok__law_components (P := P) (w := w) (base := base) T
  have G__law_refused := ok__law_refused (P := P) (w := w) (base := base) T
  have G_Network_edges := ok_Network_edges (P := P) (w := w) (base := base) T
  refine fnD (N := N_law) (pm := [.sc]) (Γl := [.fr, .fr, .fr, .fr, .fr, .fr, .fr, .fr, (.own .fr), (.own .fr), .fr, .fr, .fr, .fr, .fr]) T.F_law sc_law rfl rfl rfl fun cdv A outer s H E hr => ⟨_, (pss_cons (ps_set (i := 1) sc_law.nd rfl (by first | exact Or.inl rfl | exact Or.inr rfl) (pe_call G__law_draws (hr.mono (by decide)) (by rfl) T.g__law_draws T.F__law_draws.kp T.b__law_draws .nil pass0 (pa_cons (pv 0) pa_nil))) (pss_cons (ps_set (i := 2) sc_law.nd rfl (by first | exact Or.inl rfl | exact Or.inr rfl) (pe_cmpR (kx_eq (K := K) rfl hr.units) (pe_call G__law_mix (hr.mono (by decide)) (by rfl) T.g__law_mix T.F__law_mix.kp T.b__law_mix .nil pass0 (pa_cons (pv 1) (pa_cons pe_int (pa_cons pe_int pa_nil)))) pe_int (nomark _))) (pss_cons (ps_set (i := 3) sc_law.nd rfl (by first | exact Or.inl rfl | exact Or.inr rfl) (pe_ix (kx_ix (K := K) rfl) (pe_lst (pa_cons pe_int (pa_cons pe_int (pa_cons pe_int (pa_cons pe_int pa_nil))))) (pe_call G__law_mix (hr.mono (by decide)) (by rfl) T.g__law_mix T.F__law_mix.kp T.b__law_mix .nil pass0 (pa_cons (pv 1) (pa_cons pe_int (pa_cons pe_int pa_nil)))) (fun _ _ => rfl))) (pss_cons (ps_asg (pe_call G__law_network (hr.mono (by decide)) (by rfl) T.g__law_network T.F__law_network.kp T.b__law_network .nil pass0 (pa_cons (pv 1) (pa_cons pe_int (pa_cons (pe_ix (kx_ix (K := K) rfl) (pe_lst (pa_cons pe_int (pa_cons pe_int pa_nil))) (pe_callTy call_int1 (by rfl) T.z_int (by decide +kernel) (pa_cons (pv 2) pa_nil)) (fun _ _ => rfl)) (pa_cons (pe_ix (kx_ix (K := K) rfl) (pe_lst (pa_cons pe_int (pa_cons pe_int pa_nil))) (pe_callTy call_int1 (by rfl) T.z_int (by decide +kernel) (pa_cons (pv 2) pa_nil)) (fun _ _ => rfl)) (pa_cons (pv 3) pa_nil)))))) (pg_tup rfl (pgs_cons (pg_name (i := 4) sc_law.nd rfl (by first | exact Or.inl rfl | exact Or.inr rfl)) (pgs_cons (pg_name (i := 5) sc_law.nd rfl (by first | exact Or.inl rfl | exact Or.inr rfl)) pgs_nil)))) (pss_cons (ps_set (i := 6) sc_law.nd rfl (by first | exact Or.inl rfl | exact Or.inr rfl) (pe_make T.mk_Network G_Network___init__ (hr.mono (by decide)) (by rfl) T.g_Network T.b_Network___init__ .nil pass0 (pa_cons (pv 4) (pa_cons (pv 5) pa_nil)))) (pss_cons (ps_for PassesOwn.never rfl (kx_seq (K := K) rfl (pe_lst (pa_cons pe_bl (pa_cons pe_bl pa_nil)))) (pg_name (i := 7) sc_law.nd rfl (by first | exact Or.inl rfl | exact Or.inr rfl)) (pss_one (ps_for PassesOwn.never rfl (pi_range1 rfl T.z_range (pa_cons (pv 4) pa_nil)) (pg_name (i := 8) sc_law.nd rfl (by first | exact Or.inl rfl | exact Or.inr rfl)) (pss_one (ps_if (PW.pt (pw_or (pt_not (kx_tru (K := K) rfl (pv 2) (by intro _; rfl))) (pw_or1 (pt_cmpR (kx_eq (K := K) rfl hr.units) (pe_op op_modX (pe_callTy call_int1 (by rfl) T.z_int (by decide +kernel) (pa_cons (pe_op op_addX (pv 8) (pe_call G__law_mix (hr.mono (by decide)) (by rfl) T.g__law_mix T.F__law_mix.kp T.b__law_mix .nil pass0 (pa_cons (pv 1) (pa_cons pe_int (pa_cons pe_int pa_nil))))) pa_nil)) pe_int) pe_int (nomark _))))) (pss_one (ps_if (pt_not (pt_val (pe_call G__law_start_right (hr.mono (by decide)) (by rfl) T.g__law_start_right T.F__law_start_right.kp T.b__law_start_right .nil pass0 (pa_cons (pv 6) (pa_cons (pv 4) (pa_cons (pv 5) (pa_cons (pv 8) (pa_cons (pv 7) pa_nil)))))))) (pss_one (ps_ret pe_bl)) pss_nil)) pss_nil))))) (pss_cons (ps_set (i := 9) sc_law.nd rfl (by first | exact Or.inl rfl | exact Or.inr rfl) (pe_lst pa_nil)) (pss_cons (ps_for PassesOwn.never rfl (pi_range1 rfl T.z_range (pa_cons (pv 4) pa_nil)) (pg_name (i := 8) sc_law.nd rfl (by first | exact Or.inl rfl | exact Or.inr rfl)) (pss_cons (ps_set (i := 10) sc_law.nd rfl (by first | exact Or.inl rfl | exact Or.inr rfl) (pe_op op_rep (pe_lst (pa_cons pe_non pa_nil)) (pv 4))) (pss_cons (ps_set (i := 11) sc_law.nd rfl (by first | exact Or.inl rfl | exact Or.inr rfl) (pe_call G__law_labels (hr.mono (by decide)) (by rfl) T.g__law_labels T.F__law_labels.kp T.b__law_labels .nil pass0 (pa_cons (pv 4) (pa_cons (pv 5) (pa_cons (pv 8) (pa_cons pe_bl pa_nil)))))) (pss_cons (ps_for PassesOwn.never rfl (pi_range1 rfl T.z_range (pa_cons (pv 4) pa_nil)) (pg_name (i := 12) sc_law.nd rfl (by first | exact Or.inl rfl | exact Or.inr rfl)) (pss_one (ps_if (pt_cmpR op_notN (pe_ix (kx_ix (K := K) rfl) (pv 11) (pv 12) (fun _ _ => rfl)) pe_non (nomark _)) (pss_one (ps_asg (pe_ix (kx_ix (K := K) rfl) (pe_ix (kx_ix (K := K) rfl) (pv 11) (pv 12) (fun _ _ => rfl)) pe_int (fun _ _ => rfl)) (pg_sub (pv 10) (pv 12) set_list))) pss_nil))) (pss_one (ps_expr (pe_bm PySem.F.plainAttrs_list PySem.F.slot_list_append PySem.F.type_list_append mt_append (pv 9) (pa_cons (pv 10) pa_nil)))))))) (pss_cons (ps_if (PW.pt (pw_or (pt_cmpR (kx_ne (K := K) rfl hr.units) (pe_call G_distances (hr.mono (by decide)) (by rfl) T.g_distances T.F_distances.kp T.b_distances .nil pass0 (pa_cons (pv 6) pa_nil)) (pv 9) (nomark _)) (pw_or1 (pt_cmpR (kx_ne (K := K) rfl hr.units) (pe_call G_components (hr.mono (by decide)) (by rfl) T.g_components T.F_components.kp T.b_components .nil pass0 (pa_cons (pv 6) pa_nil)) (pe_call G__law_components (hr.mono (by decide)) (by rfl) T.g__law_components T.F__law_components.kp T.b__law_components .nil pass0 (pa_cons (pv 9) pa_nil)) (nomark _))))) (pss_one (ps_ret pe_bl)) pss_nil) (pss_cons (ps_set (i := 13) sc_law.nd rfl (by first | exact Or.inl rfl | exact Or.inr rfl) (pe_op op_sub (pe_un un_neg pe_int) (pe_call G__law_mix (hr.mono (by decide)) (by rfl) T.g__law_mix T.F__law_mix.kp T.b__law_mix .nil pass0 (pa_cons (pv 1) (pa_cons pe_int (pa_cons pe_int pa_nil)))))) (pss_cons (ps_set (i := 14) sc_law.nd rfl (by first | exact Or.inl rfl | exact Or.inr rfl) (pe_op op_addX (pv 4) (pe_call G__law_mix (hr.mono (by decide)) (by rfl) T.g__law_mix T.F__law_mix.kp T.b__law_mix .nil pass0 (pa_cons (pv 1) (pa_cons pe_int (pa_cons pe_int pa_nil)))))) (pss_cons (ps_for PassesOwn.never rfl (pi_range1 rfl T.z_range (pa_cons pe_int pa_nil)) (pg_name (i := 15) sc_law.nd rfl (by first | exact Or.inl rfl | exact Or.inr rfl)) (pss_cons (ps_if (pt_cmpR (kx_ne (K := K) rfl hr.units) (pe_call G__law_refused (hr.mono (by decide)) (by rfl) T.g__law_refused T.F__law_refused.kp T.b__law_refused .nil pass0 (pa_cons (pv 15) (pa_cons (pv 6) (pa_cons (pv 13) (pa_cons (pv 14) (pa_cons pe_bl pa_nil)))))) (pe_tup (pa_cons pe_bl (pa_cons (pv 13) pa_nil))) (nomark _)) (pss_one (ps_ret pe_bl)) pss_nil) (pss_one (ps_if (PW.pt (pw_and (pt_cmpR op_gt (pv 15) pe_int (nomark _)) (pw_and1 (pt_cmpR (kx_ne (K := K) rfl hr.units) (pe_call G__law_refused (hr.mono (by decide)) (by rfl) T.g__law_refused T.F__law_refused.kp T.b__law_refused .nil pass0 (pa_cons (pv 15) (pa_cons (pv 6) (pa_cons pe_int (pa_cons (pv 14) (pa_cons pe_bl pa_nil)))))) (pe_tup (pa_cons pe_bl (pa_cons (pv 14) pa_nil))) (nomark _))))) (pss_one (ps_ret pe_bl)) pss_nil)))) (pss_one (ps_ret (pe_cmpR (kx_eq (K := K) rfl hr.units) (pe_meth0 (pv 6) T.cl_Network T.me_Network_edges G_Network_edges (hr.mono (by decide)) T.b_Network_edges .nil pass0) (pv 5) (nomark _)))))))))))))))), fun Bp F0 => ⟨[.sc, .fr, .fr, .fr, .fr, .fr, .fr, .fr, .fr, (.own .fr), (.own .fr), .fr, .fr, .fr, .fr, .fr], ?_⟩⟩
  unfold b_law
  exact (ss_seq (ss_set (i := 1) (m := .fr) (sx_of (se_fr (se_call (sa_cons (se_var (i := 0) (m := .sc) rfl) sa_nil) hx0) rfl)) (by decide) nio) (ss_seq (ss_set (i := 2) (m := .fr) (sx_of (se_op os_eq (se_call (sa_cons (se_var (i := 1) (m := .fr) rfl) (sa_cons se_int (sa_cons se_int sa_nil))) hx0) se_int)) (by decide) nio) (ss_seq (ss_set (i := 3) (m := .fr) (sx_of (se_op os_ix (se_fr (se_lst (m := .fr) (sa_cons se_int (sa_cons se_int (sa_cons se_int (sa_cons se_int sa_nil)))) (by decide)) rfl) (se_call (sa_cons (se_var (i := 1) (m := .fr) rfl) (sa_cons se_int (sa_cons se_int sa_nil))) hx0))) (by decide) nio) (ss_seq (ss_asg (sx_of (se_call (sa_cons (se_var (i := 1) (m := .fr) rfl) (sa_cons se_int (sa_cons (se_op os_ix (se_fr (se_lst (m := .fr) (sa_cons se_int (sa_cons se_int sa_nil)) (by decide)) rfl) (se_cb cs_int (sa_cons (se_var (i := 2) (m := .fr) rfl) sa_nil))) (sa_cons (se_op os_ix (se_fr (se_lst (m := .fr) (sa_cons se_int (sa_cons se_int sa_nil)) (by decide)) rfl) (se_cb cs_int (sa_cons (se_var (i := 2) (m := .fr) rfl) sa_nil))) (sa_cons (se_var (i := 3) (m := .fr) rfl) sa_nil))))) hx0)) (sn_tup (m := .fr) (is := [4, 5]) (Names.cons (Names.cons Names.nil)) (by decide) nioL) nx_tup) (ss_seq (ss_set (i := 6) (m := .fr) (sx_of (se_make (c := "Network") (sa_cons (se_var (i := 4) (m := .fr) rfl) (sa_cons (se_var (i := 5) (m := .fr) rfl) sa_nil)) T.g_Network hx0)) (by decide) nio) (ss_seq (ss_for (si_seqS (se_fr (se_lst (m := .fr) (sa_cons se_bl (sa_cons se_bl sa_nil)) (by decide)) rfl)) (sn_name (i := 7) (m := .fr) rfl nio) nx_name (ss_for (si_rng1 (sa_cons (se_var (i := 4) (m := .fr) rfl) sa_nil)) (sn_name (i := 8) (m := .fr) rfl nio) nx_name (ss_if (st_or (st_not (st_tru (se_var (i := 2) (m := .fr) rfl))) (st_tt (se_op os_eq (se_op os_mod (se_cb cs_int (sa_cons (se_fr (se_op os_add (se_var (i := 8) (m := .fr) rfl) (se_call (sa_cons (se_var (i := 1) (m := .fr) rfl) (sa_cons se_int (sa_cons se_int sa_nil))) hx0)) rfl) sa_nil)) se_int) se_int))) (ss_if (st_not (st_b (se_call (sa_cons (se_var (i := 6) (m := .fr) rfl) (sa_cons (se_var (i := 4) (m := .fr) rfl) (sa_cons (se_var (i := 5) (m := .fr) rfl) (sa_cons (se_var (i := 8) (m := .fr) rfl) (sa_cons (se_var (i := 7) (m := .fr) rfl) sa_nil))))) hx0))) (ss_ret (Γ' := [.sc, .fr, .fr, .fr, .fr, .fr, .fr, .fr, .fr, (.own .fr), (.own .fr), .fr, .fr, .fr, .fr, .fr]) (sx_of se_bl)) ss_nil) ss_nil))) (ss_seq (ss_set (i := 9) (m := (.own .fr)) (sx_of (se_lst (m := .fr) sa_nil (by decide))) (by decide) nio) (ss_seq (ss_for (si_rng1 (sa_cons (se_var (i := 4) (m := .fr) rfl) sa_nil)) (sn_name (i := 8) (m := .fr) rfl nio) nx_name (ss_seq (ss_set (i := 10) (m := (.own .fr)) (sx_of (se_op os_rep (se_lst (m := .fr) (sa_cons se_non sa_nil) (by decide)) (se_var (i := 4) (m := .fr) rfl))) (by decide) nio) (ss_seq (ss_set (i := 11) (m := .fr) (sx_of (se_fr (se_call (sa_cons (se_var (i := 4) (m := .fr) rfl) (sa_cons (se_var (i := 5) (m := .fr) rfl) (sa_cons (se_var (i := 8) (m := .fr) rfl) (sa_cons se_bl sa_nil)))) hx0) rfl)) (by decide) nio) (ss_seq (ss_for (si_rng1 (sa_cons (se_var (i := 4) (m := .fr) rfl) sa_nil)) (sn_name (i := 12) (m := .fr) rfl nio) nx_name (ss_if (st_tt (se_op os_notN (se_op os_ix (se_var (i := 11) (m := .fr) rfl) (se_var (i := 12) (m := .fr) rfl)) se_non)) (ss_seti (i := 10) (m := .fr) rfl (sx_of (se_op os_ix (se_op os_ix (se_var (i := 11) (m := .fr) rfl) (se_var (i := 12) (m := .fr) rfl)) se_int)) (se_var (i := 12) (m := .fr) rfl) rfl) ss_nil)) (ss_expr (sx_app (i := 9) (m := .fr) rfl (sx_fr (sx_move (i := 10) (m := (.own .fr)) rfl) rfl) rfl)))))) (ss_seq (ss_if (st_or (st_tt (se_op os_ne (se_fr (se_call (sa_cons (se_var (i := 6) (m := .fr) rfl) sa_nil) hx0) rfl) (se_var (i := 9) (m := (.own .fr)) rfl))) (st_tt (se_op os_ne (se_fr (se_call (sa_cons (se_var (i := 6) (m := .fr) rfl) sa_nil) hx0) rfl) (se_fr (se_call (sa_cons (se_var (i := 9) (m := (.own .fr)) rfl) sa_nil) hx0) rfl)))) (ss_ret (Γ' := [.sc, .fr, .fr, .fr, .fr, .fr, .fr, .fr, .fr, (.own .fr), (.own .fr), .fr, .fr, .fr, .fr, .fr]) (sx_of se_bl)) ss_nil) (ss_seq (ss_set (i := 13) (m := .fr) (sx_of (se_op os_sub (se_neg se_int) (se_call (sa_cons (se_var (i := 1) (m := .fr) rfl) (sa_cons se_int (sa_cons se_int sa_nil))) hx0))) (by decide) nio) (ss_seq (ss_set (i := 14) (m := .fr) (sx_of (se_fr (se_op os_add (se_var (i := 4) (m := .fr) rfl) (se_call (sa_cons (se_var (i := 1) (m := .fr) rfl) (sa_cons se_int (sa_cons se_int sa_nil))) hx0)) rfl)) (by decide) nio) (ss_seq (ss_for (si_rng1 (sa_cons se_int sa_nil)) (sn_name (i := 15) (m := .fr) rfl nio) nx_name (ss_seq (ss_if (st_tt (se_op os_ne (se_call (sa_cons (se_var (i := 15) (m := .fr) rfl) (sa_cons (se_var (i := 6) (m := .fr) rfl) (sa_cons (se_var (i := 13) (m := .fr) rfl) (sa_cons (se_var (i := 14) (m := .fr) rfl) (sa_cons se_bl sa_nil))))) hx0) (se_tup (sa_cons se_bl (sa_cons (se_var (i := 13) (m := .fr) rfl) sa_nil)) (by decide)))) (ss_ret (Γ' := [.sc, .fr, .fr, .fr, .fr, .fr, .fr, .fr, .fr, (.own .fr), (.own .fr), .fr, .fr, .fr, .fr, .fr]) (sx_of se_bl)) ss_nil) (ss_if (st_and (st_tt (se_op os_gt (se_var (i := 15) (m := .fr) rfl) se_int)) (st_tt (se_op os_ne (se_call (sa_cons (se_var (i := 15) (m := .fr) rfl) (sa_cons (se_var (i := 6) (m := .fr) rfl) (sa_cons se_int (sa_cons (se_var (i := 14) (m := .fr) rfl) (sa_cons se_bl sa_nil))))) hx0) (se_tup (sa_cons se_bl (sa_cons (se_var (i := 14) (m := .fr) rfl) sa_nil)) (by decide))))) (ss_ret (Γ' := [.sc, .fr, .fr, .fr, .fr, .fr, .fr, .fr, .fr, (.own .fr), (.own .fr), .fr, .fr, .fr, .fr, .fr]) (sx_of se_bl)) ss_nil))) (ss_ret (Γ' := [.sc, .fr, .fr, .fr, .fr, .fr, .fr, .fr, .fr, (.own .fr), (.own .fr), .fr, .fr, .fr, .fr, .fr]) (sx_of (se_op os_eq (se_fr (se_meth (mn := "edges") (se_var (i := 6) (m := .fr) rfl) sa_nil T.g_Network hx0) rfl) (se_var (i := 5) (m := .fr) rfl))))))))))))))))
end
end M
end

/-! text Hd -/
section
set_option maxRecDepth 100000
set_option maxHeartbeats 8000000
namespace M
open PySem PySem.Spec PyProof.Rows L2 DL
/-! the head -/
def fnX : List He.DefD := [⟨("Network", some "check_vertex"), "check_vertex", "Network.check_vertex", defArgs s_Network_check_vertex, defBody s_Network_check_vertex, defScope s_Network_check_vertex, [], []⟩,
  ⟨("Network", some "leaving"), "leaving", "Network.leaving", defArgs s_Network_leaving, defBody s_Network_leaving, defScope s_Network_leaving, [], []⟩,
  ⟨("Network", some "other_end"), "other_end", "Network.other_end", defArgs s_Network_other_end, defBody s_Network_other_end, defScope s_Network_other_end, [], []⟩,
  ⟨("Network", some "around"), "around", "Network.around", defArgs s_Network_around, defBody s_Network_around, defScope s_Network_around, [], []⟩,
  ⟨("steps_from", none), "steps_from", "steps_from", defArgs s_steps_from, defBody s_steps_from, defScope s_steps_from, [], []⟩,
  ⟨("Network", some "edges"), "edges", "Network.edges", defArgs s_Network_edges, defBody s_Network_edges, defScope s_Network_edges, [], []⟩,
  ⟨("Network", some "size"), "size", "Network.size", defArgs s_Network_size, defBody s_Network_size, defScope s_Network_size, [], []⟩,
  ⟨("told_labels", none), "told_labels", "told_labels", defArgs s_told_labels, defBody s_told_labels, defScope s_told_labels, [], []⟩,
  ⟨("least_prices", none), "least_prices", "least_prices", defArgs s_least_prices, defBody s_least_prices, defScope s_least_prices, [], []⟩,
  ⟨("told_path", none), "told_path", "told_path", defArgs s_told_path, defBody s_told_path, defScope s_told_path, [], []⟩,
  ⟨("is_bound", none), "is_bound", "is_bound", defArgs s_is_bound, defBody s_is_bound, defScope s_is_bound, [], []⟩,
  ⟨("check_path", none), "check_path", "check_path", defArgs s_check_path, defBody s_check_path, defScope s_check_path, [], []⟩,
  ⟨("distances", none), "distances", "distances", defArgs s_distances, defBody s_distances, defScope s_distances, [], []⟩,
  ⟨("components", none), "components", "components", defArgs s_components, defBody s_components, defScope s_components, [], []⟩,
  ⟨("check_edge", none), "check_edge", "check_edge", defArgs s_check_edge, defBody s_check_edge, defScope s_check_edge, [], []⟩,
  ⟨("_law_draws", none), "_law_draws", "_law_draws", defArgs s__law_draws, defBody s__law_draws, defScope s__law_draws, [], []⟩,
  ⟨("_law_mix", none), "_law_mix", "_law_mix", defArgs s__law_mix, defBody s__law_mix, defScope s__law_mix, [], []⟩,
  ⟨("_law_network", none), "_law_network", "_law_network", defArgs s__law_network, defBody s__law_network, defScope s__law_network, [], []⟩,
  ⟨("_law_steps", none), "_law_steps", "_law_steps", defArgs s__law_steps, defBody s__law_steps, defScope s__law_steps, [], []⟩,
  ⟨("_law_labels", none), "_law_labels", "_law_labels", defArgs s__law_labels, defBody s__law_labels, defScope s__law_labels, [], []⟩,
  ⟨("_law_refused", none), "_law_refused", "_law_refused", defArgs s__law_refused, defBody s__law_refused, defScope s__law_refused, [], []⟩,
  ⟨("_law_start_right", none), "_law_start_right", "_law_start_right", defArgs s__law_start_right, defBody s__law_start_right, defScope s__law_start_right, [], []⟩,
  ⟨("_law_components", none), "_law_components", "_law_components", defArgs s__law_components, defBody s__law_components, defScope s__law_components, [], []⟩,
  ⟨("Network", some "__init__"), "__init__", "Network.__init__", defArgs s_Network___init__, defBody s_Network___init__, defScope s_Network___init__, [], []⟩,
  ⟨("law", none), "law", "law", defArgs s_law, defBody s_law, defScope s_law, [], []⟩]
def qsX : Qs := [(fun K => (He.Fa.meth "Network" "check_vertex").ok K),
  (fun K => (He.Fa.meth "Network" "leaving").ok K),
  (fun K => (He.Fa.meth "Network" "other_end").ok K),
  (fun K => (He.Fa.meth "Network" "around").ok K),
  (fun K => (He.Fa.glo "steps_from").ok K),
  (fun K => (He.Fa.meth "Network" "edges").ok K),
  (fun K => (He.Fa.meth "Network" "size").ok K),
  (fun K => (He.Fa.glo "told_labels").ok K),
  (fun K => (He.Fa.glo "least_prices").ok K),
  (fun K => (He.Fa.glo "told_path").ok K),
  (fun K => (He.Fa.glo "is_bound").ok K),
  (fun K => (He.Fa.glo "check_path").ok K),
  (fun K => (He.Fa.glo "distances").ok K),
  (fun K => (He.Fa.glo "components").ok K),
  (fun K => (He.Fa.glo "check_edge").ok K),
  (fun K => (He.Fa.glo "_law_draws").ok K),
  (fun K => (He.Fa.glo "_law_mix").ok K),
  (fun K => (He.Fa.glo "_law_network").ok K),
  (fun K => (He.Fa.glo "_law_steps").ok K),
  (fun K => (He.Fa.glo "_law_labels").ok K),
  (fun K => (He.Fa.glo "_law_refused").ok K),
  (fun K => (He.Fa.glo "_law_start_right").ok K),
  (fun K => (He.Fa.glo "_law_components").ok K),
  (fun K => (He.Fa.mkr "Network").ok K),
  (fun K => (He.Fa.glo "law").ok K),
  (fun K => (He.Fa.glo "Network").ok K),
  (fun K => (He.Fa.cls "Network").ok K),
  (fun K => (He.Fa.noat "Network" "_edges").ok K),
  (fun K => (He.Fa.noat "Network" "_size").ok K),
  (fun K => (He.Fa.int "MOST_EDGES" 200).ok K),
  (fun K => (He.Fa.int "MOST_PRICE" 1048576).ok K),
  (fun K => (He.Fa.int "MOST_VERTICES" 40).ok K),
  (fun K => (He.Fa.free "abs").ok K),
  (fun K => (He.Fa.free "dict").ok K),
  (fun K => (He.Fa.free "int").ok K),
  (fun K => (He.Fa.free "isinstance").ok K),
  (fun K => (He.Fa.free "len").ok K),
  (fun K => (He.Fa.free "list").ok K),
  (fun K => (He.Fa.free "min").ok K),
  (fun K => (He.Fa.free "range").ok K),
  (fun K => (He.Fa.glo "WebError").ok K),
  (fun K => (He.Fa.free "super").ok K),
  (iniB "WebError" PySem.Challenge.pw_trunkweb_k02_whole_shortest_paths.main.file),
  thpB,
  (gloB ecsX),
  (clsB "WebError" ecsX),
  (exmB "WebError" ecsX),
  (isB ecsX)]
abbrev RX : PySem.W.OpenRow := PySem.W.OpenLaw.row PySem.Challenge.rw_trunkweb_k02_whole_shortest_paths
def iniS : Stmt := inClass (topS 11) 0
def iniV : IniW := some (("__init__" : Str), ("WebError.__init__" : Str), defArgs iniS, FuncBody.stmts (defBody iniS), defScope iniS, mainGlobals, builtinsNs)
abbrev hkX : PySem.W.Hook := hookY 4 qsX fnX "WebError" iniV
def obX (s : PySem.W.SharedT) : AlY := obsYG 4 qsX fnX "WebError" (HandSHeadRun.getT s)
theorem obX_eq (s : PySem.W.SharedT) : obX s = hkX.obs s.abs := obsYG_eq (HandSHeadRun.getT_eq s)
def nmX0 : List PySem.Str := ["_wall", "steps_from", "told_labels", "least_prices", "told_path", "is_bound", "check_path", "distances", "components", "WebError", "OutOfRange", "BadVertex", "BadPrice", "TooMany", "MOST_VERTICES", "MOST_EDGES", "MOST_PRICE", "check_edge", "Network", "_law_draws", "_law_mix", "_law_network", "_law_steps", "_law_labels", "_law_refused", "_law_start_right", "_law_components"]
def nmX : List PySem.Str := nmX0
theorem runX (w : World) : HandSHeadRun.RunEq RX (PySem.W.view RX.prog [31]) hkX obX 4000 nmX w := by
  intro os
  kernel_rfl
end M
end

/-! text End -/
section
set_option maxRecDepth 100000
set_option maxHeartbeats 8000000
namespace M
open PySem PySem.Spec PyProof.Rows L2 DL
theorem facts {w : World} {K : PySem.W.Frag} {h : Heap} {mg : Str → Option Value} {f : Addr} (X : K.In h) (G : h.Ns mainGlobals mg) (hfa : mg ("law" : Str) = some (.ref f)) (c : SaysX qsX fnX K) (ei : iniW K "WebError" = (some (("__init__" : Str), ("WebError.__init__" : Str), defArgs iniS, FuncBody.stmts (defBody iniS), defScope iniS, mainGlobals, builtinsNs) : IniW)) :
    ∃ fd : FuncData, (∀ (s : Shared) (v : Value), BindsTo s fd ⟨[v], []⟩ [("_law_script", v)]) ∧ ∀ base : Heap, K.In base → base.Ns mainGlobals mg → FnOk PySem.Challenge.pw_trunkweb_k02_whole_shortest_paths w K mg base CX0 10 f fd ["_law_script"] (spD K mg X0 [.sc] .fr m_law) := by
  obtain ⟨fd_Network_check_vertex, F_Network_check_vertex⟩ := c.def_ 0 (d := ⟨("Network", some "check_vertex"), "check_vertex", "Network.check_vertex", defArgs s_Network_check_vertex, defBody s_Network_check_vertex, defScope s_Network_check_vertex, [], []⟩) rfl
  obtain ⟨fd_Network_leaving, F_Network_leaving⟩ := c.def_ 1 (d := ⟨("Network", some "leaving"), "leaving", "Network.leaving", defArgs s_Network_leaving, defBody s_Network_leaving, defScope s_Network_leaving, [], []⟩) rfl
  obtain ⟨fd_Network_other_end, F_Network_other_end⟩ := c.def_ 2 (d := ⟨("Network", some "other_end"), "other_end", "Network.other_end", defArgs s_Network_other_end, defBody s_Network_other_end, defScope s_Network_other_end, [], []⟩) rfl
  obtain ⟨fd_Network_around, F_Network_around⟩ := c.def_ 3 (d := ⟨("Network", some "around"), "around", "Network.around", defArgs s_Network_around, defBody s_Network_around, defScope s_Network_around, [], []⟩) rfl
  obtain ⟨fd_steps_from, F_steps_from⟩ := c.def_ 4 (d := ⟨("steps_from", none), "steps_from", "steps_from", defArgs s_steps_from, defBody s_steps_from, defScope s_steps_from, [], []⟩) rfl
  obtain ⟨fd_Network_edges, F_Network_edges⟩ := c.def_ 5 (d := ⟨("Network", some "edges"), "edges", "Network.edges", defArgs s_Network_edges, defBody s_Network_edges, defScope s_Network_edges, [], []⟩) rfl
  obtain ⟨fd_Network_size, F_Network_size⟩ := c.def_ 6 (d := ⟨("Network", some "size"), "size", "Network.size", defArgs s_Network_size, defBody s_Network_size, defScope s_Network_size, [], []⟩) rfl
  obtain ⟨fd_told_labels, F_told_labels⟩ := c.def_ 7 (d := ⟨("told_labels", none), "told_labels", "told_labels", defArgs s_told_labels, defBody s_told_labels, defScope s_told_labels, [], []⟩) rfl
  obtain ⟨fd_least_prices, F_least_prices⟩ := c.def_ 8 (d := ⟨("least_prices", none), "least_prices", "least_prices", defArgs s_least_prices, defBody s_least_prices, defScope s_least_prices, [], []⟩) rfl
  obtain ⟨fd_told_path, F_told_path⟩ := c.def_ 9 (d := ⟨("told_path", none), "told_path", "told_path", defArgs s_told_path, defBody s_told_path, defScope s_told_path, [], []⟩) rfl
  obtain ⟨fd_is_bound, F_is_bound⟩ := c.def_ 10 (d := ⟨("is_bound", none), "is_bound", "is_bound", defArgs s_is_bound, defBody s_is_bound, defScope s_is_bound, [], []⟩) rfl
  obtain ⟨fd_check_path, F_check_path⟩ := c.def_ 11 (d := ⟨("check_path", none), "check_path", "check_path", defArgs s_check_path, defBody s_check_path, defScope s_check_path, [], []⟩) rfl
  obtain ⟨fd_distances, F_distances⟩ := c.def_ 12 (d := ⟨("distances", none), "distances", "distances", defArgs s_distances, defBody s_distances, defScope s_distances, [], []⟩) rfl
  obtain ⟨fd_components, F_components⟩ := c.def_ 13 (d := ⟨("components", none), "components", "components", defArgs s_components, defBody s_components, defScope s_components, [], []⟩) rfl
  obtain ⟨fd_check_edge, F_check_edge⟩ := c.def_ 14 (d := ⟨("check_edge", none), "check_edge", "check_edge", defArgs s_check_edge, defBody s_check_edge, defScope s_check_edge, [], []⟩) rfl
  obtain ⟨fd__law_draws, F__law_draws⟩ := c.def_ 15 (d := ⟨("_law_draws", none), "_law_draws", "_law_draws", defArgs s__law_draws, defBody s__law_draws, defScope s__law_draws, [], []⟩) rfl
  obtain ⟨fd__law_mix, F__law_mix⟩ := c.def_ 16 (d := ⟨("_law_mix", none), "_law_mix", "_law_mix", defArgs s__law_mix, defBody s__law_mix, defScope s__law_mix, [], []⟩) rfl
  obtain ⟨fd__law_network, F__law_network⟩ := c.def_ 17 (d := ⟨("_law_network", none), "_law_network", "_law_network", defArgs s__law_network, defBody s__law_network, defScope s__law_network, [], []⟩) rfl
  obtain ⟨fd__law_steps, F__law_steps⟩ := c.def_ 18 (d := ⟨("_law_steps", none), "_law_steps", "_law_steps", defArgs s__law_steps, defBody s__law_steps, defScope s__law_steps, [], []⟩) rfl
  obtain ⟨fd__law_labels, F__law_labels⟩ := c.def_ 19 (d := ⟨("_law_labels", none), "_law_labels", "_law_labels", defArgs s__law_labels, defBody s__law_labels, defScope s__law_labels, [], []⟩) rfl
  obtain ⟨fd__law_refused, F__law_refused⟩ := c.def_ 20 (d := ⟨("_law_refused", none), "_law_refused", "_law_refused", defArgs s__law_refused, defBody s__law_refused, defScope s__law_refused, [], []⟩) rfl
  obtain ⟨fd__law_start_right, F__law_start_right⟩ := c.def_ 21 (d := ⟨("_law_start_right", none), "_law_start_right", "_law_start_right", defArgs s__law_start_right, defBody s__law_start_right, defScope s__law_start_right, [], []⟩) rfl
  obtain ⟨fd__law_components, F__law_components⟩ := c.def_ 22 (d := ⟨("_law_components", none), "_law_components", "_law_components", defArgs s__law_components, defBody s__law_components, defScope s__law_components, [], []⟩) rfl
  obtain ⟨fd_Network___init__, F_Network___init__⟩ := c.def_ 23 (d := ⟨("Network", some "__init__"), "__init__", "Network.__init__", defArgs s_Network___init__, defBody s_Network___init__, defScope s_Network___init__, [], []⟩) rfl
  obtain ⟨fd_law, F_law⟩ := c.def_ 24 (d := ⟨("law", none), "law", "law", defArgs s_law, defBody s_law, defScope s_law, [], []⟩) rfl
  obtain ⟨xI, xe1, xe2⟩ := init_of (P := PySem.Challenge.pw_trunkweb_k02_whole_shortest_paths) (mg := mg) ei (c.fact 42) (c.fact 43) (He.free_ok X G (c.fact 41)) (by kernel_rfl) rfl rfl (fun _ _ _ _ _ _ _ _ _ => rfl) (fun _ _ _ _ => ⟨_, rfl⟩)
  let T : Tp PySem.Challenge.pw_trunkweb_k02_whole_shortest_paths K mg := {
    xi := xI
    gc_root := by rw [xe1]; exact He.glo_ok X G (c.fact 40)
    c_OutOfRange := He.ga K "OutOfRange"
    gc_OutOfRange := glo_at X G (c.fact 44) (nth_mem 0 rfl)
    c_BadVertex := He.ga K "BadVertex"
    gc_BadVertex := glo_at X G (c.fact 44) (nth_mem 1 rfl)
    c_BadPrice := He.ga K "BadPrice"
    gc_BadPrice := glo_at X G (c.fact 44) (nth_mem 2 rfl)
    c_TooMany := He.ga K "TooMany"
    gc_TooMany := glo_at X G (c.fact 44) (nth_mem 3 rfl)
    ex := by rw [xe1, xe2]; exact cls_at X G (c.fact 44) (c.fact 45)
    exm := by rw [xe1]; exact exm_at X G (c.fact 44) (c.fact 46)
    is := is_at X G (c.fact 44) (c.fact 47)
    c_Network := He.ga K "Network"
    g_Network := He.glo_ok X G (c.fact 25)
    cl_Network := He.cls_ok (c.fact 26)
    na_Network__edges := He.noat_ok (c.fact 27)
    na_Network__size := He.noat_ok (c.fact 28)
    a_Network_check_vertex := He.ma K (He.ga K "Network") "check_vertex"
    fd_Network_check_vertex := fd_Network_check_vertex
    F_Network_check_vertex := F_Network_check_vertex
    b_Network_check_vertex := FunD.bindsN F_Network_check_vertex fun _ _ _ _ _ _ us hl => match us, hl with | [_, _], _ => rfl
    me_Network_check_vertex := He.meth_ok (c.fact 0)
    a_Network_leaving := He.ma K (He.ga K "Network") "leaving"
    fd_Network_leaving := fd_Network_leaving
    F_Network_leaving := F_Network_leaving
    b_Network_leaving := FunD.bindsN F_Network_leaving fun _ _ _ _ _ _ us hl => match us, hl with | [_, _], _ => rfl
    me_Network_leaving := He.meth_ok (c.fact 1)
    a_Network_other_end := He.ma K (He.ga K "Network") "other_end"
    fd_Network_other_end := fd_Network_other_end
    F_Network_other_end := F_Network_other_end
    b_Network_other_end := FunD.bindsN F_Network_other_end fun _ _ _ _ _ _ us hl => match us, hl with | [_, _, _], _ => rfl
    me_Network_other_end := He.meth_ok (c.fact 2)
    a_Network_around := He.ma K (He.ga K "Network") "around"
    fd_Network_around := fd_Network_around
    F_Network_around := F_Network_around
    b_Network_around := FunD.bindsN F_Network_around fun _ _ _ _ _ _ us hl => match us, hl with | [_, _], _ => rfl
    me_Network_around := He.meth_ok (c.fact 3)
    a_steps_from := He.ga K "steps_from"
    fd_steps_from := fd_steps_from
    F_steps_from := F_steps_from
    g_steps_from := He.glo_ok X G (c.fact 4)
    b_steps_from := FunD.bindsN F_steps_from fun _ _ _ _ _ _ us hl => match us, hl with | [_, _, _], _ => rfl
    a_Network_edges := He.ma K (He.ga K "Network") "edges"
    fd_Network_edges := fd_Network_edges
    F_Network_edges := F_Network_edges
    b_Network_edges := FunD.bindsN F_Network_edges fun _ _ _ _ _ _ us hl => match us, hl with | [_], _ => rfl
    me_Network_edges := He.meth_ok (c.fact 5)
    a_Network_size := He.ma K (He.ga K "Network") "size"
    fd_Network_size := fd_Network_size
    F_Network_size := F_Network_size
    b_Network_size := FunD.bindsN F_Network_size fun _ _ _ _ _ _ us hl => match us, hl with | [_], _ => rfl
    me_Network_size := He.meth_ok (c.fact 6)
    a_told_labels := He.ga K "told_labels"
    fd_told_labels := fd_told_labels
    F_told_labels := F_told_labels
    g_told_labels := He.glo_ok X G (c.fact 7)
    b_told_labels := FunD.bindsN F_told_labels fun _ _ _ _ _ _ us hl => match us, hl with | [_, _, _], _ => rfl
    a_least_prices := He.ga K "least_prices"
    fd_least_prices := fd_least_prices
    F_least_prices := F_least_prices
    g_least_prices := He.glo_ok X G (c.fact 8)
    b_least_prices := FunD.bindsN F_least_prices fun _ _ _ _ _ _ us hl => match us, hl with | [_, _, _], _ => rfl
    a_told_path := He.ga K "told_path"
    fd_told_path := fd_told_path
    F_told_path := F_told_path
    g_told_path := He.glo_ok X G (c.fact 9)
    b_told_path := FunD.bindsN F_told_path fun _ _ _ _ _ _ us hl => match us, hl with | [_, _, _, _], _ => rfl
    a_is_bound := He.ga K "is_bound"
    fd_is_bound := fd_is_bound
    F_is_bound := F_is_bound
    g_is_bound := He.glo_ok X G (c.fact 10)
    b_is_bound := FunD.bindsN F_is_bound fun _ _ _ _ _ _ us hl => match us, hl with | [_, _, _, _], _ => rfl
    a_check_path := He.ga K "check_path"
    fd_check_path := fd_check_path
    F_check_path := F_check_path
    g_check_path := He.glo_ok X G (c.fact 11)
    b_check_path := FunD.bindsN F_check_path fun _ _ _ _ _ _ us hl => match us, hl with | [_, _, _, _, _, _], _ => rfl
    a_distances := He.ga K "distances"
    fd_distances := fd_distances
    F_distances := F_distances
    g_distances := He.glo_ok X G (c.fact 12)
    b_distances := FunD.bindsN F_distances fun _ _ _ _ _ _ us hl => match us, hl with | [_], _ => rfl
    a_components := He.ga K "components"
    fd_components := fd_components
    F_components := F_components
    g_components := He.glo_ok X G (c.fact 13)
    b_components := FunD.bindsN F_components fun _ _ _ _ _ _ us hl => match us, hl with | [_], _ => rfl
    a_check_edge := He.ga K "check_edge"
    fd_check_edge := fd_check_edge
    F_check_edge := F_check_edge
    g_check_edge := He.glo_ok X G (c.fact 14)
    b_check_edge := FunD.bindsN F_check_edge fun _ _ _ _ _ _ us hl => match us, hl with | [_, _, _], _ => rfl
    a__law_draws := He.ga K "_law_draws"
    fd__law_draws := fd__law_draws
    F__law_draws := F__law_draws
    g__law_draws := He.glo_ok X G (c.fact 15)
    b__law_draws := FunD.bindsN F__law_draws fun _ _ _ _ _ _ us hl => match us, hl with | [_], _ => rfl
    a__law_mix := He.ga K "_law_mix"
    fd__law_mix := fd__law_mix
    F__law_mix := F__law_mix
    g__law_mix := He.glo_ok X G (c.fact 16)
    b__law_mix := FunD.bindsN F__law_mix fun _ _ _ _ _ _ us hl => match us, hl with | [_, _, _], _ => rfl
    a__law_network := He.ga K "_law_network"
    fd__law_network := fd__law_network
    F__law_network := F__law_network
    g__law_network := He.glo_ok X G (c.fact 17)
    b__law_network := FunD.bindsN F__law_network fun _ _ _ _ _ _ us hl => match us, hl with | [_, _, _, _, _], _ => rfl
    a__law_steps := He.ga K "_law_steps"
    fd__law_steps := fd__law_steps
    F__law_steps := F__law_steps
    g__law_steps := He.glo_ok X G (c.fact 18)
    b__law_steps := FunD.bindsN F__law_steps fun _ _ _ _ _ _ us hl => match us, hl with | [_, _], _ => rfl
    a__law_labels := He.ga K "_law_labels"
    fd__law_labels := fd__law_labels
    F__law_labels := F__law_labels
    g__law_labels := He.glo_ok X G (c.fact 19)
    b__law_labels := FunD.bindsN F__law_labels fun _ _ _ _ _ _ us hl => match us, hl with | [_, _, _, _], _ => rfl
    a__law_refused := He.ga K "_law_refused"
    fd__law_refused := fd__law_refused
    F__law_refused := F__law_refused
    g__law_refused := He.glo_ok X G (c.fact 20)
    b__law_refused := FunD.bindsN F__law_refused fun _ _ _ _ _ _ us hl => match us, hl with | [_, _, _, _, _], _ => rfl
    a__law_start_right := He.ga K "_law_start_right"
    fd__law_start_right := fd__law_start_right
    F__law_start_right := F__law_start_right
    g__law_start_right := He.glo_ok X G (c.fact 21)
    b__law_start_right := FunD.bindsN F__law_start_right fun _ _ _ _ _ _ us hl => match us, hl with | [_, _, _, _, _], _ => rfl
    a__law_components := He.ga K "_law_components"
    fd__law_components := fd__law_components
    F__law_components := F__law_components
    g__law_components := He.glo_ok X G (c.fact 22)
    b__law_components := FunD.bindsN F__law_components fun _ _ _ _ _ _ us hl => match us, hl with | [_], _ => rfl
    a_Network___init__ := He.ma K (He.ga K "Network") "__init__"
    fd_Network___init__ := fd_Network___init__
    F_Network___init__ := F_Network___init__
    b_Network___init__ := FunD.bindsN F_Network___init__ fun _ _ _ _ _ _ us hl => match us, hl with | [_, _, _], _ => rfl
    mk_Network := He.mkr_ok (c.fact 23)
    a_law := He.ga K "law"
    fd_law := fd_law
    F_law := F_law
    g_law := He.glo_ok X G (c.fact 24)
    b_law := FunD.bindsN F_law fun _ _ _ _ _ _ us hl => match us, hl with | [_], _ => rfl
    k_MOST_EDGES := He.int_ok X G (c.fact 29)
    k_MOST_PRICE := He.int_ok X G (c.fact 30)
    k_MOST_VERTICES := He.int_ok X G (c.fact 31)
    z_abs := He.free_ok X G (c.fact 32)
    z_dict := He.free_ok X G (c.fact 33)
    z_int := He.free_ok X G (c.fact 34)
    z_isinstance := He.free_ok X G (c.fact 35)
    z_len := He.free_ok X G (c.fact 36)
    z_list := He.free_ok X G (c.fact 37)
    z_min := He.free_ok X G (c.fact 38)
    z_range := He.free_ok X G (c.fact 39)
  }
  have e := hfa.symm.trans T.g_law
  cases e
  exact ⟨fd_law, fun s v => FunD.bindsA (ps := ["_law_script"]) F_law (fun _ _ _ _ _ _ us hl => match us, hl with | [_], _ => rfl) s [v] rfl, fun base _ _ => ok_law T⟩
end M
open PySem PySem.W PySem.Calls PyProof.Rows
set_option maxHeartbeats 0 in
theorem PySem.Challenge.cw_trunkweb_k02_whole_shortest_paths_holds : PySem.Challenge.rw_trunkweb_k02_whole_shortest_paths.Holds := by
  w_on; o_law
  refine HandSHeadRun.head_any (r := M.RX) (q := view M.RX.prog [31]) (H := M.hkX) (ob := M.obX) (M := 4000) (loose := M.nmX) (d := HandSHeadRun.topDef M.RX.prog 31) (kwd := []) M.obX_eq
    (by kernel_rfl) (fun s => by kernel_rfl) M.runX (by kernel_rfl) (by kernel_rfl) (by kernel_rfl) (by rfl) (by first | assumption | decide +kernel) (by decide +kernel) ⟨rfl, rfl, rfl, rfl, rfl, by decide +kernel⟩ ?hw ?hc
  case hw => w_witness2
  case hc =>
    refine L2.walk_ofE (l := PySem.Challenge.rw_trunkweb_k02_whole_shortest_paths) (n := 63) (k := 10) (x := "_law_script") (CX := L2.CX0) rfl (by decide) (by kernel_rfl) ⟨rfl, by decide, by decide⟩ ?F (fun _ _ _ _ z => z)
    intro w mg fa h Y G hmg0
    obtain ⟨K, KX, c, ei⟩ := Y
    have hmg : mg ("law" : PySem.Str) = some (.ref fa) := by
      have e : (HandSHeadRun.topDef M.RX.prog 31).name = ("law" : PySem.Str) := by kernel_rfl
      rw [← e]
      exact hmg0
    obtain ⟨fd, hb, hF⟩ := M.facts (w := w) KX G hmg c ei
    exact ⟨_, fd, DL.spD _ mg DL.X0 [.sc] .fr M.m_law, KX, hb, fun H a ns hl _ hS => DL.law_end (M.law_true ns hl) hS, hF⟩
end
